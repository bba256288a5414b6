import PyProof.Rows.All
import Wide.All
import OpenK.AllK
import Wide.FinOn
import HandS.ForMost
import HandS.Exc
import HandS.TryOnly
import HandS.ExcOwn
import HandS.WordsExc
import HandS.Defaults
import HandS.Small
import HandS.RaiseMore
import HandS.More
import HandS.NoneIn
import HandS.CallSlots
import HandS.Zip
import HandS.Iter
import KE.GoesMore
import KE.GoesEnumKw
import PyProof.Rows.SetFrom
import HandS.Set
import HandS.SetTxt0
import HandS.SetBool
import HandS.SetFor
import HandS.Text
import HandS.IsInst
import PyProof.InstNe
import HandS.MakeKwOnly
import PyProof.CollectIter
import PyProof.WalksMore
import HandS.Dict
import HandS.EndOwn
import PyProof.Rows.RegFStrParts
import PySem.Challenge.RW_osier_k16_programs_told
set_option Elab.async false
set_option linter.all false
set_option maxRecDepth 100000
set_option maxHeartbeats 4000000
/-! Oz: a small machine of values, over which the program is told again. -/
namespace Oz
open PySem L2

/-! ### values, objects, ends -/
inductive Vl where
  | non | bl (b : Bool) | int (i : Int) | str (s : Str)
  | tup (xs : List Vl) | lst (xs : List Vl) | dct (ks : List Key) (vs : List Vl) | obj (c : Str) (ns : List Str) (vs : List Vl)
  | ref (r : Nat)
  deriving Inhabited
inductive Ob where
  | lst (xs : List Vl) | dct (ks : List Key) (vs : List Vl) | ins (c : Str) (ns : List Str) (vs : List Vl)
  deriving Inhabited
def Ob.inl : Ob → Vl
  | .lst xs => .lst xs
  | .dct ks vs => .dct ks vs
  | .ins c ns vs => .obj c ns vs
abbrev Hs := List Ob
abbrev Sg := List (Option Vl)
/-- an error: its class, its fields where it has a dict of its own -/
structure Xc where
  c : Str
  fs : Option (List Str × List Vl)
inductive Res (α : Type) where
  | ok (a : α) (S : Hs) | exc (x : Xc) (S : Hs) | bad
def Res.bind {α β : Type} (r : Res α) (f : α → Hs → Res β) : Res β := match r with
  | .ok a S => f a S
  | .exc x S => .exc x S
  | .bad => .bad
/-- what a call hands back: a value, or a thing that is new -/
inductive Rv where
  | val (v : Vl) | frs (o : Ob)
inductive Out where
  | nx (η : Sg) (S : Hs) | ret (r : Rv) (S : Hs) | brk (η : Sg) (S : Hs) | cnt (η : Sg) (S : Hs) | exc (x : Xc) (η : Sg) (S : Hs) | bad

/-! ### the relation to the hand layer's heap -/
structure Glb where
  K : PySem.W.Frag
  cl : Str → Addr
mutual
def Vl.lim (n : Nat) : Vl → Bool
  | .tup xs | .lst xs | .dct _ xs | .obj _ _ xs => limAll n xs
  | .ref r => r < n
  | _ => true
def limAll (n : Nat) : List Vl → Bool
  | [] => true
  | x :: xs => Vl.lim n x && limAll n xs
end
section
variable (G : Glb) (ρ : List Addr) (H : Hp)
/-- a list (a tuple) that is read and that nobody changes -/
def StL (a : Addr) (vs : List V) : Prop := Rd H a (.lst vs) ∧ a ∉ ρ
def StT (a : Addr) (vs : List V) : Prop := (Rd H a (.tup vs) ∧ a ∉ ρ) ∨ (SqT G.K (fun _ => none) a vs)
mutual
def VR : Vl → V → Prop
  | .non, v => v = .non
  | .bl b, v => v = .bl b
  | .int i, v => v = .int i
  | .str s, v => v = .str s
  | .tup xs, v => ∃ a vs, v = .ref a ∧ StT G ρ H a vs ∧ VRs xs vs
  | .lst xs, v => ∃ a vs, v = .ref a ∧ StL ρ H a vs ∧ VRs xs vs
  | .dct ks xs, v => ∃ a kvs, v = .ref a ∧ H a = some (.dK kvs) ∧ a ∉ ρ ∧ kvs.map (·.1) = ks ∧ VRs xs (kvs.map (·.2))
  | .obj c ns xs, v => ∃ a dx fs, v = .ref a ∧ H a = some (.ins (G.cl c) dx fs) ∧ a ∉ ρ ∧ fs.map (·.1) = ns ∧ VRs xs (fs.map (·.2))
  | .ref r, v => ∃ a, v = .ref a ∧ ρ[r]? = some a
def VRs : List Vl → List V → Prop
  | [], vs => vs = []
  | x :: xs, vs => ∃ v r, vs = v :: r ∧ VR x v ∧ VRs xs r
end
/-- an object stands at a -/
def OR (a : Addr) : Ob → Prop
  | .lst xs => ∃ vs, H a = some (.lst vs) ∧ VRs G ρ H xs vs
  | .dct ks xs => ∃ kvs, H a = some (.dK kvs) ∧ kvs.map (·.1) = ks ∧ VRs G ρ H xs (kvs.map (·.2))
  | .ins c ns xs => ∃ dx fs, H a = some (.ins (G.cl c) dx fs) ∧ fs.map (·.1) = ns ∧ VRs G ρ H xs (fs.map (·.2))
structure Sim (S : Hs) : Prop where
  len : ρ.length = S.length
  nd : ρ.Nodup
  at_ : ∀ (r : Nat) (o : Ob) (a : Addr), S[r]? = some o → ρ[r]? = some a → OR G ρ H a o
/-- names' values -/
structure ER (η : Sg) (σ : L2.St) : Prop where
  len : η.length = σ.length
  at_ : ∀ (i : Nat) (x : Vl), η[i]? = some (some x) → ∃ v, σ[i]? = some (some v) ∧ VR G ρ H x v
end
/-- from one state to a later one: what isn't told by ρ stands -/
structure Step (ρ : List Addr) (H : Hp) (ρ' : List Addr) (H' : Hp) : Prop where
  pre : ρ <+: ρ'
  keep : ∀ a o, H a = some o → a ∉ ρ → H' a = some o
  new : ∀ a, a ∈ ρ' → a ∈ ρ ∨ H a = none
theorem Step.refl (ρ : List Addr) (H : Hp) : Step ρ H ρ H := ⟨List.prefix_refl _, fun _ _ h _ => h, fun _ h => .inl h⟩
theorem Step.trans {ρ ρ1 ρ2 : List Addr} {H H1 H2 : Hp} (a : Step ρ H ρ1 H1) (b : Step ρ1 H1 ρ2 H2) : Step ρ H ρ2 H2 := by
  refine ⟨a.pre.trans b.pre, fun x o h n => ?_, fun x h => ?_⟩
  · have n1 : x ∉ ρ1 := fun q => (a.new x q).elim n fun z => by rw [h] at z; cases z
    exact b.keep x o (a.keep x o h n) n1
  · rcases b.new x h with h | h
    · exact a.new x h
    · by_cases n : x ∈ ρ
      · exact .inl n
      · refine .inr ?_
        cases q : H x with
        | none => rfl
        | some o => rw [a.keep x o q n] at h; cases h
theorem Step.out {ρ ρ' : List Addr} {H H' : Hp} (a : Step ρ H ρ' H') {x : Addr} {o : HO} (h : H x = some o) (n : x ∉ ρ) : x ∉ ρ' := fun q => (a.new x q).elim n fun z => by rw [h] at z; cases z
/-- the same, where foreign things (sets) may change -/
structure StepX (ρ : List Addr) (H : Hp) (ρ' : List Addr) (H' : Hp) : Prop where
  pre : ρ <+: ρ'
  keep : ∀ a o, H a = some o → a ∉ ρ → (∀ φ, o ≠ .ext φ) → H' a = some o
  ext : ∀ a φ, H a = some (.ext φ) → a ∉ ρ → ∃ ψ, H' a = some (.ext ψ)
  new : ∀ a, a ∈ ρ' → a ∈ ρ ∨ H a = none
theorem Step.x {ρ ρ' : List Addr} {H H' : Hp} (a : Step ρ H ρ' H') : StepX ρ H ρ' H' := ⟨a.pre, fun x o h n _ => a.keep x o h n, fun x φ h n => ⟨φ, a.keep x _ h n⟩, a.new⟩
theorem StepX.trans {ρ ρ1 ρ2 : List Addr} {H H1 H2 : Hp} (a : StepX ρ H ρ1 H1) (b : StepX ρ1 H1 ρ2 H2) : StepX ρ H ρ2 H2 := by
  have there : ∀ x o, H x = some o → x ∉ ρ → ∃ u, H1 x = some u := fun x o h n => by
    by_cases e : ∃ φ, o = .ext φ
    · obtain ⟨φ, rfl⟩ := e
      obtain ⟨ψ, q⟩ := a.ext x φ h n
      exact ⟨_, q⟩
    · exact ⟨o, a.keep x o h n fun φ q => e ⟨φ, q⟩⟩
  have n1 : ∀ x o, H x = some o → x ∉ ρ → x ∉ ρ1 := fun x o h n q => (a.new x q).elim n fun z => by rw [h] at z; cases z
  refine ⟨a.pre.trans b.pre, fun x o h n e => b.keep x o (a.keep x o h n e) (n1 x o h n) e, fun x φ h n => ?_, fun x h => ?_⟩
  · obtain ⟨ψ, q⟩ := a.ext x φ h n
    exact b.ext x ψ q (n1 x _ h n)
  · rcases b.new x h with h | h
    · exact a.new x h
    · by_cases n : x ∈ ρ
      · exact .inl n
      · refine .inr ?_
        cases q : H x with
        | none => rfl
        | some o =>
          obtain ⟨u, hu⟩ := there x o q n
          rw [hu] at h; cases h
theorem StepX.out {ρ ρ' : List Addr} {H H' : Hp} (a : StepX ρ H ρ' H') {x : Addr} {o : HO} (h : H x = some o) (n : x ∉ ρ) : x ∉ ρ' := fun q => (a.new x q).elim n fun z => by rw [h] at z; cases z
section
variable {G : Glb} {ρ ρ' : List Addr} {H H' : Hp}
theorem StepX.rd (a : StepX ρ H ρ' H') {x : Addr} {o : HO} (hx : ∀ φ, o ≠ .ext φ) (h : Rd H x o ∧ x ∉ ρ) : Rd H' x o ∧ x ∉ ρ' := by
  obtain ⟨h, n⟩ := h
  rcases h with h | ⟨ob, h⟩
  · exact ⟨.inl (a.keep _ _ h n hx), a.out h n⟩
  · exact ⟨.inr ⟨ob, a.keep _ _ h n (by intro φ q; cases q)⟩, a.out h n⟩
theorem StL.stepX (a : StepX ρ H ρ' H') {x : Addr} {vs : List V} (h : StL ρ H x vs) : StL ρ' H' x vs := a.rd (by intro φ q; cases q) h
theorem StT.stepX (a : StepX ρ H ρ' H') {x : Addr} {vs : List V} (h : StT G ρ H x vs) : StT G ρ' H' x vs := h.imp (a.rd (by intro φ q; cases q)) id
theorem StL.sq {K : PySem.W.Frag} {x : Addr} {vs : List V} (h : StL ρ H x vs) : SqL K H x vs := .inl h.1
theorem StT.sq {x : Addr} {vs : List V} (h : StT G ρ H x vs) : SqT G.K H x vs := by
  rcases h with ⟨h, _⟩ | h
  · exact .inl h
  · rcases h with (h | ⟨_, h⟩) | h
    · cases h
    · cases h
    · exact .inr h
mutual
theorem VR.stepX (a : StepX ρ H ρ' H') : ∀ (x : Vl) (v : V), VR G ρ H x v → VR G ρ' H' x v
  | .non, _, h | .bl _, _, h | .int _, _, h | .str _, _, h => by simpa only [VR] using h
  | .tup xs, v, h => by
    simp only [VR] at h ⊢
    obtain ⟨p, vs, e, h1, h2⟩ := h
    exact ⟨p, vs, e, h1.stepX a, VRs.stepX a xs vs h2⟩
  | .lst xs, v, h => by
    simp only [VR] at h ⊢
    obtain ⟨p, vs, e, h1, h2⟩ := h
    exact ⟨p, vs, e, h1.stepX a, VRs.stepX a xs vs h2⟩
  | .dct ks xs, v, h => by
    simp only [VR] at h ⊢
    obtain ⟨p, kvs, e, h1, n, h2, h3⟩ := h
    exact ⟨p, kvs, e, a.keep _ _ h1 n (by intro φ q; cases q), a.out h1 n, h2, VRs.stepX a xs _ h3⟩
  | .obj c ns xs, v, h => by
    simp only [VR] at h ⊢
    obtain ⟨p, dx, fs, e, h1, n, h2, h3⟩ := h
    exact ⟨p, dx, fs, e, a.keep _ _ h1 n (by intro φ q; cases q), a.out h1 n, h2, VRs.stepX a xs _ h3⟩
  | .ref r, v, h => by
    simp only [VR] at h ⊢
    obtain ⟨p, e, h1⟩ := h
    obtain ⟨t, ht⟩ := a.pre
    exact ⟨p, e, by rw [← ht]; exact (List.getElem?_append_left (List.getElem?_eq_some_iff.mp h1).1).trans h1⟩
theorem VRs.stepX (a : StepX ρ H ρ' H') : ∀ (xs : List Vl) (vs : List V), VRs G ρ H xs vs → VRs G ρ' H' xs vs
  | [], _, h => by simpa only [VRs] using h
  | x :: xs, vs, h => by
    simp only [VRs] at h ⊢
    obtain ⟨v, r, e, h1, h2⟩ := h
    exact ⟨v, r, e, VR.stepX a x v h1, VRs.stepX a xs r h2⟩
end
theorem StL.step (a : Step ρ H ρ' H') {x : Addr} {vs : List V} (h : StL ρ H x vs) : StL ρ' H' x vs := h.stepX a.x
theorem StT.step (a : Step ρ H ρ' H') {x : Addr} {vs : List V} (h : StT G ρ H x vs) : StT G ρ' H' x vs := h.stepX a.x
theorem Step.rd (a : Step ρ H ρ' H') {x : Addr} {o : HO} (h : Rd H x o ∧ x ∉ ρ) : Rd H' x o ∧ x ∉ ρ' := by
  obtain ⟨h, n⟩ := h
  rcases h with h | ⟨ob, h⟩
  · exact ⟨.inl (a.keep _ _ h n), a.out h n⟩
  · exact ⟨.inr ⟨ob, a.keep _ _ h n⟩, a.out h n⟩
theorem VR.step (a : Step ρ H ρ' H') (x : Vl) (v : V) (h : VR G ρ H x v) : VR G ρ' H' x v := VR.stepX a.x x v h
theorem VRs.step (a : Step ρ H ρ' H') (xs : List Vl) (vs : List V) (h : VRs G ρ H xs vs) : VRs G ρ' H' xs vs := VRs.stepX a.x xs vs h
theorem ER.stepX (a : StepX ρ H ρ' H') {η : Sg} {σ : L2.St} (h : ER G ρ H η σ) : ER G ρ' H' η σ := ⟨h.len, fun i x e => let ⟨v, h1, h2⟩ := h.at_ i x e; ⟨v, h1, h2.stepX a⟩⟩
theorem ER.step (a : Step ρ H ρ' H') {η : Sg} {σ : L2.St} (h : ER G ρ H η σ) : ER G ρ' H' η σ := h.stepX a.x
theorem VRs.length : ∀ {xs : List Vl} {vs : List V}, VRs G ρ H xs vs → xs.length = vs.length
  | [], _, h => by simp only [VRs] at h; subst h; rfl
  | x :: xs, vs, h => by
    simp only [VRs] at h
    obtain ⟨v, r, rfl, h1, h2⟩ := h
    simp [VRs.length h2]
theorem VRs.get : ∀ {xs : List Vl} {vs : List V} {i : Nat} {x : Vl}, VRs G ρ H xs vs → xs[i]? = some x → ∃ v, vs[i]? = some v ∧ VR G ρ H x v
  | [], _, _, _, _, e => by simp at e
  | y :: xs, vs, 0, x, h, e => by
    simp only [VRs] at h
    obtain ⟨v, r, rfl, h1, h2⟩ := h
    simp at e; subst e
    exact ⟨v, by simp, h1⟩
  | y :: xs, vs, i + 1, x, h, e => by
    simp only [VRs] at h
    obtain ⟨v, r, rfl, h1, h2⟩ := h
    obtain ⟨w, e1, e2⟩ := VRs.get (i := i) h2 (by simpa using e)
    exact ⟨w, by simpa using e1, e2⟩
theorem VRs.append : ∀ {xs ys : List Vl} {vs ws : List V}, VRs G ρ H xs vs → VRs G ρ H ys ws → VRs G ρ H (xs ++ ys) (vs ++ ws)
  | [], ys, vs, ws, h, k => by simp only [VRs] at h; subst h; exact k
  | x :: xs, ys, vs, ws, h, k => by
    simp only [VRs] at h
    obtain ⟨v, r, rfl, h1, h2⟩ := h
    show VRs G ρ H (x :: (xs ++ ys)) (v :: (r ++ ws))
    simp only [VRs]
    exact ⟨v, _, rfl, h1, VRs.append h2 k⟩
theorem VRs.nil : VRs G ρ H [] [] := by simp only [VRs]
theorem VRs.cons {x : Vl} {xs : List Vl} {v : V} {vs : List V} (h : VR G ρ H x v) (k : VRs G ρ H xs vs) : VRs G ρ H (x :: xs) (v :: vs) := by simp only [VRs]; exact ⟨v, vs, rfl, h, k⟩
theorem VRs.of_get : ∀ {xs : List Vl} {vs : List V}, xs.length = vs.length → (∀ (i : Nat) (x : Vl) (v : V), xs[i]? = some x → vs[i]? = some v → VR G ρ H x v) → VRs G ρ H xs vs
  | [], [], _, _ => VRs.nil
  | [], _ :: _, h, _ => by simp at h
  | _ :: _, [], h, _ => by simp at h
  | x :: xs, v :: vs, h, k => VRs.cons (k 0 x v rfl rfl) (VRs.of_get (by simpa using h) fun i y w e1 e2 => k (i + 1) y w (by simpa using e1) (by simpa using e2))
theorem VRs.take (n : Nat) {xs : List Vl} {vs : List V} (h : VRs G ρ H xs vs) : VRs G ρ H (xs.take n) (vs.take n) := VRs.of_get (by simp [h.length]) fun i x v e1 e2 => by
  rw [List.getElem?_take] at e1 e2
  split at e1
  · rename_i c
    rw [if_pos c] at e2
    obtain ⟨w, e3, e4⟩ := h.get e1
    rw [e2] at e3; cases e3
    exact e4
  · cases e1
theorem VRs.drop (n : Nat) {xs : List Vl} {vs : List V} (h : VRs G ρ H xs vs) : VRs G ρ H (xs.drop n) (vs.drop n) := VRs.of_get (by simp [h.length]) fun i x v e1 e2 => by
  rw [List.getElem?_drop] at e1 e2
  obtain ⟨w, e3, e4⟩ := h.get e1
  rw [e2] at e3; cases e3
  exact e4
end
end Oz
set_option Elab.async false
set_option linter.all false
set_option maxRecDepth 100000
set_option maxHeartbeats 4000000
/-! Oz: the code and what it does. -/
namespace Oz
open PySem L2

mutual
inductive Tg where
  | nm (i : Nat) | tp (ts : Tgs)
inductive Tgs where
  | nil | cons (t : Tg) (ts : Tgs)
end
inductive B1 where
  | len | all | any | tuple | repr | str | int | sum
/-- methods of texts and of lists that are only read -/
inductive Tm where
  | join | index | count
/-- methods that change a list -/
inductive Mm where
  | append | pop | popAt | clear | extend | insert
mutual
inductive E where
  | var (i : Nat) | cst (v : Vl)
  | bin (op : Operator) (a b : E) | cmp (op : CmpOp) (a b : E) | chn (p q : CmpOp) (a b c : E)
  | band (a b : E) | bor (a b : E) | bnot (a : E) | tru (a : E) | neg (a : E)
  | ite (t a b : E)
  | tup (es : Es)
  | idx (a i : E) | slt (a : E) (lo hi : Oe)
  | kin (g : Str) (ng : Bool) (a : E) | kget (g : Str) (a : E)
  | b1 (f : B1) (a : E)
  | isD (a : E) | isC (c : Str) (a : E)
  | call (q : Str) (es : Es) | mcl (c m : Str) (a : E) (es : Es)
  | fld (a : E) (f : Str)
  | tm (m : Tm) (a b : E)
  | mut (m : Mm) (a : E) (es : Es)
  | olen (c : Str) (a : E) | oeq (c : Str) (ng : Bool) (a b : E)
  | inl (f : F) | alc (f : F) | bad
inductive F where
  | lst (es : Es) | cat (a b : E) | rep (a b : E) | slc (a : E) (lo hi : Oe) | cpy (a : E) | srt (a : E)
  | comp (own : List Nat) (elt : E) (t : Tg) (s : Src) (ifs : Es)
  | call (q : Str) (es : Es) | mcl (c m : Str) (a : E) (es : Es)
  | dsp (ks : List Str) (vs : Es) | new (c : Str) (es : Es)
  | split (a b : E) | sset (a : E) | scomp2 (own : List Nat) (elt : E) (t : Tg) (s : Src) (ifs : Es) (vs1 : List Nat) (t1 : Tg) (s1 : Src) (ifs1 : Es) | bad
inductive Src where
  | sq (e : E) | rng1 (e : E) | rng2 (a b : E) | enm (e : E) (st : Int) | zip (a b : E) | chars (e : E) | items (e : E)
inductive Es where
  | nil | cons (e : E) (es : Es)
inductive Oe where
  | none | some (e : E)
end
mutual
inductive C where
  | asg (t : Tg) (e : E) | star (is : List Nat) (i : Nat) (e : E) | par (i j : Nat) (a b : E)
  | fset (a : E) (f : Str) (e : E) | iset (o i e : E)
  | aug (i : Nat) (op : Operator) (e : E)
  | ex (e : E) | ret (e : E) | retf (f : F) | retn
  | ite (t : E) (a b : Cs)
  | for_ (t : Tg) (s : Src) (b : Cs) | whl (t : E) (b : Cs)
  | raise (c : Str) (es : Es)
  | pass | brk | cnt | bad
inductive Cs where
  | nil | cons (c : C) (cs : Cs)
end

structure Mach where
  cal : Str → List Vl → Hs → Res Rv
  kd : Str → Option (List (Str × Vl))
  fuel : Nat

/-! ### operations on values -/
mutual
def Vl.mapRef (f : Nat → Vl) : Vl → Vl
  | .tup xs => .tup (mapRefs f xs)
  | .lst xs => .lst (mapRefs f xs)
  | .dct ks xs => .dct ks (mapRefs f xs)
  | .obj c ns xs => .obj c ns (mapRefs f xs)
  | .ref r => f r
  | .non => .non | .bl b => .bl b | .int i => .int i | .str s => .str s
def mapRefs (f : Nat → Vl) : List Vl → List Vl
  | [] => []
  | x :: xs => Vl.mapRef f x :: mapRefs f xs
end
/-- what stands behind references, told whole -/
def inlS : Nat → Hs → Vl → Vl
  | 0, _, v => v.mapRef .ref
  | k + 1, S, v => v.mapRef fun r => match S[r]? with
    | some o => inlS k S o.inl
    | none => .ref r
mutual
def Vl.toD : Vl → Option PyData
  | .non => some .none
  | .bl b => some (.bool b)
  | .int i => some (.int i)
  | .str s => some (.str s)
  | .tup xs => (toDs xs).map .tuple
  | .lst xs => (toDs xs).map .list
  | _ => none
def toDs : List Vl → Option (List PyData)
  | [] => some []
  | x :: xs => match Vl.toD x, toDs xs with
    | some d, some ds => some (d :: ds)
    | _, _ => none
end
def depS : Nat := 4
def dataOf (S : Hs) (v : Vl) : Option PyData := (inlS depS S v).toD
/-- the items of a list or a tuple -/
def seqOf (S : Hs) : Vl → Option (List Vl)
  | .tup xs => some xs
  | .lst xs => some xs
  | .ref r => match S[r]? with
    | some (.lst xs) => some xs
    | _ => none
  | _ => none
def lstOf (S : Hs) : Vl → Option (List Vl)
  | .lst xs => some xs
  | .ref r => match S[r]? with
    | some (.lst xs) => some xs
    | _ => none
  | _ => none
/-- a list that may change -/
def lstAt (S : Hs) : Vl → Option Nat
  | .ref r => match S[r]? with
    | some (.lst _) => some r
    | _ => none
  | _ => none
def dctOf (S : Hs) : Vl → Option (List Key × List Vl)
  | .dct ks xs => some (ks, xs)
  | .ref r => match S[r]? with
    | some (.dct ks xs) => some (ks, xs)
    | _ => none
  | _ => none
def insOf (S : Hs) : Vl → Option (Str × List Str × List Vl)
  | .obj c ns xs => some (c, ns, xs)
  | .ref r => match S[r]? with
    | some (.ins c ns xs) => some (c, ns, xs)
    | _ => none
  | _ => none
def Vl.key : Vl → Option Key
  | .int i => some (.inl i)
  | .str s => some (.inr s)
  | _ => none
def lookG {κ : Type} [DecidableEq κ] : List κ → List Vl → κ → Option Vl
  | k :: ks, v :: vs, x => if k = x then some v else lookG ks vs x
  | _, _, _ => none
def putG {κ : Type} [DecidableEq κ] : List κ → List Vl → κ → Vl → List κ × List Vl
  | k :: ks, v :: vs, x, y => if k = x then (k :: ks, y :: vs) else let r := putG ks vs x y; (k :: r.1, v :: r.2)
  | _, _, x, y => ([x], [y])
def Vl.flat : Vl → Bool
  | .non | .bl _ | .int _ | .str _ => true
  | _ => false
def eqF : Vl → Vl → Bool
  | .non, .non => true
  | .bl a, .bl b => a == b
  | .bl a, .int b => (if a then 1 else 0) == b
  | .int a, .bl b => a == (if b then 1 else 0)
  | .int a, .int b => a == b
  | .str a, .str b => a == b
  | _, _ => false
def Vl.isNon : Vl → Bool
  | .non => true
  | _ => false
def mulOk (i j : Int) : Bool := (-(2 ^ 64) < i && i < 2 ^ 64) || (-(2 ^ 64) < j && j < 2 ^ 64)
def binop (op : Operator) (x y : Vl) : Option Vl := match op, x, y with
  | .Add, .int i, .int j => some (.int (i + j))
  | .Add, .str i, .str j => if i.length + j.length ≤ sizeLine then some (.str (i ++ j)) else none
  | .Add, .tup xs, .tup ys => if xs.length + ys.length ≤ sizeLine ∧ xs ≠ [] then some (.tup (xs ++ ys)) else none
  | .Sub, .int i, .int j => some (.int (i - j))
  | .Mult, .int i, .int j => if mulOk i j then some (.int (i * j)) else none
  | .FloorDiv, .int i, .int j => if 0 < j ∧ j < 1073741824 then some (.int (i / j)) else none
  | .Mod, .int i, .int j => if 0 < j then some (.int (i % j)) else none
  | .Pow, .int i, .int j => if 0 ≤ j ∧ j ≤ 1000000 ∧ i.natAbs < 2 ^ 64 then some (.int (i ^ j.toNat)) else none
  | _, _, _ => none
def dataEq (S : Hs) (x y : Vl) : Option Bool := match dataOf S x, dataOf S y with
  | some d, some e => if SeqAt.shaped d ∧ SeqAt.shaped e then some (PyData.eqv d e) else none
  | _, _ => none
/-- ==, of scalars, of data -/
def eqS : Vl → Vl → Option Bool
  | .int i, .int j => some (decide (i = j))
  | .bl i, .bl j => some (decide (i = j))
  | .str i, .str j => some (decide (i = j))
  | _, _ => none
def eqop (S : Hs) (x y : Vl) : Option Bool := match eqS x y with
  | some b => some b
  | none => dataEq S x y
def memF (S : Hs) (x y : Vl) : Option Bool := match y with
  | .str z => match x with
    | .str w => if w.length = 1 then some (decide (w.cps.getD 0 0 ∈ z.cps.toList)) else none
    | _ => none
  | _ => match dctOf S y with
    | some (ks, _) => x.key.map fun k => ks.any fun j => decide (j = k)
    | none => match seqOf S y with
      | some ys => if x.flat && ys.all Vl.flat then some (ys.any fun z => eqF z x) else none
      | none => none
def cmpop (op : CmpOp) (S : Hs) (x y : Vl) : Option Bool := match op with
  | .Eq => eqop S x y
  | .NotEq => (eqop S x y).map not
  | .Lt => match x, y with
    | .int i, .int j => some (decide (i < j))
    | _, _ => none
  | .LtE => match x, y with
    | .int i, .int j => some (decide (i ≤ j))
    | _, _ => none
  | .Gt => match x, y with
    | .int i, .int j => some (decide (j < i))
    | _, _ => none
  | .GtE => match x, y with
    | .int i, .int j => some (decide (j ≤ i))
    | _, _ => none
  | .Is => match y with
    | .non => some x.isNon
    | _ => none
  | .IsNot => match y with
    | .non => some (!x.isNon)
    | _ => none
  | .In => memF S x y
  | .NotIn => (memF S x y).map not
def isBl : Vl → Option Bool
  | .bl b => some b
  | _ => none
def truth (S : Hs) (x : Vl) : Option Bool := match x with
  | .non => some false
  | .bl b => some b
  | .int i => some (i != 0)
  | .str y => if y.length ≤ sizeLine then some ((y.length : Int) != 0) else none
  | _ => match seqOf S x with
    | some ys => some (!ys.isEmpty)
    | none => none
def allB : List Vl → Option (List Bool)
  | [] => some []
  | x :: xs => match isBl x, allB xs with
    | some b, some bs => some (b :: bs)
    | _, _ => none
def allI : List Vl → Option (List Int)
  | [] => some []
  | .int i :: xs => (allI xs).map (i :: ·)
  | _ => none
def allS : List Vl → Option (List Str)
  | [] => some []
  | .str i :: xs => (allS xs).map (i :: ·)
  | _ => none
def b1op (f : B1) (S : Hs) (x : Vl) : Option Vl := match f with
  | .len => match x with
    | .str z => if z.length ≤ sizeLine then some (.int z.length) else none
    | _ => match dctOf S x with
      | some (ks, _) => some (.int ks.length)
      | none => (seqOf S x).map fun ys => .int ys.length
  | .all => ((lstOf S x).bind allB).map fun bs => .bl (bs.all id)
  | .any => ((lstOf S x).bind allB).map fun bs => .bl (bs.any id)
  | .tuple => (seqOf S x).map .tup
  | .repr => match dataOf S x with
    | some d => if d.showable = true ∧ d.shown.length ≤ sizeLine ∧ d.canLay0 = true ∧ d.depth ≤ 60 then some (.str d.shown) else none
    | none => none
  | .str => match x with
    | .int i => if i.natAbs.log2 < 1920 then some (.str (toString i)) else none
    | .str z => some (.str z)
    | _ => none
  | .int => match x with
    | .bl b => some (.int (if b then 1 else 0))
    | .int i => some (.int i)
    | _ => none
  | .sum => ((lstOf S x).bind allI).map fun ns => .int ns.sum
def idxop (S : Hs) (x i : Vl) : Option Vl := match x, i with
  | .str z, .int i => if z.length ≤ sizeLine then (atI z.cps.toList i).map fun c => .str ⟨#[c]⟩ else none
  | x, i => match dctOf S x with
    | some (ks, vs) => i.key.bind fun k => lookG ks vs k
    | none => match seqOf S x, i with
      | some ys, .int i => atI ys i
      | _, _ => none
def cutG {α : Type} (xs : List α) (lo hi : Option Int) : List α := (xs.drop (HT.sIx xs.length 0 lo)).take (HT.sIx xs.length xs.length hi - HT.sIx xs.length 0 lo)
def sltop (x : Vl) (lo hi : Option Int) : Option Vl := match x with
  | .str z => if z.length ≤ sizeLine then some (.str (cutS z lo hi)) else none
  | .tup xs => if HT.sIx xs.length 0 lo = 0 ∧ HT.sIx xs.length xs.length hi = xs.length then none else some (.tup (cutG xs lo hi))
  | _ => none
/-- what changes: the answer, the list behind it -/
def mutop (m : Mm) (xs : List Vl) (es : List Vl) : Option (Vl × List Vl) := match m, es with
  | .append, [y] => if xs.length < sizeLine then some (.non, xs ++ [y]) else none
  | .pop, [] => match xs[xs.length - 1]? with
    | some y => some (y, xs.dropLast)
    | none => none
  | .popAt, [.int i] => if -(2 ^ 63) ≤ i ∧ i < 2 ^ 63 then (seqIndex? i xs.length).bind fun k => xs[k]?.map fun y => (y, xs.eraseIdx k) else none
  | .clear, [] => some (.non, [])
  | _, _ => none
def tmop (m : Tm) (S : Hs) (z : Str) (y : Vl) : Option Vl := match m with
  | .join => match (seqOf S y).bind allS with
    | some ys => if (ys.map (·.length)).sum + ys.length * z.length ≤ 16777216 then some (.str (Txt.join z ys)) else none
    | none => none
  | _ => none
/-- texts by their signs -/
def strLt (a b : Str) : Bool := decide (a.cps.toList < b.cps.toList)
def insStr (x : Str) : List Str → List Str
  | [] => [x]
  | y :: ys => if strLt y x then y :: insStr x ys else x :: y :: ys
def sortStr : List Str → List Str
  | [] => []
  | x :: xs => insStr x (sortStr xs)
def srtop (S : Hs) (x : Vl) : Option (List Vl) := match (lstOf S x).bind allS with
  | some zs => if zs.length < 64 then some ((sortStr zs).map .str) else none
  | none => none

/-! ### targets -/
mutual
def bindT : Tg → Vl → Sg → Option Sg
  | .nm i, x, η => some (η.set i (some x))
  | .tp ts, x, η => match x with
    | .tup xs => bindTs ts xs η
    | .lst xs => bindTs ts xs η
    | _ => none
def bindTs : Tgs → List Vl → Sg → Option Sg
  | .nil, [], η => some η
  | .cons t ts, x :: xs, η => match bindT t x η with
    | some η1 => bindTs ts xs η1
    | none => none
  | _, _, _ => none
end
def bindN : List Nat → List Vl → Sg → Option (Sg × List Vl)
  | [], xs, η => some (η, xs)
  | i :: is, x :: xs, η => bindN is xs (η.set i (some x))
  | _ :: _, [], _ => none
def wipeG (η : Sg) : List Nat → Sg
  | [] => η
  | v :: vs => (wipeG η vs).set v none

/-! ### loops -/
def ofO {α : Type} (S : Hs) : Option α → Res α
  | some a => .ok a S
  | none => .bad
/-- what is walked stands as it stood -/
abbrev Lk := Nat × Ob
def lockd (lk : List Lk) (S : Hs) : Prop := ∀ p ∈ lk, S[p.1]? = some p.2
open Classical in
/-- a comprehension's turns: the new list stands behind the others -/
noncomputable def compL (step : Vl → Hs → Res (Option Vl)) (lk : List Lk) : List Vl → List Vl → Hs → Res (List Vl)
  | [], acc, S => if lockd lk S then .ok acc S else .bad
  | x :: xs, acc, S => if lockd lk S then match step x (S ++ [.lst acc]) with
      | .ok o T => if T = S ++ [.lst acc] ∧ acc.length < sizeLine then match o with
        | some y => if y.lim S.length then compL step lk xs (acc ++ [y]) S else .bad
        | none => compL step lk xs acc S
        else .bad
      | _ => .bad
    else .bad
open Classical in
/-- texts that go into a set -/
noncomputable def compS (step : Vl → Hs → Res (List Str)) (lk : List Lk) : List Vl → Hs → Res (List Str)
  | [], S => if lockd lk S then .ok [] S else .bad
  | x :: xs, S => if lockd lk S then match step x S with
      | .ok ys T => if T = S then (compS step lk xs S).bind fun zs S1 => .ok (ys ++ zs) S1 else .bad
      | _ => .bad
    else .bad
open Classical in
noncomputable def forL (body : Sg → Hs → Out) (t : Tg) (lk : List Lk) : List Vl → Sg → Hs → Out
  | [], η, S => if lockd lk S then .nx η S else .bad
  | x :: xs, η, S => if lockd lk S then match bindT t x η with
    | none => .bad
    | some η1 => match body η1 S with
      | .nx η2 S2 => forL body t lk xs η2 S2
      | .cnt η2 S2 => forL body t lk xs η2 S2
      | .brk η2 S2 => .nx η2 S2
      | o => o
    else .bad
def whlL (test : Sg → Hs → Res Vl) (body : Sg → Hs → Out) : Nat → Sg → Hs → Out
  | 0, _, _ => .bad
  | n + 1, η, S => match test η S with
    | .ok (.bl true) S1 => match body η S1 with
      | .nx η2 S2 => whlL test body n η2 S2
      | .cnt η2 S2 => whlL test body n η2 S2
      | .brk η2 S2 => .nx η2 S2
      | o => o
    | .ok (.bl false) S1 => .nx η S1
    | .exc x S1 => .exc x η S1
    | _ => .bad
def enumL : Int → List Vl → List Vl
  | _, [] => []
  | i, x :: xs => .tup [.int i, x] :: enumL (i + 1) xs
def zipL : List Vl → List Vl → List Vl
  | x :: xs, y :: ys => .tup [x, y] :: zipL xs ys
  | _, _ => []
def rngL (lo : Int) : Nat → List Vl
  | 0 => []
  | n + 1 => .int lo :: rngL (lo + 1) n
def itemsL : List Key → List Vl → List Vl
  | k :: ks, v :: vs => .tup [match k with | .inl i => .int i | .inr s => .str s, v] :: itemsL ks vs
  | _, _ => []
/-- a list or a tuple that is walked, what is locked by it -/
def walkS (S : Hs) : Vl → Option (List Lk × List Vl)
  | .tup xs => some ([], xs)
  | .lst xs => some ([], xs)
  | .ref r => match S[r]? with
    | some (.lst xs) => some ([(r, .lst xs)], xs)
    | _ => none
  | _ => none
def charsL (z : Str) : List Vl := z.cps.toList.map fun c => .str ⟨#[c]⟩
def Rv.v : Rv → Vl
  | .val v => v
  | .frs o => o.inl

/-- the same, or a text -/
def walkT (S : Hs) : Vl → Option (List Lk × List Vl)
  | .str z => some ([], charsL z)
  | x => walkS S x
def dedupS : List Str → List Str
  | [] => []
  | x :: xs => if x ∈ xs then dedupS xs else x :: dedupS xs
/-! ### what code does -/
variable (M : Mach)
/-- the answer of a call -/
def calV (q : Str) (xs : List Vl) (S : Hs) : Res Vl := (M.cal q xs S).bind fun r S1 => .ok r.v S1
def dot (c m : Str) : Str := c ++ ⟨#[46]⟩ ++ m
/-- an instance of c, none of whose fields is called m -/
def hasM (S : Hs) (x : Vl) (c m : Str) : Bool := match insOf S x with
  | some (d, ns, _) => decide (d = c) && !(ns.contains m)
  | none => false
/-- what an own == is asked against -/
def eqY (S : Hs) (c : Str) (y : Vl) : Bool := match insOf S y with
  | some (d, _, _) => decide (d = c)
  | none => (lstOf S y).isSome
def noX {α : Type} : Res α → Res α
  | .exc _ _ => .bad
  | r => r
def Ob.lim (n : Nat) : Ob → Bool
  | .lst xs | .dct _ xs | .ins _ _ xs => limAll n xs
def Xc.lim (n : Nat) (x : Xc) : Bool := match x.fs with
  | none => true
  | some (_, vs) => limAll n vs
/-- what comes of the making of an instance that stands behind the others -/
def newR (S1 : Hs) : Res Rv → Res Ob
  | .ok (.val .non) T => match T.getLast? with
    | some o => if T.length = S1.length + 1 ∧ T.all (Ob.lim S1.length) = true then .ok o T.dropLast else .bad
    | none => .bad
  | .exc x T => if T.length = S1.length + 1 ∧ T.dropLast.all (Ob.lim S1.length) = true ∧ x.lim S1.length = true then .exc x T.dropLast else .bad
  | _ => .bad
open Classical in
mutual
noncomputable def ev : E → Sg → Hs → Res Vl
  | .var i, η, S => match η[i]? with
    | some (some x) => .ok x S
    | _ => .bad
  | .cst v, _, S => .ok v S
  | .bin op a b, η, S => (ev a η S).bind fun x S1 => (ev b η S1).bind fun y S2 => ofO S2 (binop op x y)
  | .cmp op a b, η, S => (ev a η S).bind fun x S1 => (ev b η S1).bind fun y S2 => (ofO S2 (cmpop op S2 x y)).bind fun b S3 => .ok (.bl b) S3
  | .chn p q a b c, η, S => (ev a η S).bind fun x S1 => (ev b η S1).bind fun y S2 => (ofO S2 (cmpop p S2 x y)).bind fun k S3 =>
      if k = true then (ev c η S3).bind fun z S4 => (ofO S4 (cmpop q S4 y z)).bind fun b S5 => .ok (.bl b) S5 else .ok (.bl false) S3
  | .band a b, η, S => (ev a η S).bind fun x S1 => match x with
    | .bl true => ev b η S1
    | .bl false => .ok (.bl false) S1
    | _ => .bad
  | .bor a b, η, S => (ev a η S).bind fun x S1 => match x with
    | .bl true => .ok (.bl true) S1
    | .bl false => ev b η S1
    | _ => .bad
  | .bnot a, η, S => (ev a η S).bind fun x S1 => match x with
    | .bl b => .ok (.bl (!b)) S1
    | _ => .bad
  | .tru a, η, S => (ev a η S).bind fun x S1 => (ofO S1 (truth S1 x)).bind fun b S2 => .ok (.bl b) S2
  | .neg a, η, S => (ev a η S).bind fun x S1 => match x with
    | .int i => .ok (.int (-i)) S1
    | _ => .bad
  | .ite t a b, η, S => (ev t η S).bind fun x S1 => match x with
    | .bl true => ev a η S1
    | .bl false => ev b η S1
    | _ => .bad
  | .tup es, η, S => (evs es η S).bind fun xs S1 => if xs.length ≤ sizeLine then .ok (.tup xs) S1 else .bad
  | .idx a i, η, S => (ev a η S).bind fun x S1 => (ev i η S1).bind fun y S2 => ofO S2 (idxop S2 x y)
  | .slt a lo hi, η, S => (ev a η S).bind fun x S1 => (evo lo η S1).bind fun l S2 => (evo hi η S2).bind fun h S3 => ofO S3 (sltop x l h)
  | .kin g ng a, η, S => (ev a η S).bind fun x S1 => match x, M.kd g with
    | .str z, some kv => .ok (.bl (if ng then !(kv.lookup z).isSome else (kv.lookup z).isSome)) S1
    | _, _ => .bad
  | .kget g a, η, S => (ev a η S).bind fun x S1 => match x, M.kd g with
    | .str z, some kv => ofO S1 (kv.lookup z)
    | _, _ => .bad
  | .b1 f a, η, S => (ev a η S).bind fun x S1 => ofO S1 (b1op f S1 x)
  | .isD a, η, S => (ev a η S).bind fun x S1 => .ok (.bl (dctOf S1 x).isSome) S1
  | .isC c a, η, S => (ev a η S).bind fun x S1 => match insOf S1 x with
    | some (d, _, _) => if c = d then .ok (.bl true) S1 else .bad
    | none => .ok (.bl false) S1
  | .call q es, η, S => (evs es η S).bind fun xs S1 => calV M q xs S1
  | .mcl c m a es, η, S => (ev a η S).bind fun x S1 => if hasM S1 x c m then (evs es η S1).bind fun xs S2 => calV M (dot c m) (x :: xs) S2 else .bad
  | .fld a f, η, S => (ev a η S).bind fun x S1 => match insOf S1 x with
    | some (_, ns, vs) => ofO S1 (lookG ns vs f)
    | none => .bad
  | .tm m a b, η, S => (ev a η S).bind fun x S1 => match x with
    | .str z => (ev b η S1).bind fun y S2 => ofO S2 (tmop m S2 z y)
    | _ => .bad
  | .mut m a es, η, S => (ev a η S).bind fun x S1 => match lstAt S1 x with
    | some r => (evs es η S1).bind fun xs S2 => match S2[r]? with
      | some (.lst ys) => match mutop m ys xs with
        | some (v, zs) => .ok v (S2.set r (.lst zs))
        | none => .bad
      | _ => .bad
    | none => .bad
  | .olen c a, η, S => (ev a η S).bind fun x S1 => if hasM S1 x c "__len__" then (noX (calV M (dot c "__len__") [x] S1)).bind fun v S2 => match v with
      | .int n => if 0 ≤ n ∧ n < 2 ^ 63 then .ok (.int n) S2 else .bad
      | _ => .bad
    else .bad
  | .oeq c ng a b, η, S => (ev a η S).bind fun x S1 => (ev b η S1).bind fun y S2 => if hasM S2 x c "__eq__" && eqY S2 c y then (noX (calV M (dot c "__eq__") [x, y] S2)).bind fun v S3 => match v with
      | .bl d => .ok (.bl (if ng then !d else d)) S3
      | _ => .bad
    else .bad
  | .inl f, η, S => (evf f η S).bind fun o S1 => .ok o.inl S1
  | .alc f, η, S => (evf f η S).bind fun o S1 => .ok (.ref S1.length) (S1 ++ [o])
  | .bad, _, _ => .bad
noncomputable def evf : F → Sg → Hs → Res Ob
  | .lst es, η, S => (evs es η S).bind fun xs S1 => if xs.length ≤ sizeLine then .ok (.lst xs) S1 else .bad
  | .cat a b, η, S => (ev a η S).bind fun x S1 => (ev b η S1).bind fun y S2 => match lstOf S2 x, lstOf S2 y with
    | some xs, some ys => if xs.length + ys.length ≤ sizeLine then .ok (.lst (xs ++ ys)) S2 else .bad
    | _, _ => .bad
  | .rep a b, η, S => (ev a η S).bind fun x S1 => (ev b η S1).bind fun y S2 => match lstAt S2 x, lstOf S2 x, y with
    | some _, some xs, .int n => if 0 ≤ n ∧ n < 2 ^ 63 ∧ xs.length * n.toNat ≤ sizeLine then .ok (.lst (List.replicate n.toNat xs).flatten) S2 else .bad
    | _, _, _ => .bad
  | .slc a lo hi, η, S => (ev a η S).bind fun x S1 => (evo lo η S1).bind fun l S2 => (evo hi η S2).bind fun h S3 => match lstOf S3 x with
    | some xs => .ok (.lst (cutG xs l h)) S3
    | none => .bad
  | .cpy a, η, S => (ev a η S).bind fun x S1 => match seqOf S1 x with
    | some xs => .ok (.lst xs) S1
    | none => .bad
  | .srt a, η, S => (ev a η S).bind fun x S1 => match srtop S1 x with
    | some xs => .ok (.lst xs) S1
    | none => .bad
  | .comp own elt t s ifs, η, S => (evS s η S).bind fun p S1 => (compL (fun x S2 => match bindT t x (wipeG η own) with
      | none => .bad
      | some η1 => (evAll ifs η1 S2).bind fun b S3 => if b = true then (ev elt η1 S3).bind fun y S4 => .ok (some y) S4 else .ok none S3) p.1 p.2 [] S1).bind fun ys S2 => .ok (.lst ys) S2
  | .sset a, η, S => (ev a η S).bind fun x S1 => match (lstOf S1 x).bind allS with
    | some zs => if zs.length < 64 then .ok (.lst ((sortStr (dedupS zs)).map .str)) S1 else .bad
    | none => .bad
  | .scomp2 own elt t s ifs vs1 t1 s1 ifs1, η, S => (evS s η S).bind fun p S1 => (compS (fun x S2 => match bindT t x (wipeG η own) with
      | none => .bad
      | some η1 => (evAll ifs η1 S2).bind fun b S3 => if b = true then (evS s1 η1 S3).bind fun p1 S4 => compS (fun y S5 => match bindT t1 y (wipeG η1 vs1) with
          | none => .bad
          | some η2 => (evAll ifs1 η2 S5).bind fun b1 S6 => if b1 = true then (ev elt η2 S6).bind fun y S7 => match y with
              | .str z => .ok [z] S7
              | _ => .bad
            else .ok [] S6) p1.1 p1.2 S4
        else .ok [] S3) p.1 p.2 S1).bind fun zs S2 => if zs.length < 64 then .ok (.lst ((sortStr (dedupS zs)).map .str)) S2 else .bad
  | .bad, _, _ => .bad
  | .call q es, η, S => (evs es η S).bind fun xs S1 => (M.cal q xs S1).bind fun r S2 => match r with
    | .frs o => .ok o S2
    | .val _ => .bad
  | .mcl c m a es, η, S => (ev a η S).bind fun x S1 => if hasM S1 x c m then (evs es η S1).bind fun xs S2 => (M.cal (dot c m) (x :: xs) S2).bind fun r S3 => match r with
      | .frs o => .ok o S3
      | .val _ => .bad
    else .bad
  | .dsp ks vs, η, S => match evs vs η (S ++ [.dct [] []]) with
    | .ok xs T => if T = S ++ [.dct [] []] ∧ limAll S.length xs = true ∧ ks.Nodup ∧ ks.length = xs.length ∧ ks.length ≤ 15 then .ok (.dct (ks.map Sum.inr) xs) S else .bad
    | _ => .bad
  | .new c es, η, S => (evs es η S).bind fun xs S1 => newR S1 (M.cal (dot c "__init__") (.ref S1.length :: xs) (S1 ++ [.ins c [] []]))
  | .split a b, η, S => .bad
noncomputable def evS : Src → Sg → Hs → Res (List Lk × List Vl)
  | .sq e, η, S => (ev e η S).bind fun x S1 => ofO S1 (walkS S1 x)
  | .rng1 e, η, S => (ev e η S).bind fun x S1 => match x with
    | .int j => if -(2 ^ 62) ≤ j ∧ j < 2 ^ 62 then .ok ([], rngL 0 j.toNat) S1 else .bad
    | _ => .bad
  | .rng2 a b, η, S => (ev a η S).bind fun x S1 => (ev b η S1).bind fun y S2 => match x, y with
    | .int i, .int j => if -(2 ^ 62) ≤ i ∧ i < 2 ^ 62 ∧ -(2 ^ 62) ≤ j ∧ j < 2 ^ 62 then .ok ([], rngL i (j - i).toNat) S2 else .bad
    | _, _ => .bad
  | .enm e st, η, S => (ev e η S).bind fun x S1 => (ofO S1 (walkS S1 x)).bind fun p S2 => .ok (p.1, enumL st p.2) S2
  | .zip a b, η, S => (ev a η S).bind fun x S1 => (ev b η S1).bind fun y S2 => (ofO S2 (walkT S2 x)).bind fun p S3 => (ofO S3 (walkT S3 y)).bind fun q S4 => .ok (p.1 ++ q.1, zipL p.2 q.2) S4
  | .chars e, η, S => (ev e η S).bind fun x S1 => match x with
    | .str z => .ok ([], charsL z) S1
    | _ => .bad
  | .items e, η, S => (ev e η S).bind fun x S1 => match x with
    | .dct ks vs => .ok ([], itemsL ks vs) S1
    | .ref r => match S1[r]? with
      | some (.dct ks vs) => .ok ([(r, .dct ks vs)], itemsL ks vs) S1
      | _ => .bad
    | _ => .bad
noncomputable def evs : Es → Sg → Hs → Res (List Vl)
  | .nil, _, S => .ok [] S
  | .cons e es, η, S => (ev e η S).bind fun x S1 => (evs es η S1).bind fun xs S2 => .ok (x :: xs) S2
noncomputable def evAll : Es → Sg → Hs → Res Bool
  | .nil, _, S => .ok true S
  | .cons e es, η, S => (ev e η S).bind fun x S1 => match x with
    | .bl true => evAll es η S1
    | .bl false => .ok false S1
    | _ => .bad
noncomputable def evo : Oe → Sg → Hs → Res (Option Int)
  | .none, _, S => .ok none S
  | .some e, η, S => (ev e η S).bind fun x S1 => match x with
    | .int i => .ok (some i) S1
    | _ => .bad
end
def Res.out {α : Type} (r : Res α) (η : Sg) (f : α → Hs → Out) : Out := match r with
  | .ok a S => f a S
  | .exc x S => .exc x η S
  | .bad => .bad
mutual
noncomputable def exc1 : C → Sg → Hs → Out
  | .asg t e, η, S => (ev M e η S).out η fun x S1 => match bindT t x η with
    | some η1 => .nx η1 S1
    | none => .bad
  | .star is i e, η, S => (ev M e η S).out η fun x S1 => match seqOf S1 x with
    | some xs => match bindN is xs η with
      | some (η1, ys) => .nx (η1.set i (some (.lst ys))) S1
      | none => .bad
    | none => .bad
  | .par i j a b, η, S => (ev M a η S).out η fun x S1 => (ev M b η S1).out η fun y S2 => .nx ((η.set i (some x)).set j (some y)) S2
  | .fset a f e, η, S => (ev M e η S).out η fun y S1 => (ev M a η S1).out η fun x S2 => match x with
    | .ref r => match S2[r]? with
      | some (.ins c ns vs) => if ns.length < 1000 then let q := putG ns vs f y; .nx η (S2.set r (.ins c q.1 q.2)) else .bad
      | _ => .bad
    | _ => .bad
  | .iset o i e, η, S => (ev M e η S).out η fun y S1 => (ev M o η S1).out η fun x S2 => (ev M i η S2).out η fun k S3 => match x with
    | .ref r => match S3[r]? with
      | some (.dct ks vs) => match k.key with
        | some k => if ks.length < sizeLine then let q := putG ks vs k y; .nx η (S3.set r (.dct q.1 q.2)) else .bad
        | none => .bad
      | some (.lst xs) => match k with
        | .int i => match ixN xs.length i with
          | some j => .nx η (S3.set r (.lst (xs.set j y)))
          | none => .bad
        | _ => .bad
      | _ => .bad
    | _ => .bad
  | .aug i op e, η, S => match η[i]? with
    | some (some x) => (ev M e η S).out η fun y S1 => match op, x, y with
      | .Add, .int a, .int b => .nx (η.set i (some (.int (a + b)))) S1
      | .Sub, .int a, .int b => .nx (η.set i (some (.int (a - b)))) S1
      | _, _, _ => .bad
    | _ => .bad
  | .ex e, η, S => (ev M e η S).out η fun _ S1 => .nx η S1
  | .ret e, η, S => (ev M e η S).out η fun x S1 => .ret (.val x) S1
  | .retf f, η, S => (evf M f η S).out η fun o S1 => .ret (.frs o) S1
  | .retn, η, S => .ret (.val .non) S
  | .ite t a b, η, S => (ev M t η S).out η fun x S1 => match x with
    | .bl true => exec a η S1
    | .bl false => exec b η S1
    | _ => .bad
  | .for_ t s b, η, S => (evS M s η S).out η fun p S1 => forL (fun η1 S2 => exec b η1 S2) t p.1 p.2 η S1
  | .whl t b, η, S => whlL (fun η1 S2 => ev M t η1 S2) (fun η1 S2 => exec b η1 S2) M.fuel η S
  | .raise c es, η, S => (evs M es η S).out η fun xs S1 => .bad
  | .pass, η, S => .nx η S
  | .brk, η, S => .brk η S
  | .cnt, η, S => .cnt η S
  | .bad, _, _ => .bad
noncomputable def exec : Cs → Sg → Hs → Out
  | .nil, η, S => .nx η S
  | .cons c cs, η, S => match exc1 c η S with
    | .nx η1 S1 => exec cs η1 S1
    | o => o
end
end Oz
set_option Elab.async false
set_option linter.all false
set_option maxRecDepth 100000
set_option maxHeartbeats 4000000
/-! Oz: what code tells of the hand layer's readings. -/
namespace Oz
open PySem L2 PyProof.Rows

/-- what is wanted of an error -/
def XW (G : Glb) (W : WX) (σ : L2.St) (ρ : List Addr) (H : Hp) (x : Xc) : Prop := match x.fs with
  | none => W (.ref (G.cl x.c)) none σ H
  | some (ns, vs) => ∀ d fs, H d = some (.xd fs) → d ∉ ρ → fs.map (·.1) = ns → VRs G ρ H vs (fs.map (·.2)) → W (.ref (G.cl x.c)) (some d) σ H
def PR {α : Type} (G : Glb) (W : WX) (σ : L2.St) (ρ : List Addr) (H : Hp) (r : Res α) (ok : List Addr → Hp → α → Hs → Prop) : Prop := match r with
  | .ok a S' => ∀ ρ' H', Step ρ H ρ' H' → Sim G ρ' H' S' → ok ρ' H' a S'
  | .exc x S' => ∀ ρ' H', Step ρ H ρ' H' → Sim G ρ' H' S' → XW G W σ ρ' H' x
  | .bad => False
section
variable {α β : Type} {G : Glb} {W : WX} {σ : L2.St} {ρ ρ' : List Addr} {H H' : Hp} {S : Hs}
theorem PR.step {r : Res α} {ok : List Addr → Hp → α → Hs → Prop} (h : PR G W σ ρ H r ok) (a : Step ρ H ρ' H') : PR G W σ ρ' H' r ok := by
  cases r with
  | ok x S' => exact fun ρ2 H2 b s => h ρ2 H2 (a.trans b) s
  | exc x S' => exact fun ρ2 H2 b s => h ρ2 H2 (a.trans b) s
  | bad => exact h
theorem PR.bind {r : Res α} {f : α → Hs → Res β} {ok : List Addr → Hp → β → Hs → Prop} (h : PR G W σ ρ H (r.bind f) ok) : PR G W σ ρ H r fun ρ1 H1 a S1 => PR G W σ ρ1 H1 (f a S1) ok := by
  cases r with
  | ok x S' => exact fun ρ2 H2 b s => PR.step h b
  | exc x S' => exact h
  | bad => exact h
theorem PR.mono {r : Res α} {ok ok' : List Addr → Hp → α → Hs → Prop} (h : PR G W σ ρ H r ok) (k : ∀ ρ1 H1 a S1, Step ρ H ρ1 H1 → Sim G ρ1 H1 S1 → ok ρ1 H1 a S1 → ok' ρ1 H1 a S1) : PR G W σ ρ H r ok' := by
  cases r with
  | ok x S' => exact fun ρ2 H2 b s => k _ _ _ _ b s (h ρ2 H2 b s)
  | exc x S' => exact h
  | bad => exact h
theorem PR.here {x : α} {ok : List Addr → Hp → α → Hs → Prop} (h : PR G W σ ρ H (.ok x S) ok) (s : Sim G ρ H S) : ok ρ H x S := h ρ H (Step.refl _ _) s
theorem PR.ofO {o : Option α} {ok : List Addr → Hp → α → Hs → Prop} (h : PR G W σ ρ H (ofO S o) ok) : ∃ x, o = some x ∧ PR G W σ ρ H (.ok x S) ok := by
  cases o with
  | none => exact h.elim
  | some x => exact ⟨x, rfl, h⟩
end
theorem _root_.L2.PE.imp {X : Cx} {e : Expr} {t t' : TE} (h : PE X e t) (k : ∀ σ H Q, t' σ H Q → t σ H Q) : PE X e t' := ⟨fun pins s σ H Q I q => h.run pins s σ H Q I (k σ H Q q)⟩
theorem _root_.L2.PT.imp {X : Cx} {e : Expr} {t t' : TT} (h : PT X e t) (k : ∀ σ H Q, t' σ H Q → t σ H Q) : PT X e t' := ⟨fun pins s σ H Q I q => h.run pins s σ H Q I (k σ H Q q)⟩
theorem _root_.L2.PA.imp {X : Cx} {e : List Expr} {t t' : TA} (h : PA X e t) (k : ∀ σ H Q, t' σ H Q → t σ H Q) : PA X e t' := ⟨fun pos pins s σ H Q I q => h.run pos pins s σ H Q I (k σ H Q q)⟩
theorem _root_.L2.PS.imp {X : Cx} {e : Stmt} {t t' : TS} (h : PS X e t) (k : ∀ D σ H, t' D σ H → t D σ H) : PS X e t' := ⟨fun pins s σ H D I q => h.run pins s σ H D I (k D σ H q)⟩
theorem _root_.L2.PSs.imp {X : Cx} {e : List Stmt} {t t' : TS} (h : PSs X e t) (k : ∀ D σ H, t' D σ H → t D σ H) : PSs X e t' := ⟨fun pins s σ H D I q => h.run pins s σ H D I (k D σ H q)⟩

section
variable (G : Glb) (M : Mach) (W : WX)
/-- a value comes -/
def okV (Q : VK) : List Addr → Hp → Vl → Hs → Prop := fun ρ' H' x _ => ∀ v, VR G ρ' H' x v → Q v H'
def okVs (Q : List V → Hp → Prop) : List Addr → Hp → List Vl → Hs → Prop := fun ρ' H' xs _ => ∀ vs, VRs G ρ' H' xs vs → Q vs H'
/-- a new thing comes -/
def okF (H : Hp) (Q : VK) : List Addr → Hp → Ob → Hs → Prop := fun ρ' H' o S' => ∀ p, H p = none → p ∉ ρ' → OR G ρ' H' p o → Sim G (ρ' ++ [p]) H' (S' ++ [o]) → Q (.ref p) H'
def tE (c : E) : TE := fun σ H Q => ∃ ρ η S, Sim G ρ H S ∧ ER G ρ H η σ ∧ PR G W σ ρ H (ev M c η S) (okV G Q)
def tF (c : F) : TE := fun σ H Q => ∃ ρ η S, Sim G ρ H S ∧ ER G ρ H η σ ∧ PR G W σ ρ H (evf M c η S) (okF G H Q)
def tA (c : Es) : TA := fun σ H Q => ∃ ρ η S, Sim G ρ H S ∧ ER G ρ H η σ ∧ PR G W σ ρ H (evs M c η S) (okVs G Q)
/-- a test -/
def tT (c : E) : TT := fun σ H Q => ∃ ρ η S, Sim G ρ H S ∧ ER G ρ H η σ ∧ PR G W σ ρ H (ev M c η S) (fun _ H' x _ => ∀ b, x = .bl b → Q b H') ∧ PR G (fun _ _ _ _ => True) σ ρ H (ev M c η S) (fun _ _ x _ => ∃ b, x = .bl b)
end
end Oz
set_option Elab.async false
set_option linter.all false
set_option maxRecDepth 100000
set_option maxHeartbeats 4000000
/-! Oz: operations on values. -/
namespace Oz
open PySem L2 PyProof.Rows

/-! ### heaps that only grow -/
section
variable {G : Glb} {ρ ρ' : List Addr} {H H' : Hp} {S : Hs}
theorem stepSame (k : Same H H') : Step ρ H ρ H' := ⟨List.prefix_refl _, fun a o h _ => k a o h, fun _ h => .inl h⟩
theorem OR.same (a : Step ρ H ρ' H') (k : Same H H') {p : Addr} {o : Ob} (h : OR G ρ H p o) : OR G ρ' H' p o := by
  cases o with
  | lst xs => obtain ⟨vs, h1, h2⟩ := h; exact ⟨vs, k _ _ h1, VRs.step a _ _ h2⟩
  | dct ks xs => obtain ⟨vs, h1, h2, h3⟩ := h; exact ⟨vs, k _ _ h1, h2, VRs.step a _ _ h3⟩
  | ins c ns xs => obtain ⟨dx, vs, h1, h2, h3⟩ := h; exact ⟨dx, vs, k _ _ h1, h2, VRs.step a _ _ h3⟩
theorem Sim.same (s : Sim G ρ H S) (k : Same H H') : Sim G ρ H' S := ⟨s.len, s.nd, fun r o a h1 h2 => (s.at_ r o a h1 h2).same (stepSame k) k⟩
theorem OR.there {p : Addr} {o : Ob} (h : OR G ρ H p o) : ∃ u, H p = some u := by
  cases o with
  | lst xs => obtain ⟨vs, h1, _⟩ := h; exact ⟨_, h1⟩
  | dct ks xs => obtain ⟨vs, h1, _⟩ := h; exact ⟨_, h1⟩
  | ins c ns xs => obtain ⟨dx, vs, h1, _⟩ := h; exact ⟨_, h1⟩
theorem Sim.mem (s : Sim G ρ H S) {p : Addr} (h : p ∈ ρ) : ∃ (r : Nat) (o : Ob), S[r]? = some o ∧ ρ[r]? = some p ∧ OR G ρ H p o := by
  obtain ⟨r, hr⟩ := List.getElem?_of_mem h
  have hl : r < S.length := by rw [← s.len]; exact (List.getElem?_eq_some_iff.mp hr).1
  exact ⟨r, S[r], List.getElem?_eq_getElem hl, hr, s.at_ r _ _ (List.getElem?_eq_getElem hl) hr⟩
theorem Sim.free (s : Sim G ρ H S) {p : Addr} (h : H p = none) : p ∉ ρ := fun q => by
  obtain ⟨r, o, _, _, h3⟩ := s.mem q
  obtain ⟨u, hu⟩ := h3.there
  rw [h] at hu; cases hu
theorem Sim.notup (s : Sim G ρ H S) {p : Addr} {xs : List V} (h : H p = some (.tup xs)) : p ∉ ρ := fun q => by
  obtain ⟨r, o, _, _, h3⟩ := s.mem q
  cases o with
  | lst xs => obtain ⟨vs, h1, _⟩ := h3; rw [h] at h1; cases h1
  | dct ks xs => obtain ⟨vs, h1, _⟩ := h3; rw [h] at h1; cases h1
  | ins c ns xs => obtain ⟨dx, vs, h1, _⟩ := h3; rw [h] at h1; cases h1
theorem same_new {p : Addr} {o : HO} (h : H p = none) : Same H (upd H p o) := fun b u e => by rw [upd_ne (ne_of_none e h)]; exact e
theorem Sim.ref (s : Sim G ρ H S) {r : Nat} {v : V} (h : VR G ρ H (.ref r) v) {o : Ob} (e : S[r]? = some o) : ∃ a, v = .ref a ∧ ρ[r]? = some a ∧ OR G ρ H a o := by
  simp only [VR] at h
  obtain ⟨a, rfl, h1⟩ := h
  exact ⟨a, rfl, h1, s.at_ r o a e h1⟩

/-! ### data -/
mutual
theorem dp_map {f : Nat → Vl} (hf : ∀ r v d, VR G ρ H (.ref r) v → (f r).toD = some d → Dp G.K H v d) : ∀ (x : Vl) (v : V) (d : PyData), VR G ρ H x v → (x.mapRef f).toD = some d → Dp G.K H v d
  | .non, _, _, h, e => by
    simp only [VR] at h; simp only [Vl.mapRef, Vl.toD, Option.some.injEq] at e
    subst h e; exact .non
  | .bl b, _, _, h, e => by
    simp only [VR] at h; simp only [Vl.mapRef, Vl.toD, Option.some.injEq] at e
    subst h e; exact .bl b
  | .int b, _, _, h, e => by
    simp only [VR] at h; simp only [Vl.mapRef, Vl.toD, Option.some.injEq] at e
    subst h e; exact .int b
  | .str b, _, _, h, e => by
    simp only [VR] at h; simp only [Vl.mapRef, Vl.toD, Option.some.injEq] at e
    subst h e; exact .str b
  | .tup xs, v, d, h, e => by
    simp only [VR] at h; simp only [Vl.mapRef, Vl.toD] at e
    obtain ⟨a, vs, rfl, h1, h2⟩ := h
    obtain ⟨ds, e1, rfl⟩ := Option.map_eq_some_iff.mp e
    exact .tup h1.sq (dp_maps hf xs vs ds h2 e1)
  | .lst xs, v, d, h, e => by
    simp only [VR] at h; simp only [Vl.mapRef, Vl.toD] at e
    obtain ⟨a, vs, rfl, h1, h2⟩ := h
    obtain ⟨ds, e1, rfl⟩ := Option.map_eq_some_iff.mp e
    exact .lst h1.sq (dp_maps hf xs vs ds h2 e1)
  | .dct ks xs, _, _, _, e => by simp only [Vl.mapRef, Vl.toD] at e; cases e
  | .obj c ns xs, _, _, _, e => by simp only [Vl.mapRef, Vl.toD] at e; cases e
  | .ref r, v, d, h, e => by
    simp only [Vl.mapRef] at e
    exact hf r v d h e
theorem dp_maps {f : Nat → Vl} (hf : ∀ r v d, VR G ρ H (.ref r) v → (f r).toD = some d → Dp G.K H v d) : ∀ (xs : List Vl) (vs : List V) (ds : List PyData), VRs G ρ H xs vs → toDs (mapRefs f xs) = some ds → DpAll G.K H vs ds
  | [], vs, ds, h, e => by
    simp only [VRs] at h; simp only [mapRefs, toDs, Option.some.injEq] at e
    subst h e; exact .nil
  | x :: xs, vs, ds, h, e => by
    simp only [VRs] at h; simp only [mapRefs, toDs] at e
    obtain ⟨v, r, rfl, h1, h2⟩ := h
    split at e
    · rename_i d' ds' e1 e2
      cases e
      exact .cons (dp_map hf x v _ h1 e1) (dp_maps hf xs r _ h2 e2)
    · cases e
end
theorem dp_inl (s : Sim G ρ H S) : ∀ (k : Nat) (x : Vl) (v : V) (d : PyData), VR G ρ H x v → (inlS k S x).toD = some d → Dp G.K H v d
  | 0, x, v, d, h, e => dp_map (f := .ref) (fun r v d _ e => by have e' : (none : Option PyData) = some d := e; cases e') x v d h (by simpa only [inlS] using e)
  | k + 1, x, v, d, h, e => by
    refine dp_map (fun r w d' hr er => ?_) x v d h (by simpa only [inlS] using e)
    split at er
    · rename_i o eo
      obtain ⟨a, rfl, ha, ho⟩ := s.ref hr eo
      cases o with
      | lst xs =>
        obtain ⟨vs, h1, h2⟩ := ho
        have er' : (inlS k S (.lst xs)).toD = some d' := er
        -- the list's own items, by the same
        have key : ∀ (f : Nat → Vl), (∀ r v d, VR G ρ H (.ref r) v → (f r).toD = some d → Dp G.K H v d) → ((Vl.lst xs).mapRef f).toD = some d' → Dp G.K H (.ref a) d' := fun f hf e => by
          simp only [Vl.mapRef, Vl.toD] at e
          obtain ⟨ds, e1, rfl⟩ := Option.map_eq_some_iff.mp e
          exact .lst (SqL.of h1) (dp_maps hf xs vs ds h2 e1)
        cases k with
        | zero => exact key .ref (fun r v d _ e => by have e' : (none : Option PyData) = some d := e; cases e') (by simpa only [inlS] using er')
        | succ k =>
          refine key _ (fun r' v' d' hr' er2 => ?_) (by simpa only [inlS] using er')
          exact dp_inl s (k + 1) (.ref r') v' d' hr' (by simp only [inlS, Vl.mapRef]; exact er2)
      | dct ks xs =>
        have er' : (inlS k S (.dct ks xs)).toD = some d' := er
        cases k <;> (simp only [inlS, Vl.mapRef, Vl.toD] at er'; cases er')
      | ins c ns xs =>
        have er' : (inlS k S (.obj c ns xs)).toD = some d' := er
        cases k <;> (simp only [inlS, Vl.mapRef, Vl.toD] at er'; cases er')
    · simp only [Vl.toD] at er; cases er
theorem dp_of (s : Sim G ρ H S) {x : Vl} {v : V} {d : PyData} (h : VR G ρ H x v) (e : dataOf S x = some d) : Dp G.K H v d := dp_inl s _ x v d h e

/-! ### what stands at a value -/
theorem seq_of (s : Sim G ρ H S) {x : Vl} {v : V} {xs : List Vl} (h : VR G ρ H x v) (e : seqOf S x = some xs) : ∃ a vs, v = .ref a ∧ (SqL G.K H a vs ∨ SqT G.K H a vs) ∧ VRs G ρ H xs vs := by
  cases x with
  | tup ys => simp only [seqOf, Option.some.injEq] at e; subst e; simp only [VR] at h; obtain ⟨a, vs, rfl, h1, h2⟩ := h; exact ⟨a, vs, rfl, .inr h1.sq, h2⟩
  | lst ys => simp only [seqOf, Option.some.injEq] at e; subst e; simp only [VR] at h; obtain ⟨a, vs, rfl, h1, h2⟩ := h; exact ⟨a, vs, rfl, .inl h1.sq, h2⟩
  | ref r =>
    simp only [seqOf] at e
    split at e
    · rename_i ys eo
      cases e
      obtain ⟨a, rfl, _, vs, h1, h2⟩ := s.ref h eo
      exact ⟨a, vs, rfl, .inl (SqL.of h1), h2⟩
    · cases e
  | _ => simp only [seqOf] at e; cases e
theorem lst_of (s : Sim G ρ H S) {x : Vl} {v : V} {xs : List Vl} (h : VR G ρ H x v) (e : lstOf S x = some xs) : ∃ a vs, v = .ref a ∧ Rd H a (.lst vs) ∧ VRs G ρ H xs vs := by
  cases x with
  | lst ys => simp only [lstOf, Option.some.injEq] at e; subst e; simp only [VR] at h; obtain ⟨a, vs, rfl, h1, h2⟩ := h; exact ⟨a, vs, rfl, h1.1, h2⟩
  | ref r =>
    simp only [lstOf] at e
    split at e
    · rename_i ys eo
      cases e
      obtain ⟨a, rfl, _, vs, h1, h2⟩ := s.ref h eo
      exact ⟨a, vs, rfl, .inl h1, h2⟩
    · cases e
  | _ => simp only [lstOf] at e; cases e
theorem dct_of (s : Sim G ρ H S) {x : Vl} {v : V} {ks : List Key} {xs : List Vl} (h : VR G ρ H x v) (e : dctOf S x = some (ks, xs)) : ∃ a kvs, v = .ref a ∧ H a = some (.dK kvs) ∧ kvs.map (·.1) = ks ∧ VRs G ρ H xs (kvs.map (·.2)) := by
  cases x with
  | dct ks' ys => simp only [dctOf, Option.some.injEq, Prod.mk.injEq] at e; obtain ⟨rfl, rfl⟩ := e; simp only [VR] at h; obtain ⟨a, vs, rfl, h1, _, h2, h3⟩ := h; exact ⟨a, vs, rfl, h1, h2, h3⟩
  | ref r =>
    simp only [dctOf] at e
    split at e
    · rename_i ks' ys eo
      cases e
      obtain ⟨a, rfl, _, vs, h1, h2, h3⟩ := s.ref h eo
      exact ⟨a, vs, rfl, h1, h2, h3⟩
    · cases e
  | _ => simp only [dctOf] at e; cases e
theorem ins_of (s : Sim G ρ H S) {x : Vl} {v : V} {c : Str} {ns : List Str} {xs : List Vl} (h : VR G ρ H x v) (e : insOf S x = some (c, ns, xs)) : ∃ a dx fs, v = .ref a ∧ H a = some (.ins (G.cl c) dx fs) ∧ fs.map (·.1) = ns ∧ VRs G ρ H xs (fs.map (·.2)) := by
  cases x with
  | obj c' ns' ys => simp only [insOf, Option.some.injEq, Prod.mk.injEq] at e; obtain ⟨rfl, rfl, rfl⟩ := e; simp only [VR] at h; obtain ⟨a, dx, vs, rfl, h1, _, h2, h3⟩ := h; exact ⟨a, dx, vs, rfl, h1, h2, h3⟩
  | ref r =>
    simp only [insOf] at e
    split at e
    · rename_i c' ns' ys eo
      cases e
      obtain ⟨a, rfl, _, dx, vs, h1, h2, h3⟩ := s.ref h eo
      exact ⟨a, dx, vs, rfl, h1, h2, h3⟩
    · cases e
  | _ => simp only [insOf] at e; cases e
/-- a field, a dict's value -/
theorem look_fs : ∀ {ns : List Str} {xs : List Vl} {fs : List (Str × V)} {f : Str} {x : Vl}, fs.map (·.1) = ns → VRs G ρ H xs (fs.map (·.2)) → lookG ns xs f = some x → ∃ v, fs.lookup f = some v ∧ VR G ρ H x v
  | [], _, _, _, _, _, _, e => by simp [lookG] at e
  | n :: ns, [], _, _, _, _, _, e => by simp [lookG] at e
  | n :: ns, y :: xs, [], f, x, h, _, _ => by simp at h
  | n :: ns, y :: xs, (m, v) :: fs, f, x, h, k, e => by
    simp only [List.map_cons, List.cons.injEq] at h
    obtain ⟨rfl, h⟩ := h
    simp only [List.map_cons, VRs] at k
    obtain ⟨v', r, e1, k1, k2⟩ := k
    cases e1
    simp only [lookG] at e
    by_cases q : m = f
    · subst q
      rw [if_pos rfl] at e; cases e
      exact ⟨v, by simp [List.lookup], k1⟩
    · rw [if_neg q] at e
      obtain ⟨w, e1, e2⟩ := look_fs h k2 e
      exact ⟨w, by rw [List.lookup_cons, beq_eq_false_iff_ne.mpr fun z => q z.symm]; exact e1, e2⟩
theorem look_kv : ∀ {ks : List Key} {xs : List Vl} {kvs : List (Key × V)} {k : Key} {x : Vl}, kvs.map (·.1) = ks → VRs G ρ H xs (kvs.map (·.2)) → lookG ks xs k = some x → ∃ v, valV kvs k = some v ∧ VR G ρ H x v
  | [], _, _, _, _, _, _, e => by simp [lookG] at e
  | n :: ns, [], _, _, _, _, _, e => by simp [lookG] at e
  | n :: ns, y :: xs, [], f, x, h, _, _ => by simp at h
  | n :: ns, y :: xs, (m, v) :: fs, f, x, h, k, e => by
    simp only [List.map_cons, List.cons.injEq] at h
    obtain ⟨rfl, h⟩ := h
    simp only [List.map_cons, VRs] at k
    obtain ⟨v', r, e1, k1, k2⟩ := k
    cases e1
    simp only [lookG] at e
    by_cases q : m = f
    · subst q
      rw [if_pos rfl] at e; cases e
      exact ⟨v, valV_pos (p := (m, v)) rfl, k1⟩
    · rw [if_neg q] at e
      obtain ⟨w, e1, e2⟩ := look_kv h k2 e
      exact ⟨w, by rw [valV_neg (p := (m, v)) q]; exact e1, e2⟩
theorem any_kv {ks : List Key} {kvs : List (Key × V)} {k : Key} (h : kvs.map (·.1) = ks) : (ks.any fun j => decide (j = k)) = (valV kvs k).isSome := by
  rw [← valV_any, ← h, List.any_map]; rfl
theorem VR.flat {x : Vl} {v : V} (h : VR G ρ H x v) (f : x.flat = true) : flatV v = true := by
  cases x with
  | non => simp only [VR] at h; subst h; rfl
  | bl b => simp only [VR] at h; subst h; rfl
  | int b => simp only [VR] at h; subst h; rfl
  | str b => simp only [VR] at h; subst h; rfl
  | _ => simp [Vl.flat] at f
theorem VR.eqf {x y : Vl} {v w : V} (h : VR G ρ H x v) (k : VR G ρ H y w) (f : x.flat = true) (g : y.flat = true) : eqV v w = eqF x y := by
  cases x <;> first
    | (simp [Vl.flat] at f; done)
    | (cases y <;> first
        | (simp [Vl.flat] at g; done)
        | (simp only [VR] at h k; subst h; subst k; rfl))
theorem VRs.flats : ∀ {xs : List Vl} {vs : List V} {y : Vl} {w : V}, VRs G ρ H xs vs → VR G ρ H y w → xs.all Vl.flat = true → y.flat = true → vs.all flatV = true ∧ inV w vs = xs.any fun z => eqF z y
  | [], vs, y, w, h, k, _, _ => by simp only [VRs] at h; subst h; exact ⟨rfl, rfl⟩
  | x :: xs, vs, y, w, h, k, f, g => by
    simp only [VRs] at h
    obtain ⟨v, r, rfl, h1, h2⟩ := h
    rw [List.all_cons, Bool.and_eq_true] at f
    obtain ⟨i1, i2⟩ := VRs.flats h2 k f.2 g
    refine ⟨by rw [List.all_cons, h1.flat f.1, i1]; rfl, ?_⟩
    show (eqV v w || inV w r) = (eqF x y || xs.any fun z => eqF z y)
    rw [i2, h1.eqf k f.1 g]
theorem VRs.bls : ∀ {xs : List Vl} {vs : List V} {bs : List Bool}, VRs G ρ H xs vs → allB xs = some bs → vs = bs.map V.bl
  | [], vs, bs, h, e => by simp only [VRs] at h; simp only [allB, Option.some.injEq] at e; subst h e; rfl
  | x :: xs, vs, bs, h, e => by
    simp only [VRs] at h; simp only [allB] at e
    obtain ⟨v, r, rfl, h1, h2⟩ := h
    split at e
    · rename_i b bs' e1 e2
      cases e
      cases x <;> simp only [isBl] at e1 <;> cases e1
      simp only [VR] at h1; subst h1
      rw [VRs.bls h2 e2]; rfl
    · cases e
theorem VRs.ints : ∀ {xs : List Vl} {vs : List V} {bs : List Int}, VRs G ρ H xs vs → allI xs = some bs → vs = bs.map V.int
  | [], vs, bs, h, e => by simp only [VRs] at h; simp only [allI, Option.some.injEq] at e; subst h e; rfl
  | x :: xs, vs, bs, h, e => by
    simp only [VRs] at h
    obtain ⟨v, r, rfl, h1, h2⟩ := h
    cases x with
    | int i =>
      simp only [allI] at e
      obtain ⟨l, e1, rfl⟩ := Option.map_eq_some_iff.mp e
      simp only [VR] at h1; subst h1
      rw [VRs.ints h2 e1]; rfl
    | _ => simp only [allI] at e; cases e
theorem VRs.strs : ∀ {xs : List Vl} {vs : List V} {bs : List Str}, VRs G ρ H xs vs → allS xs = some bs → vs = bs.map V.str
  | [], vs, bs, h, e => by simp only [VRs] at h; simp only [allS, Option.some.injEq] at e; subst h e; rfl
  | x :: xs, vs, bs, h, e => by
    simp only [VRs] at h
    obtain ⟨v, r, rfl, h1, h2⟩ := h
    cases x with
    | str i =>
      simp only [allS] at e
      obtain ⟨l, e1, rfl⟩ := Option.map_eq_some_iff.mp e
      simp only [VR] at h1; subst h1
      rw [VRs.strs h2 e1]; rfl
    | _ => simp only [allS] at e; cases e
theorem VRs.map_int : ∀ {ns : List Int}, VRs G ρ H (ns.map .int) (ns.map V.int)
  | [] => VRs.nil
  | n :: ns => VRs.cons (by simp only [VR]) VRs.map_int
theorem VRs.map_str : ∀ {ns : List Str}, VRs G ρ H (ns.map .str) (ns.map V.str)
  | [] => VRs.nil
  | n :: ns => VRs.cons (by simp only [VR]) VRs.map_str
end
end Oz
set_option Elab.async false
set_option linter.all false
set_option maxRecDepth 100000
set_option maxHeartbeats 4000000
/-! Oz: expressions, by the hand layer's rules. -/
namespace Oz
open PySem L2 PyProof.Rows

/-- the surroundings of a body -/
structure Good (G : Glb) (k : Nat) (X : Cx) : Prop where
  K : X.K = G.K
  nd : X.N.Nodup
  calm : X.calm = true
  room : Room k X.A
  grd : X.A.guards = some []
theorem Good.u64 {G : Glb} {k : Nat} {X : Cx} (g : Good G k X) : X.A.units + 64 < cLine := g.room.units
theorem Good.u1 {G : Glb} {k : Nat} {X : Cx} (g : Good G k X) : X.A.units + 1 < cLine := hu_of g.room

section
variable {G : Glb} {k : Nat} {X : Cx}
def rFin (G : Glb) (ρ : List Addr) (H : Hp) (S : Hs) (z : Vl) (Q : VK) : Prop := ∀ ρ' H', Step ρ H ρ' H' → Sim G ρ' H' S → okV G Q ρ' H' z S
def rBin (G : Glb) (op : Operator) : R2 := fun x y H Q => ∃ ρ S a b z, Sim G ρ H S ∧ VR G ρ H a x ∧ VR G ρ H b y ∧ binop op a b = some z ∧ rFin G ρ H S z Q
theorem rFin.now {ρ : List Addr} {H : Hp} {S : Hs} {z : Vl} {Q : VK} (h : rFin G ρ H S z Q) (s : Sim G ρ H S) {v : V} (r : VR G ρ H z v) : Q v H := h ρ H (Step.refl _ _) s v r
theorem rFin.tup {ρ : List Addr} {H : Hp} {S : Hs} {xs : List Vl} {vs : List V} {Q : VK} (h : rFin G ρ H S (.tup xs) Q) (s : Sim G ρ H S) (r : VRs G ρ H xs vs) {p : Addr} (hp : H p = none) : Q (.ref p) (upd H p (.tup vs)) := by
  have sm : Same H (upd H p (.tup vs)) := same_new hp
  refine h ρ _ (stepSame sm) (s.same sm) _ ?_
  simp only [VR]
  exact ⟨p, vs, rfl, .inl ⟨.inl upd_same, s.free hp⟩, VRs.step (stepSame sm) _ _ r⟩
theorem op_bin (g : Good G k X) (op : Operator) : OpR X (binaryOp op) (rBin G op) := by
  intro pins st σ H x y v u Q I rx ry h
  obtain ⟨ρ, S, a, b, z, s, ra, rb, e, q⟩ := h
  unfold binop at e
  split at e
  · -- ints
    simp only [VR] at ra rb; subst ra rb; cases e
    exact op_add pins st σ H _ _ v u Q I rx ry ⟨_, _, rfl, rfl, q.now s (by simp only [VR])⟩
  · simp only [VR] at ra rb; subst ra rb
    split at e
    · rename_i hz
      cases e
      exact op_add_str pins st σ H _ _ v u Q I rx ry ⟨_, _, rfl, rfl, hz, q.now s (by simp only [VR])⟩
    · cases e
  · split at e
    · rename_i xs ys hz
      cases e
      have ra' := ra
      simp only [VR] at ra rb
      obtain ⟨p, vs, rfl, h1, h2⟩ := ra
      obtain ⟨p', ws, rfl, h3, h4⟩ := rb
      refine op_catT pins st σ H _ _ v u Q I rx ry ⟨p, p', vs, ws, rfl, rfl, by rw [g.K]; exact h1.sq, by rw [g.K]; exact h3.sq, ?_, by rw [← h2.length, ← h4.length]; exact hz.1, fun e => ?_, fun e p hp => ?_⟩
      · intro e; subst e
        have := h2.length
        exact hz.2 (List.eq_nil_of_length_eq_zero (by simpa using this))
      · subst e
        have := h4.length
        obtain rfl : ys = [] := List.eq_nil_of_length_eq_zero (by simpa using this)
        rw [List.append_nil] at q
        exact q.now s ra'
      · exact q.tup s (h2.append h4) hp
    · cases e
  · simp only [VR] at ra rb; subst ra rb; cases e
    exact op_sub pins st σ H _ _ v u Q I rx ry ⟨_, _, rfl, rfl, q.now s (by simp only [VR])⟩
  · simp only [VR] at ra rb; subst ra rb
    split at e
    · rename_i hz
      cases e
      refine op_mul pins st σ H _ _ v u Q I rx ry ⟨_, _, rfl, rfl, ?_, q.now s (by simp only [VR])⟩
      simp only [mulOk, Bool.or_eq_true, Bool.and_eq_true, decide_eq_true_eq] at hz
      exact hz
    · cases e
  · simp only [VR] at ra rb; subst ra rb
    split at e
    · rename_i hz
      cases e
      exact op_fdiv pins st σ H _ _ v u Q I rx ry ⟨_, _, rfl, rfl, hz, q.now s (by simp only [VR])⟩
    · cases e
  · simp only [VR] at ra rb; subst ra rb
    split at e
    · rename_i hz
      cases e
      exact op_mod pins st σ H _ _ v u Q I rx ry ⟨_, _, rfl, rfl, hz, q.now s (by simp only [VR])⟩
    · cases e
  · simp only [VR] at ra rb; subst ra rb
    split at e
    · rename_i hz
      cases e
      exact op_pow pins st σ H _ _ v u Q I rx ry ⟨_, _, rfl, rfl, hz, q.now s (by simp only [VR])⟩
    · cases e
  · cases e

/-! ### comparisons without a call -/
def rCmp (G : Glb) (op : CmpOp) : R2 := fun x y H Q => ∃ ρ S a b z, Sim G ρ H S ∧ VR G ρ H a x ∧ VR G ρ H b y ∧ cmpop op S a b = some z ∧ Q (.bl z) H
theorem fin_eq {ρ : List Addr} {H : Hp} {S : Hs} {a b : Vl} {x y : V} {z : Bool} (s : Sim G ρ H S) (ra : VR G ρ H a x) (rb : VR G ρ H b y) (e : dataEq S a b = some z) : ∃ d f, Dp G.K H x d ∧ Dp G.K H y f ∧ SeqAt.shaped d = true ∧ SeqAt.shaped f = true ∧ z = PyData.eqv d f := by
  unfold dataEq at e
  split at e
  · rename_i d f e1 e2
    split at e
    · rename_i hs
      cases e
      exact ⟨d, f, dp_of s ra e1, dp_of s rb e2, hs.1, hs.2, rfl⟩
    · cases e
  · cases e
theorem op_mem (g : Good G k X) : OpR X (compareOp .In) (fun x y H Q => ∃ ρ S a b z, Sim G ρ H S ∧ VR G ρ H a x ∧ VR G ρ H b y ∧ memF S a b = some z ∧ Q (.bl z) H) := by
  intro pins st σ H x y v u Q I rx ry h
  obtain ⟨ρ, S, a, b, z, s, ra, rb, e, q⟩ := h
  unfold memF at e
  split at e
  · rename_i z'
    split at e
    · rename_i w
      split at e
      · rename_i hw
        simp only [VR] at ra rb; subst ra rb; cases e
        have hc : w = ⟨#[w.cps.getD 0 0]⟩ := by
          obtain ⟨c⟩ := w
          have hs : c.size = 1 := hw
          congr 1
          apply Array.ext
          · simpa using hs
          · intro i h1 h2
            have : i = 0 := by omega
            subst this
            simp [Array.getD, hs]
        refine op_in_sign pins st σ H (.str w) (.str z') v u Q I rx ry ⟨w.cps.getD 0 0, z', by rw [← hc], rfl, q⟩
      · cases e
    · cases e
  · split at e
    · rename_i ks xs ed
      obtain ⟨p, kvs, rfl, h1, h2, h3⟩ := dct_of s rb ed
      obtain ⟨k', ek, rfl⟩ := Option.map_eq_some_iff.mp e
      obtain rfl : u = Value.ref p := ry
      have hx : x = kV k' := by
        cases a <;> simp only [Vl.key] at ek <;> cases ek <;> (simp only [VR] at ra; subst ra; rfl)
      subst hx
      refine d_in g.u1 I (DGet.k h1) rx fun s' I' => ⟨.bl _, H, I', rfl, ?_⟩
      rw [← any_kv h2]
      exact q
    · split at e
      · rename_i ys es
        split at e
        · rename_i hf
          cases e
          rw [Bool.and_eq_true] at hf
          obtain ⟨p, vs, rfl, h1, h2⟩ := seq_of s rb es
          obtain ⟨f1, f2⟩ := h2.flats ra hf.2 hf.1
          refine op_in_seq pins st σ H x _ v u Q I rx ry ⟨p, vs, rfl, by rw [g.K]; exact h1, ra.flat hf.1, f1, ?_⟩
          rw [if_neg Bool.false_ne_true, f2]
          exact q
        · cases e
      · cases e
theorem op_nmem (g : Good G k X) : OpR X (compareOp .NotIn) (fun x y H Q => ∃ ρ S a b z, Sim G ρ H S ∧ VR G ρ H a x ∧ VR G ρ H b y ∧ memF S a b = some z ∧ Q (.bl (!z)) H) := by
  intro pins st σ H x y v u Q I rx ry h
  obtain ⟨ρ, S, a, b, z, s, ra, rb, e, q⟩ := h
  unfold memF at e
  split at e
  · rename_i z'
    split at e
    · rename_i w
      split at e
      · rename_i hw
        simp only [VR] at ra rb; subst ra rb; cases e
        have hc : w = ⟨#[w.cps.getD 0 0]⟩ := by
          obtain ⟨c⟩ := w
          have hs : c.size = 1 := hw
          congr 1
          apply Array.ext
          · simpa using hs
          · intro i h1 h2
            have : i = 0 := by omega
            subst this
            simp [Array.getD, hs]
        refine op_notIn_sign pins st σ H (.str w) (.str z') v u Q I rx ry ⟨w.cps.getD 0 0, z', by rw [← hc], rfl, q⟩
      · cases e
    · cases e
  · split at e
    · rename_i ks xs ed
      obtain ⟨p, kvs, rfl, h1, h2, h3⟩ := dct_of s rb ed
      obtain ⟨k', ek, rfl⟩ := Option.map_eq_some_iff.mp e
      obtain rfl : u = Value.ref p := ry
      have hx : x = kV k' := by
        cases a <;> simp only [Vl.key] at ek <;> cases ek <;> (simp only [VR] at ra; subst ra; rfl)
      subst hx
      refine d_notIn g.u1 I (DGet.k h1) rx fun s' I' => ⟨.bl _, H, I', rfl, ?_⟩
      rw [← any_kv h2]
      exact q
    · split at e
      · rename_i ys es
        split at e
        · rename_i hf
          cases e
          rw [Bool.and_eq_true] at hf
          obtain ⟨p, vs, rfl, h1, h2⟩ := seq_of s rb es
          obtain ⟨f1, f2⟩ := h2.flats ra hf.2 hf.1
          refine op_notIn_seq pins st σ H x _ v u Q I rx ry ⟨p, vs, rfl, by rw [g.K]; exact h1, ra.flat hf.1, f1, ?_⟩
          rw [if_pos rfl, f2]
          exact q
        · cases e
      · cases e
theorem VR.isN {ρ : List Addr} {H : Hp} {a : Vl} {x : V} (r : VR G ρ H a x) : decide (x = V.non) = a.isNon := by
  cases a <;> simp only [VR] at r <;> first
    | (subst r; rfl)
    | (obtain ⟨p, vs, rfl, _⟩ := r; rfl)
    | (obtain ⟨p, dx, fs, rfl, _⟩ := r; rfl)
    | (obtain ⟨p, rfl, _⟩ := r; rfl)
theorem eqop_of {ρ : List Addr} {H : Hp} {S : Hs} {a b : Vl} {x y : V} {z : Bool} (ra : VR G ρ H a x) (rb : VR G ρ H b y) (e : eqop S a b = some z) : (scal x y = true ∧ z = decide (x = y)) ∨ dataEq S a b = some z := by
  unfold eqop at e
  split at e
  · rename_i c ec
    cases e
    unfold eqS at ec
    split at ec
    all_goals first
      | (simp only [VR] at ra rb; subst ra rb; cases ec; exact .inl ⟨rfl, by simp⟩)
      | cases ec
  · exact .inr e
theorem op_cmp (g : Good G k X) (op : CmpOp) : OpR X (compareOp op) (rCmp G op) := by
  intro pins st σ H x y v u Q I rx ry h
  obtain ⟨ρ, S, a, b, z, s, ra, rb, e, q⟩ := h
  cases op with
  | Eq =>
    rcases eqop_of ra rb (show eqop S a b = some z from e) with ⟨h1, rfl⟩ | e1
    · exact op_eq pins st σ H _ _ v u Q I rx ry ⟨h1, q⟩
    · obtain ⟨d, f, h1, h2, h3, h4, rfl⟩ := fin_eq s ra rb e1
      exact op_eqD g.u64 pins st σ H _ _ v u Q I rx ry ⟨d, f, by rw [g.K]; exact h1, by rw [g.K]; exact h2, h3, h4, q⟩
  | NotEq =>
    obtain ⟨z', e1, rfl⟩ := Option.map_eq_some_iff.mp (show (eqop S a b).map not = some z from e)
    rcases eqop_of ra rb e1 with ⟨h1, rfl⟩ | e1
    · exact op_ne pins st σ H _ _ v u Q I rx ry ⟨h1, q⟩
    · obtain ⟨d, f, h1, h2, h3, h4, rfl⟩ := fin_eq s ra rb e1
      exact op_neD g.u64 pins st σ H _ _ v u Q I rx ry ⟨d, f, by rw [g.K]; exact h1, by rw [g.K]; exact h2, h3, h4, q⟩
  | Lt =>
    simp only [cmpop] at e
    split at e
    · simp only [VR] at ra rb; subst ra rb; cases e
      exact op_lt pins st σ H _ _ v u Q I rx ry ⟨_, _, rfl, rfl, q⟩
    · cases e
  | LtE =>
    simp only [cmpop] at e
    split at e
    · simp only [VR] at ra rb; subst ra rb; cases e
      exact op_le pins st σ H _ _ v u Q I rx ry ⟨_, _, rfl, rfl, q⟩
    · cases e
  | Gt =>
    simp only [cmpop] at e
    split at e
    · simp only [VR] at ra rb; subst ra rb; cases e
      exact op_gt pins st σ H _ _ v u Q I rx ry ⟨_, _, rfl, rfl, q⟩
    · cases e
  | GtE =>
    simp only [cmpop] at e
    split at e
    · simp only [VR] at ra rb; subst ra rb; cases e
      exact op_ge pins st σ H _ _ v u Q I rx ry ⟨_, _, rfl, rfl, q⟩
    · cases e
  | Is =>
    simp only [cmpop] at e
    split at e
    · simp only [VR] at rb; subst rb; cases e
      refine op_isN pins st σ H _ _ v u Q I rx ry ⟨rfl, ?_⟩
      rw [ra.isN]; exact q
    · cases e
  | IsNot =>
    simp only [cmpop] at e
    split at e
    · simp only [VR] at rb; subst rb; cases e
      refine op_notN pins st σ H _ _ v u Q I rx ry ⟨rfl, ?_⟩
      rw [ra.isN]; exact q
    · cases e
  | In => exact op_mem g pins st σ H x y v u Q I rx ry ⟨ρ, S, a, b, z, s, ra, rb, e, q⟩
  | NotIn =>
    obtain ⟨z', e1, rfl⟩ := Option.map_eq_some_iff.mp (show (memF S a b).map not = some z from e)
    exact op_nmem g pins st σ H x y v u Q I rx ry ⟨ρ, S, a, b, z', s, ra, rb, e1, q⟩
end

/-! ### expressions -/
section
variable {G : Glb} {k : Nat} {X : Cx} {M : Mach} {W : WX} {a b c : Expr} {ca cb cc : E} {pos : Pos}
theorem pe_vari {i : Nat} {x : Str} (hN : X.N[i]? = some x) (hv : Vis X.env.scope x) (hd : (x == ("__debug__" : Str)) = false) (hcd : (x == ("__classdict__" : Str)) = false) : PE X (.Name x pos) (tE G M W (.var i)) :=
  (pe_var hN hv hd hcd).imp fun σ H Q ⟨ρ, η, S, s, r, h⟩ => by
    have h' : PR G W σ ρ H (match η[i]? with | some (some x) => Res.ok x S | _ => .bad) (okV G Q) := h
    split at h'
    · rename_i x e
      obtain ⟨v, e1, e2⟩ := r.at_ i x e
      exact ⟨v, e1, (h'.here s) v e2⟩
    · exact h'.elim
/-- constants -/
theorem pe_csti {e : Expr} {x : Vl} {v : V} (he : PE X e (tC v)) (hx : ∀ ρ H, VR G ρ H x v) : PE X e (tE G M W (.cst x)) :=
  he.imp fun σ H Q ⟨ρ, η, S, s, r, h⟩ => (PR.here h s) v (hx ρ H)
theorem pe_bin (g : Good G k X) (op : Operator) (ha : PE X a (tE G M W ca)) (hb : PE X b (tE G M W cb)) : PE X (.BinOp a op b pos) (tE G M W (.bin op ca cb)) :=
  (pe_op (op_bin g op) ha hb).imp fun σ H Q ⟨ρ, η, S, s, r, h⟩ => ⟨ρ, η, S, s, r, (PR.bind h).mono fun ρ1 H1 x S1 st1 s1 h1 v hv => ⟨ρ1, η, S1, s1, r.step st1, (PR.bind h1).mono fun ρ2 H2 y S2 st2 s2 h2 w hw => by
    obtain ⟨z, e, h3⟩ := PR.ofO h2
    exact ⟨ρ2, S2, x, y, z, s2, hv.step st2, hw, e, h3⟩⟩⟩
/-- a op b op c -/
theorem pe_chni (g : Good G k X) (o1 o2 : CmpOp) (ha : PE X a (tE G M W ca)) (hb : PE X b (tE G M W cb)) (hc : PE X c (tE G M W cc)) (hm : lastMarks [o1, o2] [b, c] = false) : PE X (.Compare a [o1, o2] [b, c] pos) (tE G M W (.chn o1 o2 ca cb cc)) :=
  (pe_chain (op_cmp g o1) (op_cmp g o2) ha hb hc hm).imp fun σ H Q ⟨ρ, η, S, s, r, h⟩ => ⟨ρ, η, S, s, r, (PR.bind h).mono fun ρ1 H1 x S1 st1 s1 h1 v hv => ⟨ρ1, η, S1, s1, r.step st1, (PR.bind h1).mono fun ρ2 H2 y S2 st2 s2 h2 w hw => by
    obtain ⟨z, e, h3⟩ := PR.ofO (PR.bind h2)
    have h4 := h3.here s2
    refine ⟨ρ2, S2, x, y, z, s2, hv.step st2, hw, e, z, rfl, ?_⟩
    cases z with
    | false =>
      rw [if_neg Bool.false_ne_true] at h4 ⊢
      exact (PR.here h4 s2) _ (by simp only [VR])
    | true =>
      rw [if_pos rfl] at h4 ⊢
      refine ⟨ρ2, η, S2, s2, (r.step st1).step st2, (PR.bind h4).mono fun ρ3 H3 z S3 st3 s3 h5 w' hw' => ?_⟩
      obtain ⟨z', e', h6⟩ := PR.ofO (PR.bind h5)
      have h7 := PR.here (h6.here s3) s3
      exact ⟨ρ3, S3, y, z, z', s3, hw.step st3, hw', e', h7 _ (by simp only [VR])⟩⟩⟩
/-- and, or, not of bools as values -/
theorem pe_bandi {rest : List Expr} (ha : PE X a (tE G M W ca)) (hb : PE X (.BoolOp .And (b :: rest) pos) (tE G M W cb)) : PE X (.BoolOp .And (a :: b :: rest) pos) (tE G M W (.band ca cb)) :=
  (pe_and ha hb).imp fun σ H Q ⟨ρ, η, S, s, r, h⟩ => ⟨ρ, η, S, s, r, (PR.bind h).mono fun ρ1 H1 x S1 st1 s1 h1 v hv => by
    cases x with
    | bl d =>
      simp only [VR] at hv; subst hv
      refine ⟨d, rfl, ?_⟩
      cases d with
      | true => rw [if_pos rfl]; exact ⟨ρ1, η, S1, s1, r.step st1, h1⟩
      | false => rw [if_neg Bool.false_ne_true]; exact (PR.here h1 s1) _ (by simp only [VR])
    | _ => exact h1.elim⟩
theorem pe_bori {rest : List Expr} (ha : PE X a (tE G M W ca)) (hb : PE X (.BoolOp .Or (b :: rest) pos) (tE G M W cb)) : PE X (.BoolOp .Or (a :: b :: rest) pos) (tE G M W (.bor ca cb)) :=
  (pe_or ha hb).imp fun σ H Q ⟨ρ, η, S, s, r, h⟩ => ⟨ρ, η, S, s, r, (PR.bind h).mono fun ρ1 H1 x S1 st1 s1 h1 v hv => by
    cases x with
    | bl d =>
      simp only [VR] at hv; subst hv
      refine ⟨d, rfl, ?_⟩
      cases d with
      | true => rw [if_pos rfl]; exact (PR.here h1 s1) _ (by simp only [VR])
      | false => rw [if_neg Bool.false_ne_true]; exact ⟨ρ1, η, S1, s1, r.step st1, h1⟩
    | _ => exact h1.elim⟩
theorem pe_bnoti (ha : PE X a (tE G M W ca)) : PE X (.UnaryOp .Not a pos) (tE G M W (.bnot ca)) :=
  (pe_not ha).imp fun σ H Q ⟨ρ, η, S, s, r, h⟩ => ⟨ρ, η, S, s, r, (PR.bind h).mono fun ρ1 H1 x S1 st1 s1 h1 v hv => by
    cases x with
    | bl d =>
      simp only [VR] at hv; subst hv
      exact ⟨d, rfl, (PR.here h1 s1) _ (by simp only [VR])⟩
    | _ => exact h1.elim⟩
theorem pe_negi (ha : PE X a (tE G M W ca)) : PE X (.UnaryOp .USub a pos) (tE G M W (.neg ca)) :=
  (pe_un un_neg ha).imp fun σ H Q ⟨ρ, η, S, s, r, h⟩ => ⟨ρ, η, S, s, r, (PR.bind h).mono fun ρ1 H1 x S1 st1 s1 h1 v hv => by
    cases x with
    | int d =>
      simp only [VR] at hv; subst hv
      exact ⟨d, rfl, (PR.here h1 s1) _ (by simp only [VR])⟩
    | _ => exact h1.elim⟩
/-- tests -/
def okB (Q : Bool → Hp → Prop) : List Addr → Hp → Vl → Hs → Prop := fun _ H' x _ => ∃ d, x = .bl d ∧ Q d H'
def tQ (G : Glb) (M : Mach) (W : WX) (c : E) : TT := fun σ H Q => ∃ ρ η S, Sim G ρ H S ∧ ER G ρ H η σ ∧ PR G W σ ρ H (ev M c η S) (okB Q)
/-- a test by its value -/
theorem pt_vali {e : Expr} (h : PE X e (tE G M W ca)) (he : ∀ whole, isTrue e X.env whole = (do let v ← whole; standAt e.pos; holding [v] (truthy v))) : PT X e (tQ G M W ca) :=
  (pt_val h he).imp fun σ H Q ⟨ρ, η, S, s, r, h⟩ => ⟨ρ, η, S, s, r, h.mono fun ρ1 H1 x S1 st1 s1 ⟨d, e, q⟩ v hv => by
    subst e
    simp only [VR] at hv
    exact ⟨d, hv, q⟩⟩
theorem tru_of {ρ : List Addr} {H : Hp} {S : Hs} {x : Vl} {v : V} {d : Bool} (s : Sim G ρ H S) (r : VR G ρ H x v) (e : truth S x = some d) : TruV G.K v H d := by
  cases x with
  | non => simp only [VR] at r; subst r; simp only [truth, Option.some.injEq] at e; exact e.symm
  | bl b => simp only [VR] at r; subst r; simp only [truth, Option.some.injEq] at e; exact e.symm
  | int b => simp only [VR] at r; subst r; simp only [truth, Option.some.injEq] at e; exact e.symm
  | str b =>
    simp only [VR] at r; subst r
    simp only [truth] at e
    split at e
    · rename_i hz; cases e; exact ⟨hz, rfl⟩
    · cases e
  | _ =>
    simp only [truth] at e
    split at e
    · rename_i ys es
      cases e
      obtain ⟨p, vs, rfl, h1, h2⟩ := seq_of s r es
      have he : (!ys.isEmpty) = !vs.isEmpty := by
        have := h2.length
        cases ys <;> cases vs <;> simp_all
      rcases h1 with h1 | h1
      · exact .inl ⟨vs, h1, he⟩
      · exact .inr (.inl ⟨vs, h1, he⟩)
    · cases e
theorem pt_trui (g : Good G k X) {e : Expr} (h : PE X e (tE G M W ca)) (he : ∀ whole, isTrue e X.env whole = (do let v ← whole; standAt e.pos; holding [v] (truthy v))) : PT X e (tQ G M W (.tru ca)) :=
  (pt_truth h he).imp fun σ H Q ⟨ρ, η, S, s, r, h⟩ => ⟨ρ, η, S, s, r, (PR.bind h).mono fun ρ1 H1 x S1 st1 s1 h1 v hv => by
    obtain ⟨d, e, h2⟩ := PR.ofO (PR.bind h1)
    obtain ⟨d', e', q⟩ := PR.here (h2.here s1) s1
    cases e'
    exact ⟨d, by rw [g.K]; exact tru_of s1 hv e, q⟩⟩
theorem pw_and1i (ha : PT X a (tQ G M W ca)) : PW X (.BoolOp .And [a] pos) (tQ G M W ca) := pw_and1 ha
theorem pw_or1i (ha : PT X a (tQ G M W ca)) : PW X (.BoolOp .Or [a] pos) (tQ G M W ca) := pw_or1 ha
theorem _root_.L2.PW.imp {X : Cx} {e : Expr} {t t' : TT} (h : PW X e t) (k : ∀ σ H Q, t' σ H Q → t σ H Q) : PW X e t' := ⟨fun wh pins s σ H Q I q => h.run wh pins s σ H Q I (k σ H Q q)⟩
theorem pw_andi {rest : List Expr} (ha : PT X a (tQ G M W ca)) (hb : PW X (.BoolOp .And (b :: rest) pos) (tQ G M W cb)) : PW X (.BoolOp .And (a :: b :: rest) pos) (tQ G M W (.band ca cb)) :=
  (pw_and ha hb).imp fun σ H Q ⟨ρ, η, S, s, r, h⟩ => ⟨ρ, η, S, s, r, (PR.bind h).mono fun ρ1 H1 x S1 st1 s1 h1 => by
    cases x with
    | bl d =>
      refine ⟨d, rfl, ?_⟩
      cases d with
      | true => rw [if_pos rfl]; exact ⟨ρ1, η, S1, s1, r.step st1, h1⟩
      | false =>
        rw [if_neg Bool.false_ne_true]
        obtain ⟨d', e', q⟩ := PR.here h1 s1
        cases e'; exact q
    | _ => exact h1.elim⟩
theorem pw_ori {rest : List Expr} (ha : PT X a (tQ G M W ca)) (hb : PW X (.BoolOp .Or (b :: rest) pos) (tQ G M W cb)) : PW X (.BoolOp .Or (a :: b :: rest) pos) (tQ G M W (.bor ca cb)) :=
  (pw_or ha hb).imp fun σ H Q ⟨ρ, η, S, s, r, h⟩ => ⟨ρ, η, S, s, r, (PR.bind h).mono fun ρ1 H1 x S1 st1 s1 h1 => by
    cases x with
    | bl d =>
      refine ⟨d, rfl, ?_⟩
      cases d with
      | true =>
        rw [if_pos rfl]
        obtain ⟨d', e', q⟩ := PR.here h1 s1
        cases e'; exact q
      | false => rw [if_neg Bool.false_ne_true]; exact ⟨ρ1, η, S1, s1, r.step st1, h1⟩
    | _ => exact h1.elim⟩
theorem pt_noti (ha : PT X a (tQ G M W ca)) : PT X (.UnaryOp .Not a pos) (tQ G M W (.bnot ca)) :=
  (pt_not ha).imp fun σ H Q ⟨ρ, η, S, s, r, h⟩ => ⟨ρ, η, S, s, r, (PR.bind h).mono fun ρ1 H1 x S1 st1 s1 h1 => by
    cases x with
    | bl d =>
      obtain ⟨d', e', q⟩ := PR.here h1 s1
      cases e'; exact ⟨d, rfl, q⟩
    | _ => exact h1.elim⟩
theorem pt_chni (g : Good G k X) (o1 o2 : CmpOp) (ha : PE X a (tE G M W ca)) (hb : PE X b (tE G M W cb)) (hc : PE X c (tE G M W cc)) (hm : lastMarks [o1, o2] [b, c] = false) : PT X (.Compare a [o1, o2] [b, c] pos) (tQ G M W (.chn o1 o2 ca cb cc)) :=
  (pt_chain (op_cmp g o1) (op_cmp g o2) ha hb hc hm).imp fun σ H Q ⟨ρ, η, S, s, r, h⟩ => ⟨ρ, η, S, s, r, (PR.bind h).mono fun ρ1 H1 x S1 st1 s1 h1 v hv => ⟨ρ1, η, S1, s1, r.step st1, (PR.bind h1).mono fun ρ2 H2 y S2 st2 s2 h2 w hw => by
    obtain ⟨z, e, h3⟩ := PR.ofO (PR.bind h2)
    have h4 := h3.here s2
    refine ⟨ρ2, S2, x, y, z, s2, hv.step st2, hw, e, z, rfl, ?_⟩
    cases z with
    | false =>
      rw [if_neg Bool.false_ne_true] at h4 ⊢
      obtain ⟨d', e', q⟩ := PR.here h4 s2
      cases e'; exact ⟨false, rfl, q⟩
    | true =>
      rw [if_pos rfl] at h4 ⊢
      refine ⟨ρ2, η, S2, s2, (r.step st1).step st2, (PR.bind h4).mono fun ρ3 H3 z S3 st3 s3 h5 w' hw' => ?_⟩
      obtain ⟨z', e', h6⟩ := PR.ofO (PR.bind h5)
      obtain ⟨d', e2, q⟩ := PR.here (h6.here s3) s3
      cases e2
      exact ⟨ρ3, S3, y, z, z', s3, hw.step st3, hw', e', z', rfl, q⟩⟩⟩
theorem pe_itei {t : Expr} {ct : E} (ht : PT X t (tQ G M W ct)) (ha : PE X a (tE G M W ca)) (hb : PE X b (tE G M W cb)) : PE X (.IfExp t a b pos) (tE G M W (.ite ct ca cb)) :=
  (pe_ifExp ht ha hb).imp fun σ H Q ⟨ρ, η, S, s, r, h⟩ => ⟨ρ, η, S, s, r, (PR.bind h).mono fun ρ1 H1 x S1 st1 s1 h1 => by
    cases x with
    | bl d =>
      refine ⟨d, rfl, ?_⟩
      cases d with
      | true => rw [if_pos rfl]; exact ⟨ρ1, η, S1, s1, r.step st1, h1⟩
      | false => rw [if_neg Bool.false_ne_true]; exact ⟨ρ1, η, S1, s1, r.step st1, h1⟩
    | _ => exact h1.elim⟩
/-- argument lists -/
theorem pa_nili : PA X [] (tA G M W .nil) := pa_nil.imp fun σ H Q ⟨ρ, η, S, s, r, h⟩ => (PR.here h s) [] VRs.nil
theorem pa_consi {es : List Expr} {ces : Es} (ha : PE X a (tE G M W ca)) (hr : PA X es (tA G M W ces)) (hs : starEach (a :: es) X.env = (false, eval a X.env) :: starEach es X.env) : PA X (a :: es) (tA G M W (.cons ca ces)) :=
  (pa_cons ha hr hs).imp fun σ H Q ⟨ρ, η, S, s, r, h⟩ => ⟨ρ, η, S, s, r, (PR.bind h).mono fun ρ1 H1 x S1 st1 s1 h1 v hv => ⟨ρ1, η, S1, s1, r.step st1, (PR.bind h1).mono fun ρ2 H2 xs S2 st2 s2 h2 vs hvs => (PR.here h2 s2) _ (VRs.cons (hv.step st2) hvs)⟩⟩
theorem pe_tupi {es : List Expr} {ces : Es} {x1 : Nat} (h : PA X es (tA G M W ces)) : PE X (.Tuple es x1 pos) (tE G M W (.tup ces)) :=
  (pe_tup h).imp fun σ H Q ⟨ρ, η, S, s, r, h⟩ => ⟨ρ, η, S, s, r, (PR.bind h).mono fun ρ1 H1 xs S1 st1 s1 h1 vs hvs => by
    split at h1
    · rename_i hz
      refine ⟨by rw [← hvs.length]; exact hz, fun p hp => ?_⟩
      exact rFin.tup (ρ := ρ1) (fun ρ' H' st s' => PR.here (h1.step st) s') s1 hvs hp
    · exact h1.elim⟩
/-- own fields -/
theorem pe_fldi (g : Good G k X) {f : Str} (hC : ∀ c, Cls X.K (G.cl c)) (hf : ∀ c, NoAttr X.K (G.cl c) f) (ha : PE X a (tE G M W ca)) (hb : attributeBase a f X.env (eval a X.env) = eval a X.env) : PE X (.Attribute a f pos) (tE G M W (.fld ca f)) :=
  (pe_fld ha hb).imp fun σ H Q ⟨ρ, η, S, s, r, h⟩ => ⟨ρ, η, S, s, r, (PR.bind h).mono fun ρ1 H1 x S1 st1 s1 h1 v hv => by
    split at h1
    · rename_i c ns vs e
      obtain ⟨p, dx, fs, rfl, h2, h3, h4⟩ := ins_of s1 hv e
      obtain ⟨y, e1, h5⟩ := PR.ofO h1
      obtain ⟨w, e2, hw⟩ := look_fs h3 h4 e1
      exact ⟨p, _, dx, fs, w, rfl, h2, hC c, hf c, e2, (PR.here h5 s1) w hw⟩
    · exact h1.elim⟩
end
end Oz
set_option Elab.async false
set_option linter.all false
set_option maxRecDepth 100000
set_option maxHeartbeats 4000000
set_option autoImplicit false
/-! Oz: subscripts, built-ins, new things. -/
namespace Oz
open PySem L2 PyProof.Rows

section
variable {G : Glb} {k : Nat} {X : Cx} {ρ : List Addr} {H : Hp} {S : Hs}
theorem VRs.atI {xs : List Vl} {vs : List V} {i : Int} {x : Vl} (h : VRs G ρ H xs vs) (e : atI xs i = some x) : ∃ v, L2.atI vs i = some v ∧ VR G ρ H x v := by
  unfold L2.atI at e ⊢
  rw [← h.length]
  cases q : ixN xs.length i with
  | none => rw [q] at e; cases e
  | some j =>
    rw [q] at e
    exact h.get e
def rIdx (G : Glb) : R2 := fun x y H Q => ∃ ρ S a b z, Sim G ρ H S ∧ VR G ρ H a x ∧ VR G ρ H b y ∧ idxop S a b = some z ∧ rFin G ρ H S z Q
theorem ix_any (g : Good G k X) : IxR X (rIdx G) := by
  intro ve se pins st σ H x y v u Q I rx ry h hs
  obtain ⟨ρ, S, a, b, z, s, ra, rb, e, q⟩ := h
  unfold idxop at e
  split at e
  · simp only [VR] at ra rb; subst ra rb
    split at e
    · rename_i hz
      obtain ⟨c, ec, rfl⟩ := Option.map_eq_some_iff.mp e
      exact ix_str ve se pins st σ H _ _ v u Q I rx ry ⟨_, _, c, rfl, rfl, hz, ec, q.now s (by simp only [VR])⟩ hs
    · cases e
  · split at e
    · rename_i ks xs ed
      obtain ⟨k', ek, el⟩ := Option.bind_eq_some_iff.mp e
      obtain ⟨p, kvs, rfl, h1, h2, h3⟩ := dct_of s ra ed
      obtain ⟨w, e1, e2⟩ := look_kv h2 h3 el
      obtain rfl : v = Value.ref p := rx
      have hy : y = kV k' := by
        cases b <;> simp only [Vl.key] at ek <;> cases ek <;> (simp only [VR] at rb; subst rb; rfl)
      subst hy
      have gd : DGet H p (kV k') (some w) := by rw [← e1]; exact DGet.k h1
      exact tail_any (dict_typeIs I gd) slot_dict_getitem.lookup (d_getItem g.u1 I gd ry fun w' s' I' r' => ⟨w, H, I', r', q.now s e2⟩) hs
    · split at e
      · rename_i i ys _ es _
        obtain ⟨p, vs, rfl, h1, h2⟩ := seq_of s ra es
        simp only [VR] at rb; subst rb
        obtain ⟨w, e1, e2⟩ := h2.atI e
        rcases h1 with h1 | h1
        · exact ix_list ve se pins st σ H _ _ v u Q I rx ry ⟨p, vs, _, w, rfl, rfl, by rw [g.K]; exact h1, e1, q.now s e2⟩ hs
        · exact ix_tup ve se pins st σ H _ _ v u Q I rx ry ⟨p, vs, _, w, rfl, rfl, by rw [g.K]; exact h1, e1, q.now s e2⟩ hs
      · cases e
end

section
variable {G : Glb} {k : Nat} {X : Cx} {M : Mach} {W : WX} {a b c : Expr} {ca cb cc : E} {pos : Pos}
theorem pe_idxi (g : Good G k X) (ha : PE X a (tE G M W ca)) (hb : PE X b (tE G M W cb)) (hs : PlainIx b) : PE X (.Subscript a b pos) (tE G M W (.idx ca cb)) :=
  (pe_ix (ix_any g) ha hb hs).imp fun σ H Q ⟨ρ, η, S, s, r, h⟩ => ⟨ρ, η, S, s, r, (PR.bind h).mono fun ρ1 H1 x S1 st1 s1 h1 v hv => ⟨ρ1, η, S1, s1, r.step st1, (PR.bind h1).mono fun ρ2 H2 y S2 st2 s2 h2 w hw => by
    obtain ⟨z, e, h3⟩ := PR.ofO h2
    exact ⟨ρ2, S2, x, y, z, s2, hv.step st2, hw, e, h3⟩⟩⟩
/-- parts of slices -/
def tO (G : Glb) (M : Mach) (W : WX) (c : Oe) : TO := fun σ H Q => ∃ ρ η S, Sim G ρ H S ∧ ER G ρ H η σ ∧ PR G W σ ρ H (evo M c η S) (fun _ H' o _ => Q o H')
theorem _root_.L2.PO.imp {X : Cx} {e : Option Expr} {t t' : TO} (h : PO X e t) (k : ∀ σ H Q, t' σ H Q → t σ H Q) : PO X e t' := ⟨fun pins s σ H Q I q => h.run pins s σ H Q I (k σ H Q q)⟩
theorem po_nonei : PO X none (tO G M W .none) := po_none.imp fun σ H Q ⟨ρ, η, S, s, r, h⟩ => PR.here h s
theorem po_somei (h : PE X a (tE G M W ca)) : PO X (some a) (tO G M W (.some ca)) :=
  (po_some h).imp fun σ H Q ⟨ρ, η, S, s, r, h⟩ => ⟨ρ, η, S, s, r, (PR.bind h).mono fun ρ1 H1 x S1 st1 s1 h1 v hv => by
    cases x with
    | int i => simp only [VR] at hv; subst hv; exact ⟨i, rfl, PR.here h1 s1⟩
    | _ => exact h1.elim⟩
theorem VRs.cut {ρ : List Addr} {H : Hp} {xs : List Vl} {vs : List V} (lo hi : Option Int) (h : VRs G ρ H xs vs) : VRs G ρ H (cutG xs lo hi) (cutV vs lo hi) := by
  unfold cutG cutV
  rw [← h.length]
  exact (h.drop _).take _
def rSlt (G : Glb) : V → Option Int → Option Int → Hp → VK → Prop := fun x lo hi H Q => ∃ ρ S a z, Sim G ρ H S ∧ VR G ρ H a x ∧ sltop a lo hi = some z ∧ rFin G ρ H S z Q
theorem sl_any (g : Good G k X) : SlR X (rSlt G) := by
  intro pins st σ H x v vl vu lo hi sl Q I rx hs pl pu h
  obtain ⟨ρ, S, a, z, s, ra, e, q⟩ := h
  unfold sltop at e
  split at e
  · simp only [VR] at ra; subst ra
    split at e
    · rename_i hz
      cases e
      exact sl_str pins st σ H _ v vl vu lo hi sl Q I rx hs pl pu ⟨_, rfl, hz, q.now s (by simp only [VR])⟩
    · cases e
  · split at e
    · cases e
    · rename_i xs hw
      cases e
      simp only [VR] at ra
      obtain ⟨p, vs, rfl, h1, h2⟩ := ra
      exact sl_tup pins st σ H _ v vl vu lo hi sl Q I rx hs pl pu ⟨p, vs, rfl, by rw [g.K]; exact h1.sq, by rw [← h2.length]; exact hw, fun p' hp => q.tup s (h2.cut lo hi) hp⟩
  · cases e
theorem pe_slti (g : Good G k X) {lo hi : Option Expr} {cl ch : Oe} {p2 : Pos} (ha : PE X a (tE G M W ca)) (hl : PO X lo (tO G M W cl)) (hh : PO X hi (tO G M W ch)) : PE X (.Subscript a (.Slice lo hi none p2) pos) (tE G M W (.slt ca cl ch)) :=
  (pe_slice (sl_any g) ha hl hh).imp fun σ H Q ⟨ρ, η, S, s, r, h⟩ => ⟨ρ, η, S, s, r, (PR.bind h).mono fun ρ1 H1 x S1 st1 s1 h1 v hv => ⟨ρ1, η, S1, s1, r.step st1, (PR.bind h1).mono fun ρ2 H2 l S2 st2 s2 h2 => ⟨ρ2, η, S2, s2, (r.step st1).step st2, (PR.bind h2).mono fun ρ3 H3 u S3 st3 s3 h3 => by
    obtain ⟨z, e, h4⟩ := PR.ofO h3
    exact ⟨ρ3, S3, x, z, s3, (hv.step st2).step st3, e, h4⟩⟩⟩⟩

/-! ### a dict of the module -/
structure KdOk (G : Glb) (w : World) (d : Addr) (kv : List (Str × Vl)) : Prop where
  it : ∃ (es : Array DictEntry) (n : Nat), KDict G.K w d es n ∧ Paired (fun (e : DictEntry) (p : Str × Vl) => (∃ t, e.key = .str p.1 t) ∧ ∃ v, RelV v e.val ∧ ∀ ρ H, VR G ρ H p.2 v) es.toList kv
theorem kd_find {G : Glb} {z : Str} : ∀ {es : List DictEntry} {kv : List (Str × Vl)}, Paired (fun (e : DictEntry) (p : Str × Vl) => (∃ t, e.key = .str p.1 t) ∧ ∃ v, RelV v e.val ∧ ∀ ρ H, VR G ρ H p.2 v) es kv →
    (es.any (·.refKey)) = false ∧ ((kv.lookup z = none ∧ es.find? (·.key.isStr z) = none) ∨ ∃ e x v, es.find? (·.key.isStr z) = some e ∧ kv.lookup z = some x ∧ RelV v e.val ∧ ∀ ρ H, VR G ρ H x v)
  | _, _, .nil => ⟨rfl, .inl ⟨rfl, rfl⟩⟩
  | e :: es, (y, x) :: kv, .cons ⟨⟨t, e1⟩, v, e2, e3⟩ r => by
    obtain ⟨i1, i2⟩ := kd_find (z := z) r
    refine ⟨?_, ?_⟩
    · rw [List.any_cons, i1]
      have : e.refKey = false := by
        unfold DictEntry.refKey
        rw [e1]
      rw [this]; rfl
    · have hk : e.key.isStr z = (y == z) := by rw [e1]; rfl
      rw [List.find?_cons, hk, List.lookup_cons]
      by_cases q : y = z
      · subst q
        simp only [beq_self_eq_true]
        exact .inr ⟨e, x, v, rfl, rfl, e2, e3⟩
      · have q1 : (y == z) = false := beq_eq_false_iff_ne.mpr q
        have q2 : (z == y) = false := beq_eq_false_iff_ne.mpr (Ne.symm q)
        rw [q1, q2]
        exact i2
theorem KdOk.look {w : World} {d : Addr} {kv : List (Str × Vl)} (h : KdOk G w d kv) (z : Str) : ∃ es n, KDict G.K w d es n ∧ ((kv.lookup z = none ∧ PySem.W.nsIn G.K d z = some none) ∨ ∃ x v u, kv.lookup z = some x ∧ PySem.W.nsIn G.K d z = some (some u) ∧ RelV v u ∧ ∀ ρ H, VR G ρ H x v) := by
  obtain ⟨es, n, D, P⟩ := h.it
  refine ⟨es, n, D, ?_⟩
  obtain ⟨i1, i2⟩ := kd_find (z := z) P
  unfold PySem.W.nsIn
  rw [D.at_]
  rcases i2 with ⟨e1, e2⟩ | ⟨e, x, v, e1, e2, e3, e4⟩
  · refine .inl ⟨e1, ?_⟩
    show (match es.toList.find? (·.key.isStr z) with | some e => some (some e.val) | none => if es.toList.any (·.refKey) then none else some none) = some none
    rw [e2, i1]; rfl
  · refine .inr ⟨x, v, e.val, e2, ?_, e3, e4⟩
    show (match es.toList.find? (·.key.isStr z) with | some e => some (some e.val) | none => if es.toList.any (·.refKey) then none else some none) = some (some e.val)
    rw [e1]
theorem pe_kini (g : Good G k X) {x : Str} {d : Addr} {kv : List (Str × Vl)} (hk : KdOk G X.w d kv) (hM : M.kd x = some kv) {p2 : Pos} (hb : PE X (.Name x p2) (tC (.ref d))) (ha : PE X a (tE G M W ca)) (hm : behindInMarks .In (.Name x p2) = false) : PE X (.Compare a [.In] [.Name x p2] pos) (tE G M W (.kin x false ca)) := by
  obtain ⟨es, n, D, _⟩ := hk.look ""
  rw [← g.K] at D
  refine (pe_cmpR (op_in_kd D) ha hb hm).imp fun σ H Q ⟨ρ, η, S, s, r, h⟩ => ⟨ρ, η, S, s, r, (PR.bind h).mono fun ρ1 H1 y S1 st1 s1 h1 v hv => ?_⟩
  rw [hM] at h1
  cases y with
  | str z =>
    simp only [VR] at hv; subst hv
    have h2 := PR.here h1 s1
    obtain ⟨es', n', D', q⟩ := hk.look z
    rcases q with ⟨e1, e2⟩ | ⟨x', v', u, e1, e2, e3, e4⟩
    · exact ⟨z, none, rfl, rfl, by rw [g.K]; exact e2, h2 _ (by simp only [VR]; rw [e1]; rfl)⟩
    · exact ⟨z, some u, rfl, rfl, by rw [g.K]; exact e2, h2 _ (by simp only [VR]; rw [e1]; rfl)⟩
  | _ => exact h1.elim
theorem pe_knini (g : Good G k X) {x : Str} {d : Addr} {kv : List (Str × Vl)} (hk : KdOk G X.w d kv) (hM : M.kd x = some kv) {p2 : Pos} (hb : PE X (.Name x p2) (tC (.ref d))) (ha : PE X a (tE G M W ca)) (hm : behindInMarks .NotIn (.Name x p2) = false) : PE X (.Compare a [.NotIn] [.Name x p2] pos) (tE G M W (.kin x true ca)) := by
  obtain ⟨es, n, D, _⟩ := hk.look ""
  rw [← g.K] at D
  refine (pe_cmpR (op_notIn_kd D) ha hb hm).imp fun σ H Q ⟨ρ, η, S, s, r, h⟩ => ⟨ρ, η, S, s, r, (PR.bind h).mono fun ρ1 H1 y S1 st1 s1 h1 v hv => ?_⟩
  rw [hM] at h1
  cases y with
  | str z =>
    simp only [VR] at hv; subst hv
    have h2 := PR.here h1 s1
    obtain ⟨es', n', D', q⟩ := hk.look z
    rcases q with ⟨e1, e2⟩ | ⟨x', v', u, e1, e2, e3, e4⟩
    · exact ⟨z, none, rfl, rfl, by rw [g.K]; exact e2, h2 _ (by simp only [VR]; rw [e1]; rfl)⟩
    · exact ⟨z, some u, rfl, rfl, by rw [g.K]; exact e2, h2 _ (by simp only [VR]; rw [e1]; rfl)⟩
  | _ => exact h1.elim
theorem pe_kgeti (g : Good G k X) {x : Str} {d : Addr} {kv : List (Str × Vl)} (hk : KdOk G X.w d kv) (hM : M.kd x = some kv) {p2 : Pos} (hb : PE X (.Name x p2) (tC (.ref d))) (ha : PE X a (tE G M W ca)) (hs : PlainIx a) : PE X (.Subscript (.Name x p2) a pos) (tE G M W (.kget x ca)) :=
  (pe_ix ix_kdict hb ha hs).imp fun σ H Q ⟨ρ, η, S, s, r, h⟩ => ⟨ρ, η, S, s, r, (PR.bind h).mono fun ρ1 H1 y S1 st1 s1 h1 v hv => by
    rw [hM] at h1
    cases y with
    | str z =>
      simp only [VR] at hv; subst hv
      obtain ⟨x', e, h2⟩ := PR.ofO h1
      obtain ⟨es', n', D', q⟩ := hk.look z
      rcases q with ⟨e1, e2⟩ | ⟨x2, v', u, e1, e2, e3, e4⟩
      · rw [e1] at e; cases e
      · rw [e1] at e; cases e
        exact ⟨d, z, v', rfl, rfl, ⟨es', n', u, by rw [g.K]; exact D'.at_, D'.lit, by rw [g.K]; exact e2, e3⟩, PR.here h2 s1 v' (e4 _ _)⟩
    | _ => exact h1.elim⟩

/-! ### new things -/
theorem OR.inl {ρ : List Addr} {H : Hp} {o : Ob} {p : Addr} (h : OR G ρ H p o) (n : p ∉ ρ) : VR G ρ H o.inl (.ref p) := by
  cases o with
  | lst xs => obtain ⟨vs, h1, h2⟩ := h; show VR G ρ H (.lst xs) _; simp only [VR]; exact ⟨p, vs, rfl, ⟨.inl h1, n⟩, h2⟩
  | dct ks xs => obtain ⟨kvs, h1, h2, h3⟩ := h; show VR G ρ H (.dct ks xs) _; simp only [VR]; exact ⟨p, kvs, rfl, h1, n, h2, h3⟩
  | ins c ns xs => obtain ⟨dx, fs, h1, h2, h3⟩ := h; show VR G ρ H (.obj c ns xs) _; simp only [VR]; exact ⟨p, dx, fs, rfl, h1, n, h2, h3⟩
theorem pe_inli {f : F} (h : PE X a (tF G M W f)) : PE X a (tE G M W (.inl f)) :=
  h.imp fun σ H Q ⟨ρ, η, S, s, r, h⟩ => ⟨ρ, η, S, s, r, (PR.bind h).mono fun ρ1 H1 o S1 st1 s1 h1 p hp n ho _ => (PR.here h1 s1) _ (ho.inl n)⟩
theorem Step.one {ρ ρ1 : List Addr} {H H1 : Hp} (st : Step ρ H ρ1 H1) {p : Addr} (hp : H p = none) : Step ρ H (ρ1 ++ [p]) H1 :=
  ⟨st.pre.trans (List.prefix_append _ _), st.keep, fun a ha => by
    rcases List.mem_append.mp ha with ha | ha
    · exact st.new a ha
    · obtain rfl : a = p := by simpa using ha
      exact .inr hp⟩
theorem pe_alci {f : F} (h : PE X a (tF G M W f)) : PE X a (tE G M W (.alc f)) :=
  h.imp fun σ H Q ⟨ρ, η, S, s, r, h⟩ => ⟨ρ, η, S, s, r, by
    have h0 : PR G W σ ρ H ((evf M f η S).bind fun o S1 => .ok (.ref S1.length) (S1 ++ [o])) (okV G Q) := h
    cases e : evf M f η S with
    | ok o S1 =>
      rw [e] at h0
      exact fun ρ1 H1 st1 s1 p hp n ho sx => h0 (ρ1 ++ [p]) H1 (st1.one hp) sx _ (by simp only [VR]; exact ⟨p, rfl, by rw [← s1.len]; simp⟩)
    | exc x S1 => rw [e] at h0; exact h0
    | bad => rw [e] at h0; exact h0⟩
/-- a new thing is laid -/
theorem none_of {ρ ρ1 : List Addr} {H H1 : Hp} {S S1 : Hs} (s : Sim G ρ H S) (s1 : Sim G ρ1 H1 S1) (st : Step ρ H ρ1 H1) {p : Addr} (hp : H1 p = none) : H p = none := by
  cases q : H p with
  | none => rfl
  | some o =>
    by_cases n : p ∈ ρ
    · exact absurd (st.pre.subset n) (s1.free hp)
    · rw [st.keep p o q n] at hp; cases hp
theorem okF_new {ρ : List Addr} {H H0 : Hp} {S S0 : Hs} {σ : L2.St} {W' : WX} {o : Ob} {Q : VK} {u : HO} {p : Addr} {ρ0 : List Addr} (s0 : Sim G ρ0 H0 S0) (st0 : Step ρ0 H0 ρ H) (s : Sim G ρ H S) (h : PR G W' σ ρ H (.ok o S) (okF G H0 Q)) (hp : H p = none)
    (ho : ∀ ρ', Step ρ H ρ' (upd H p u) → OR G ρ' (upd H p u) p o) : Q (.ref p) (upd H p u) := by
  have sm : Same H (upd H p u) := same_new hp
  have n : p ∉ ρ := s.free hp
  have st1 : Step ρ H (ρ ++ [p]) (upd H p u) := (stepSame sm).one hp
  refine h ρ _ (stepSame sm) (s.same sm) p (none_of s0 s st0 hp) n (ho ρ (stepSame sm)) ⟨by simp [s.len], ?_, fun r o' a h1 h2 => ?_⟩
  · rw [List.nodup_append]
    exact ⟨s.nd, by simp, fun x hx y hy => by
      have : y = p := by simpa using hy
      subst this
      exact fun e => n (e ▸ hx)⟩
  · by_cases hr : r < S.length
    · rw [List.getElem?_append_left hr] at h1
      rw [List.getElem?_append_left (by rw [s.len]; exact hr)] at h2
      exact (s.at_ r o' a h1 h2).same st1 sm
    · have hr2 : r = S.length := by
        have := (List.getElem?_eq_some_iff.mp h1).1
        simp at this
        omega
      subst hr2
      have e1 : o' = o := by simpa using h1.symm
      have e2 : a = p := by rw [← s.len] at h2; simpa using h2.symm
      subst e1 e2
      exact ho _ st1
end
end Oz
set_option Elab.async false
set_option linter.all false
set_option maxRecDepth 100000
set_option maxHeartbeats 4000000
set_option autoImplicit false
/-! Oz: lists, tuples, texts made; what is walked. -/
namespace Oz
open PySem L2 PyProof.Rows

section
variable {G : Glb} {k : Nat} {X : Cx} {M : Mach} {W : WX} {a b c : Expr} {ca cb cc : E} {pos : Pos}
theorem pf_lst {es : List Expr} {ces : Es} (h : PA X es (tA G M W ces)) : PE X (.List es pos) (tF G M W (.lst ces)) :=
  (pe_lst h).imp fun σ H Q ⟨ρ, η, S, s, r, h⟩ => ⟨ρ, η, S, s, r, (PR.bind h).mono fun ρ1 H1 xs S1 st1 s1 h1 vs hvs => by
    split at h1
    · rename_i hz
      exact ⟨by rw [← hvs.length]; exact hz, fun p hp => okF_new s st1 s1 h1 hp fun ρ' st' => ⟨vs, upd_same, VRs.step st' _ _ hvs⟩⟩
    · exact h1.elim⟩
/-- list + list, whatever holds them -/
theorem op_catL : OpR X (binaryOp .Add) (fun x y H Q => ∃ l b xs zs, x = .ref l ∧ y = .ref b ∧ Rd H l (.lst xs) ∧ Rd H b (.lst zs) ∧ xs.length + zs.length ≤ sizeLine ∧ ∀ p, H p = none → Q (.ref p) (upd H p (.lst (xs ++ zs)))) := by
  intro pins s σ H x y v u Q I rx ry ⟨l, b, xs, zs, ex, ey, h1, h2, hz, q⟩
  subst ex ey
  cases rx
  cases ry
  obtain ⟨_, its, n, r, e⟩ := h1.ok I.hok
  obtain ⟨_, its2, n2, r2, e2⟩ := h2.ok I.hok
  have l1 := r.length
  have l2 := r2.length
  refine PySem.P.add_list e e2 ?_ (by simp only [List.size_toArray]; omega)
  rw [show its.toArray ++ its2.toArray = (its ++ its2).toArray by simp]
  exact ⟨.ref _, _, I.lnew (t' := s.toks) (r.append r2) (by simp only [List.length_append]; omega), rfl, q _ I.fresh⟩
theorem pf_cat (ha : PE X a (tE G M W ca)) (hb : PE X b (tE G M W cb)) : PE X (.BinOp a .Add b pos) (tF G M W (.cat ca cb)) :=
  (pe_op op_catL ha hb).imp fun σ H Q ⟨ρ, η, S, s, r, h⟩ => ⟨ρ, η, S, s, r, (PR.bind h).mono fun ρ1 H1 x S1 st1 s1 h1 v hv => ⟨ρ1, η, S1, s1, r.step st1, (PR.bind h1).mono fun ρ2 H2 y S2 st2 s2 h2 w hw => by
    split at h2
    · rename_i xs ys e1 e2
      split at h2
      · rename_i hz
        obtain ⟨p, vs, rfl, g1, g2⟩ := lst_of s2 (hv.step st2) e1
        obtain ⟨p', ws, rfl, g3, g4⟩ := lst_of s2 hw e2
        exact ⟨p, p', vs, ws, rfl, rfl, g1, g3, by rw [← g2.length, ← g4.length]; exact hz, fun q hq => okF_new s (st1.trans st2) s2 h2 hq fun ρ' st' => ⟨_, upd_same, VRs.step st' _ _ (g2.append g4)⟩⟩
      · exact h2.elim
    · exact h2.elim⟩⟩
theorem pf_slc (g : Good G k X) {lo hi : Option Expr} {cl ch : Oe} {p2 : Pos} (ha : PE X a (tE G M W ca)) (hl : PO X lo (tO G M W cl)) (hh : PO X hi (tO G M W ch)) : PE X (.Subscript a (.Slice lo hi none p2) pos) (tF G M W (.slc ca cl ch)) :=
  (pe_slice sl_list ha hl hh).imp fun σ H Q ⟨ρ, η, S, s, r, h⟩ => ⟨ρ, η, S, s, r, (PR.bind h).mono fun ρ1 H1 x S1 st1 s1 h1 v hv => ⟨ρ1, η, S1, s1, r.step st1, (PR.bind h1).mono fun ρ2 H2 l S2 st2 s2 h2 => ⟨ρ2, η, S2, s2, (r.step st1).step st2, (PR.bind h2).mono fun ρ3 H3 u S3 st3 s3 h3 => by
    split at h3
    · rename_i xs e
      obtain ⟨p, vs, rfl, g1, g2⟩ := lst_of s3 ((hv.step st2).step st3) e
      exact ⟨p, vs, rfl, .inl g1, fun q hq => okF_new s ((st1.trans st2).trans st3) s3 h3 hq fun ρ' st' => ⟨_, upd_same, VRs.step st' _ _ (g2.cut _ _)⟩⟩
    · exact h3.elim⟩⟩⟩
/-- one argument -/
theorem pa_one1 (ha : PE X a (tE G M W ca)) (hs : starEach [a] X.env = [(false, eval a X.env)]) : PA X [a] (tCons (tE G M W ca) tNil) := pa_cons ha pa_nil (by rw [hs]; rfl)
/-- list(x) -/
theorem pf_cpy (g : Good G k X) {p : Pos} (hg : Gl X "list") (hm : X.mg "list" = none) (ha : PE X a (tE G M W ca)) (hs : starEach [a] X.env = [(false, eval a X.env)]) : PE X (.Call (.Name "list" p) [a] [] pos) (tF G M W (.cpy ca)) :=
  (pe_callTy call_list_of hg hm (by decide +kernel) (pa_one1 ha hs) (by decide) (by decide) (by rw [hs]; rfl) rfl).imp fun σ H Q ⟨ρ, η, S, s, r, h⟩ => ⟨ρ, η, S, s, r, (PR.bind h).mono fun ρ1 H1 x S1 st1 s1 h1 v hv => by
    split at h1
    · rename_i xs e
      obtain ⟨p, vs, rfl, g1, g2⟩ := seq_of s1 hv e
      exact ⟨p, vs, rfl, by rw [g.K]; exact g1, fun q hq => okF_new s st1 s1 h1 hq fun ρ' st' => ⟨_, upd_same, VRs.step st' _ _ g2⟩⟩
    · exact h1.elim⟩
/-! ### built-ins of one argument -/
def rB1 (G : Glb) (f : B1) : List V → Hp → VK → Prop := fun xs H Q => ∃ ρ S a z x, xs = [x] ∧ Sim G ρ H S ∧ VR G ρ H a x ∧ b1op f S a = some z ∧ rFin G ρ H S z Q
def B1.fv : B1 → Value
  | .len => .builtin "len" | .all => .builtin "all" | .any => .builtin "any" | .repr => .builtin "repr" | .sum => .builtin "sum"
  | .tuple => .type "tuple" | .str => .type "str" | .int => .type "int"
theorem repr_reads (g : Good G k X) {pins : List (Addr × Obj)} {s : Shared} {σ : L2.St} {H : Hp} {x : V} {u : Value} {d : PyData} {Q : VK} (I : Inv X pins σ H s) (r : RelV x u) (h : Dp X.K H x d) (h1 : d.showable = true) (h2 : d.shown.length ≤ sizeLine) (h3 : d.canLay0 = true) (h4 : d.depth ≤ 60) (q : Q (.str d.shown) H) :
    wpAny (model X.prog X.w) X.A (call (.builtin "repr") [u]) (EP X pins σ Q) X.xe s := by
  obtain ⟨as, rd⟩ := Dp.reads I d x u h r
  have hd : d.hasDict = true → sysModules ∉ as := fun z => by rw [PySem.PyData.hasDict_of_canLay d h3] at z; cases z
  have hu := g.u64
  have fin : ∀ (h' : Heap) (w' : Tok) (tk : Nat), (∀ b o, s.heap.get? b = some o → h'.get? b = some o) → EP X pins σ Q (.str d.shown w') { s with heap := h', toks := tk } := fun h' w' tk kp => ⟨.str d.shown, H, I.kept kp, ⟨w', rfl⟩, q⟩
  cases d with
  | none => cases rd; exact PySem.P.repr_of_none (by have := fin s.heap s.toks (s.toks + 1) fun _ _ e => e; simpa only [PyData.shown] using this)
  | bool b => cases rd; exact PySem.P.repr_of_bool (by have := fin s.heap s.toks (s.toks + 1) fun _ _ e => e; simpa only [PyData.shown] using this)
  | int i => cases rd; exact PySem.P.repr_of_int (by simpa [PyData.showable] using h1) (by have := fin s.heap s.toks (s.toks + 1) fun _ _ e => e; simpa only [PyData.shown] using this)
  | str i => cases rd; exact PySem.P.repr_of_str (by have := fin s.heap s.toks (s.toks + 1) fun _ _ e => e; simpa only [PyData.shown] using this) (by simpa only [PyData.shown] using h2)
  | list xs =>
    obtain ⟨a, ea⟩ : ∃ a, u = .ref a := by cases rd; exact ⟨_, rfl⟩
    subst ea
    exact PySem.repr_of_reads' rd h1 hd g.grd (by omega) (fun _ _ e => e) (fun h' w' tk kp => fin h' w' tk kp) h2
  | tuple xs =>
    obtain ⟨a, ea⟩ : ∃ a, u = .ref a := by cases rd; exact ⟨_, rfl⟩
    subst ea
    exact PySem.repr_of_reads' rd h1 hd g.grd (by omega) (fun _ _ e => e) (fun h' w' tk kp => fin h' w' tk kp) h2
  | dict xs => simp [PySem.PyData.canLay0] at h3
theorem cr_b1 (g : Good G k X) (f : B1) : CallR X f.fv (rB1 G f) := by
  intro pins st σ H xs us Q I r h
  obtain ⟨ρ, S, a, z, x, rfl, s, ra, e, q⟩ := h
  cases f with
  | len =>
    simp only [b1op] at e
    split at e
    · simp only [VR] at ra; subst ra
      split at e
      · rename_i hz
        cases e
        exact call_len_str pins st σ H _ us Q I r ⟨_, rfl, hz, q.now s (by simp only [VR])⟩
      · cases e
    · split at e
      · rename_i ks xs ed
        cases e
        obtain ⟨p, kvs, rfl, h1, h2, h3⟩ := dct_of s ra ed
        obtain ⟨u, rfl, ru⟩ := vals1 r
        obtain rfl : u = Value.ref p := ru
        refine d_len I (.inl h1) fun t s' I' => ⟨.int _, H, I', ⟨t, rfl⟩, q.now s ?_⟩
        rw [← h2]; simp only [VR, List.length_map]
      · obtain ⟨ys, es, rfl⟩ := Option.map_eq_some_iff.mp e
        obtain ⟨p, vs, rfl, h1, h2⟩ := seq_of s ra es
        exact call_len_seq pins st σ H _ us Q I r ⟨p, vs, rfl, by rw [g.K]; exact h1, q.now s (by simp only [VR, h2.length])⟩
  | all =>
    obtain ⟨bs, eb, rfl⟩ := Option.map_eq_some_iff.mp (show ((lstOf S a).bind allB).map _ = some z from e)
    obtain ⟨ys, e1, e2⟩ := Option.bind_eq_some_iff.mp eb
    obtain ⟨p, vs, rfl, h1, h2⟩ := lst_of s ra e1
    exact cr_all g.calm pins st σ H _ us Q I r ⟨p, bs, rfl, by rw [← h2.bls e2]; exact .inl h1, q.now s (by simp only [VR])⟩
  | any =>
    obtain ⟨bs, eb, rfl⟩ := Option.map_eq_some_iff.mp (show ((lstOf S a).bind allB).map _ = some z from e)
    obtain ⟨ys, e1, e2⟩ := Option.bind_eq_some_iff.mp eb
    obtain ⟨p, vs, rfl, h1, h2⟩ := lst_of s ra e1
    exact cr_any g.calm pins st σ H _ us Q I r ⟨p, bs, rfl, by rw [← h2.bls e2]; exact .inl h1, q.now s (by simp only [VR])⟩
  | sum =>
    obtain ⟨bs, eb, rfl⟩ := Option.map_eq_some_iff.mp (show ((lstOf S a).bind allI).map _ = some z from e)
    obtain ⟨ys, e1, e2⟩ := Option.bind_eq_some_iff.mp eb
    obtain ⟨p, vs, rfl, h1, h2⟩ := lst_of s ra e1
    exact cr_sum g.calm pins st σ H _ us Q I r ⟨p, bs, rfl, by rw [← h2.ints e2]; exact .inl h1, q.now s (by simp only [VR])⟩
  | tuple =>
    obtain ⟨ys, es, rfl⟩ := Option.map_eq_some_iff.mp (show (seqOf S a).map _ = some z from e)
    obtain ⟨p, vs, rfl, h1, h2⟩ := seq_of s ra es
    rcases h1 with h1 | h1
    · exact call_tuple_of pins st σ H _ us Q I r ⟨p, vs, rfl, .inl ⟨by rw [g.K]; exact h1, fun l hl => q.tup s h2 hl⟩⟩
    · cases a with
      | tup zs =>
        simp only [seqOf, Option.some.injEq] at es; subst es
        exact call_tuple_of pins st σ H _ us Q I r ⟨p, vs, rfl, .inr ⟨by rw [g.K]; exact h1, q.now s ra⟩⟩
      | lst zs =>
        simp only [VR] at ra
        obtain ⟨p', vs', e1, h3, h4⟩ := ra
        cases e1
        simp only [seqOf, Option.some.injEq] at es; subst es
        exact call_tuple_of pins st σ H _ us Q I r ⟨p, vs', rfl, .inl ⟨h3.sq, fun l hl => q.tup s h4 hl⟩⟩
      | ref r' =>
        simp only [seqOf] at es
        split at es
        · rename_i zs eo
          cases es
          obtain ⟨p', e1, _, vs', h3, h4⟩ := s.ref ra eo
          cases e1
          exact call_tuple_of pins st σ H _ us Q I r ⟨p, vs', rfl, .inl ⟨SqL.of h3, fun l hl => q.tup s h4 hl⟩⟩
        · cases es
      | _ => simp only [seqOf] at es; cases es
  | repr =>
    simp only [b1op] at e
    split at e
    · rename_i d ed
      split at e
      · rename_i hz
        cases e
        obtain ⟨u, rfl, ru⟩ := vals1 r
        exact repr_reads g I ru (by rw [g.K]; exact dp_of s ra ed) hz.1 hz.2.1 hz.2.2.1 hz.2.2.2 (q.now s (by simp only [VR]))
      · cases e
    · cases e
  | str =>
    simp only [b1op] at e
    split at e
    · simp only [VR] at ra; subst ra
      split at e
      · rename_i hz
        cases e
        exact call_str_int pins st σ H _ us Q I r ⟨_, rfl, hz, q.now s (by simp only [VR])⟩
      · cases e
    · simp only [VR] at ra; subst ra
      cases e
      exact SkE.call_str_str pins st σ H _ us Q I r ⟨_, rfl, q.now s (by simp only [VR])⟩
    · cases e
  | int =>
    simp only [b1op] at e
    split at e
    · simp only [VR] at ra; subst ra
      cases e
      exact call_int1 pins st σ H _ us Q I r (.inr ⟨_, rfl, q.now s (by simp only [VR])⟩)
    · simp only [VR] at ra; subst ra
      cases e
      exact call_int1 pins st σ H _ us Q I r (.inl ⟨_, rfl, q.now s (by simp only [VR])⟩)
    · cases e
end
end Oz
set_option Elab.async false
set_option linter.all false
set_option maxRecDepth 100000
set_option maxHeartbeats 4000000
set_option autoImplicit false
/-! Oz: calls of the program's own defs, methods and classes. -/
namespace Oz
open PySem L2 PyProof.Rows

/-- a def keeps a promise where no repr is under way -/
structure FnG (P : Program) (w : World) (K : PySem.W.Frag) (mg : Str → Option Value) (base : Heap) (k : Nat) (f : Addr) (fd : FuncData) (ps : List Str) (sp : Sp) : Prop where
  len : ∀ vs H Q E, sp vs H Q E → vs.length = ps.length
  run : ∀ (A : Around) (outer : List Env) (s : Shared) (H : Hp) (args : Args) (us : List Value) (vs : List V) (Q : VK) (E : XK), Room k A → A.guards = some [] → Env0 P w K mg base A outer s H → BindsTo s fd args (ps.zip us) → Vals vs us → sp vs H Q E →
    codeAny (model P w) A (.call (.ref f) args) (CR (L2.CX P w) outer P w H s Q E) s
theorem FnG.mono {P : Program} {w : World} {K : PySem.W.Frag} {mg : Str → Option Value} {base : Heap} {j k : Nat} {f : Addr} {fd : FuncData} {ps : List Str} {sp : Sp} (F : FnG P w K mg base j f fd ps sp) (h : j ≤ k) : FnG P w K mg base k f fd ps sp :=
  ⟨F.len, fun A outer s H args us vs Q E hr => F.run A outer s H args us vs Q E (hr.mono h)⟩

/-- what a call hands back -/
def okR (G : Glb) (H : Hp) (Q : VK) : List Addr → Hp → Rv → Hs → Prop := fun ρ' H' r S' => match r with
  | .val x => ∀ v, VR G ρ' H' x v → Q v H'
  | .frs o => ∀ p, H p = none → p ∉ ρ' → OR G ρ' H' p o → Sim G (ρ' ++ [p]) H' (S' ++ [o]) → Q (.ref p) H'
/-- the promise of the def that the machine calls q -/
def spI (G : Glb) (M : Mach) (n : Nat) (q : Str) : Sp := fun vs H Q E => vs.length = n ∧ ∃ ρ S xs, Sim G ρ H S ∧ VRs G ρ H xs vs ∧ PR G (fun cls d _ H' => E cls d H') [] ρ H (M.cal q xs S) (okR G H Q)

section
variable {G : Glb} {k n : Nat} {X : Cx} {M : Mach} {W : WX} {f C : Addr} {fd : FuncData} {ps : List Str} {sp : Sp} {dvs : List V} {ds : List Value} {q : Str}
theorem raised {pins : List (Addr × Obj)} {σ : L2.St} {H : Hp} {s s' : Shared} {e : Value} (tk : Takes X W) (I : Inv X pins σ H s) (h : L2.CX X.prog X.w X.stack H s (fun c d H' => W c d σ H') e s') : X.xe e s' :=
  tk e s' (XE.of_call I (fun _ _ _ h => h) h)
theorem run_g {pins : List (Addr × Obj)} {σ : L2.St} {H : Hp} {s : Shared} {Q : VK} {us : List Value} {vs : List V} (F : FnG X.prog X.w X.K X.mg X.base k f fd ps sp) (hr : Room k X.A) (hg : X.A.guards = some []) (hb : Binds X.K fd ps ds) (hd : Vals dvs ds) (tk : Takes X W)
    (I : Inv X pins σ H s) (r : Vals vs us) (h : sp (vs ++ dvs) H Q (fun c d H' => W c d σ H')) : wpAny (model X.prog X.w) X.A (call (.ref f) us) (EP X pins σ Q) X.xe s := by
  have rr := r.append hd
  have len : (us ++ ds).length = ps.length := rr.length.symm.trans (F.len _ _ _ _ h)
  refine wpAny_call (codeAny_mono (F.run X.A X.stack s H ⟨us, []⟩ (us ++ ds) (vs ++ dvs) Q _ hr hg I.env0 (hb s us I.kIn len) rr h) ?_)
  intro r' s' hq
  match r', hq with
  | .error e, hq => exact raised tk I hq
  | .ok (.ret u), hq => exact I.after hq
  | .ok .next, hq => exact hq.elim
  | .ok .brk, hq => exact hq.elim
  | .ok .cont, hq => exact hq.elim
theorem guards_make {A : Around} {us : List Value} {kw : List (Str × Value)} (h : A.guards = some []) : (A.under (.builtin "type.__call__" ⟨.ref C :: us, kw⟩)).guards = some [] := by
  have e : (Code.builtin "type.__call__" ⟨.ref C :: us, kw⟩).guards = [] := by
    unfold Code.guards
    rw [if_neg]
    intro z
    have z2 : guardIds.contains "type.__call__" = true := z
    exact absurd z2 (by decide +kernel)
  unfold Around.under
  simp only [e]
  rw [h]; rfl
/-- a class is called -/
theorem run_mk {pins : List (Addr × Obj)} {σ : L2.St} {H : Hp} {s : Shared} {Q : VK} {us : List Value} {vs : List V} (m : Mk X.K C f) (F : FnG X.prog X.w X.K X.mg X.base k f fd ps sp) (hr : Room (k + 1) X.A) (hg : X.A.guards = some []) (hb : Binds X.K fd ps ds) (hd : Vals dvs ds) (tk : Takes X W)
    (I : Inv X pins σ H s) (r : Vals vs us)
    (h : ∀ x dx, H x = none → H dx = none → dx ≠ x → sp (.ref x :: (vs ++ dvs)) (upd (upd H dx (.own x)) x (.ins C dx [])) (fun v H2 => v = .non ∧ Q (.ref x) H2) (fun c d H' => W c d σ H')) :
    wpAny (model X.prog X.w) X.A (call (.ref C) us) (EP X pins σ Q) X.xe s := by
  have q0 := h (s.heap.objs.size + 1) s.heap.objs.size (I.hok.fresh (Nat.le_succ _)) (I.hok.fresh (Nat.le_refl _)) (Nat.ne_of_lt (Nat.lt_succ_self _))
  have J := Inv.made (C := C) I
  have rr : Vals (V.ref (s.heap.objs.size + 1) :: (vs ++ dvs)) (Value.ref (s.heap.objs.size + 1) :: (us ++ ds)) := .cons rfl (r.append hd)
  have len : (Value.ref (s.heap.objs.size + 1) :: us ++ ds).length = ps.length := rr.length.symm.trans (F.len _ _ _ _ q0)
  refine wpAny_call (make_map (f := f) I.kIn m.makes m.init (beq_iff_eq.mp m.fn) (codeAny_mono (F.run _ X.stack _ _ ⟨Value.ref (s.heap.objs.size + 1) :: us, []⟩ (Value.ref (s.heap.objs.size + 1) :: (us ++ ds)) _ _ _ (hr.make C us []) (guards_make hg)
    (J.env0.make C us []) (hb _ (Value.ref (s.heap.objs.size + 1) :: us) J.kIn len) rr q0) ?_))
  intro r' s' hq
  match r', hq with
  | .error e, hq => exact raised (σ := σ) tk J hq
  | .ok (.ret u), hq =>
    obtain ⟨v, H', J3, rv, ev, q3⟩ := J.after hq
    subst ev
    exact ⟨rv, V.ref (s.heap.objs.size + 1), H', J3, rfl, q3⟩
  | .ok .next, hq => exact hq.elim
  | .ok .brk, hq => exact hq.elim
  | .ok .cont, hq => exact hq.elim
end

/-! ### f(..) -/
section
variable {G : Glb} {k n : Nat} {X : Cx} {M : Mach} {W : WX} {f C : Addr} {fd : FuncData} {ps : List Str} {ds : List Value} {q x m : Str} {a e : Expr} {es : List Expr} {ca : E} {ces : Es} {p pos apos : Pos}
/-- the values of written arguments, then constants -/
def Es.app : Es → List Vl → Es
  | .nil, [] => .nil
  | .nil, v :: vs => .cons (.cst v) (Es.app .nil vs)
  | .cons e es, vs => .cons e (Es.app es vs)
theorem evs_app : ∀ (es : Es) (vs : List Vl) (η : Sg) (S : Hs), evs M (es.app vs) η S = (evs M es η S).bind fun xs S1 => .ok (xs ++ vs) S1
  | .nil, [], _, _ => by simp only [Es.app, evs, Res.bind, List.append_nil]
  | .nil, v :: vs, η, S => by
    have h := evs_app .nil vs η S
    simp only [Es.app, evs, ev, Res.bind] at h ⊢
    rw [h]; rfl
  | .cons e es, vs, η, S => by
    simp only [Es.app, evs]
    cases ev M e η S with
    | ok x S1 =>
      simp only [Res.bind]
      rw [evs_app es vs η S1]
      cases evs M es η S1 <;> rfl
    | exc x S1 => rfl
    | bad => rfl
/-- constants: they lean on nothing -/
def Csts (G : Glb) (xs : List Vl) (dvs : List V) : Prop := ∀ ρ H, VRs G ρ H xs dvs
theorem PR.exc_sig {α : Type} {W : WX} {σ : L2.St} {ρ : List Addr} {H : Hp} {r : Res α} {ok : List Addr → Hp → α → Hs → Prop} (h : PR G W σ ρ H r ok) : PR G (fun cls d _ H' => W cls d σ H') [] ρ H r ok := by
  cases r with
  | ok a S => exact h
  | exc x S =>
    intro ρ' H' st s
    have := h ρ' H' st s
    unfold XW at this ⊢
    exact this
  | bad => exact h
/-- from a call's answer -/
theorem PR.callV {σ : L2.St} {ρ0 ρ : List Addr} {H0 H : Hp} {S0 S : Hs} {Q : VK} {xs : List Vl} (s0 : Sim G ρ0 H0 S0) (st : Step ρ0 H0 ρ H) (s : Sim G ρ H S) (h : PR G W σ ρ H (calV M q xs S) (okV G Q)) : PR G W σ ρ H (M.cal q xs S) (okR G H Q) := by
  have h' : PR G W σ ρ H ((M.cal q xs S).bind fun r S1 => .ok r.v S1) (okV G Q) := h
  cases e : M.cal q xs S with
  | ok r S1 =>
    rw [e] at h'
    intro ρ' H' st' s'
    cases r with
    | val x => exact h' ρ' H' st' s'
    | frs o => exact fun p _ n ho _ => h' ρ' H' st' s' _ (ho.inl n)
  | exc x S1 => rw [e] at h'; exact h'
  | bad => rw [e] at h'; exact h'
theorem PR.callF {σ : L2.St} {ρ0 ρ : List Addr} {H0 H : Hp} {S0 S : Hs} {Q : VK} {xs : List Vl} (s0 : Sim G ρ0 H0 S0) (st : Step ρ0 H0 ρ H) (s : Sim G ρ H S) (h : PR G W σ ρ H ((M.cal q xs S).bind fun r S2 => match r with | .frs o => .ok o S2 | .val _ => .bad) (okF G H0 Q)) : PR G W σ ρ H (M.cal q xs S) (okR G H Q) := by
  cases e : M.cal q xs S with
  | ok r S1 =>
    rw [e] at h
    cases r with
    | val x => exact h.elim
    | frs o => exact fun ρ' H' st' s' p hp n ho sx => h ρ' H' st' s' p (none_of s0 s st hp) n ho sx
  | exc x S1 => rw [e] at h; exact h
  | bad => rw [e] at h; exact h
/-- what stands for the written arguments -/
def tCl (X : Cx) (k n : Nat) (G : Glb) (M : Mach) (q : Str) (W : WX) (ces : Es) (dxs : List Vl) : TE := fun σ H Q => ∃ ρ η S, Sim G ρ H S ∧ ER G ρ H η σ ∧ PR G W σ ρ H (evs M ces η S) fun ρ1 H1 xs S1 => xs.length + dxs.length = n ∧ PR G W σ ρ1 H1 (M.cal q (xs ++ dxs) S1) (okR G H1 Q)
theorem pe_callE (g : Good G (k + 1) X) (F : FnG X.prog X.w X.K X.mg X.base k f fd ps (spI G M n q)) (hg : Gl X x) (hm : X.mg x = some (.ref f)) (hk : PySem.W.keepIn X.K (.ref f) = true) {dxs : List Vl} {dvs : List V} (hb : Binds X.K fd ps ds) (hd : Vals dvs ds) (hc : Csts G dxs dvs) (tk : Takes X W)
    (ha : PA X (e :: es) (tA G M W ces)) (hdb : (x == ("__debug__" : Str)) = false := by decide) (he : starEach (e :: es) X.env = (false, eval e X.env) :: starEach es X.env := by rfl) (hpl : (backTo pos (starEach es X.env)).any (·.1) = false := by rfl) :
    PE X (.Call (.Name x p) (e :: es) [] pos) (tCl X k n G M q W ces dxs) := by
  refine ⟨fun pins s σ H Q I ⟨ρ, η, S, s0, r, h⟩ => ?_⟩
  have hr : Room k X.A := g.room.mono (Nat.le_succ _)
  refine wpAny_Call_Name_kw (ld_glob I hg hm ?_ hdb)
  refine PySem.W.callWith_K (h₀ := X.base) I.ok.mod.kin hk (thn (ha.run pos pins s σ H (fun vs H1 => ∃ xs ρ1 S1, Step ρ H ρ1 H1 ∧ Sim G ρ1 H1 S1 ∧ VRs G ρ1 H1 xs vs ∧ xs.length + dxs.length = n ∧ PR G W σ ρ1 H1 (M.cal q (xs ++ dxs) S1) (okR G H1 Q)) I ⟨ρ, η, S, s0, r, h.mono fun ρ1 H1 xs S1 st1 s1 hl vs hv => ⟨xs, ρ1, S1, st1, s1, hv, hl⟩⟩) fun us s1 ⟨vs, H1, I1, rv, xs, ρ1, S1, st1, sm1, hv, hl, hp⟩ => ⟨I1.kIn, ?_⟩) he hpl
  refine run_g F hr g.grd hb hd tk I1 rv ⟨?_, ρ1, S1, xs ++ dxs, sm1, hv.append (hc _ _), PR.exc_sig hp⟩
  rw [List.length_append, ← hv.length, ← (hc ρ1 H1).length]; exact hl
theorem pe_call0 (g : Good G (k + 1) X) (F : FnG X.prog X.w X.K X.mg X.base k f fd ps (spI G M n q)) (hg : Gl X x) (hm : X.mg x = some (.ref f)) (hk : PySem.W.keepIn X.K (.ref f) = true) {dxs : List Vl} {dvs : List V} (hb : Binds X.K fd ps ds) (hd : Vals dvs ds) (hc : Csts G dxs dvs) (tk : Takes X W) (hdb : (x == ("__debug__" : Str)) = false := by decide) :
    PE X (.Call (.Name x p) [] [] pos) (tCl X k n G M q W .nil dxs) := by
  refine ⟨fun pins s σ H Q I ⟨ρ, η, S, s0, r, h⟩ => ?_⟩
  have hr : Room k X.A := g.room.mono (Nat.le_succ _)
  obtain ⟨hl, hp⟩ := h.here s0
  refine wpAny_Call_Name_kw (ld_glob I hg hm ?_ hdb)
  refine PySem.W.callWith_K0 I.kIn hk ?_
  refine run_g (us := []) (vs := []) F hr g.grd hb hd tk I .nil ⟨?_, ρ, S, dxs, s0, (hc _ _), PR.exc_sig hp⟩
  simp only [List.length_nil] at hl
  rw [List.nil_append, ← (hc ρ H).length]; omega
/-- the value of a call -/
theorem tCl_val {σ : L2.St} {H : Hp} {Q : VK} {dxs : List Vl} (hn : ∀ η S xs S1, evs M ces η S = .ok xs S1 → xs.length + dxs.length = n) (h : tE G M W (.call q (ces.app dxs)) σ H Q) : tCl X k n G M q W ces dxs σ H Q := by
  obtain ⟨ρ, η, S, s0, r, h⟩ := h
  refine ⟨ρ, η, S, s0, r, ?_⟩
  simp only [ev, evs_app] at h
  cases e : evs M ces η S with
  | ok xs S1 =>
    rw [e] at h
    exact fun ρ1 H1 st s => ⟨hn _ _ _ _ e, PR.callV s0 st s (PR.step h st)⟩
  | exc x S1 => rw [e] at h; exact h
  | bad => rw [e] at h; exact h
theorem tCl_frs {σ : L2.St} {H : Hp} {Q : VK} {dxs : List Vl} (hn : ∀ η S xs S1, evs M ces η S = .ok xs S1 → xs.length + dxs.length = n) (h : tF G M W (.call q (ces.app dxs)) σ H Q) : tCl X k n G M q W ces dxs σ H Q := by
  obtain ⟨ρ, η, S, s0, r, h⟩ := h
  refine ⟨ρ, η, S, s0, r, ?_⟩
  simp only [evf, evs_app] at h
  cases e : evs M ces η S with
  | ok xs S1 =>
    rw [e] at h
    refine fun ρ1 H1 st s => ⟨hn _ _ _ _ e, ?_⟩
    have h2 := PR.step h st
    simp only [Res.bind] at h2
    exact PR.callF s0 st s h2
  | exc x S1 => rw [e] at h; exact h
  | bad => rw [e] at h; exact h
/-- how many there are -/
def Es.len : Es → Nat
  | .nil => 0
  | .cons _ es => es.len + 1
theorem evs_len : ∀ (es : Es) (η : Sg) (S : Hs) (xs : List Vl) (S1 : Hs), evs M es η S = .ok xs S1 → xs.length = es.len
  | .nil, η, S, xs, S1, h => by
    simp only [evs] at h
    cases h; rfl
  | .cons e es, η, S, xs, S1, h => by
    simp only [evs] at h
    cases e1 : ev M e η S with
    | ok x S2 =>
      rw [e1] at h; simp only [Res.bind] at h
      cases e2 : evs M es η S2 with
      | ok ys S3 =>
        rw [e2] at h; cases h
        simp only [List.length_cons, Es.len, evs_len es η S2 ys _ e2]
      | exc x S3 => rw [e2] at h; cases h
      | bad => rw [e2] at h; cases h
    | exc x S2 => rw [e1] at h; cases h
    | bad => rw [e1] at h; cases h
end
end Oz
set_option Elab.async false
set_option linter.all false
set_option maxRecDepth 100000
set_option maxHeartbeats 4000000
set_option autoImplicit false
/-! Oz: zip and enumerate over lists, tuples and texts. -/
namespace Oz
open PySem L2 PyProof.Rows

/-- what is walked -/
inductive Kq where
  | lst (a : Addr) | tup (a : Addr) | txt (z : Str)
def Kq.v : Kq → V
  | .lst a => .ref a
  | .tup a => .ref a
  | .txt z => .str z
def Kq.cur (K : PySem.W.Frag) (H : Hp) : Kq → List V → Prop
  | .lst a, vs => SqL K H a vs
  | .tup a, vs => SqT K H a vs
  | .txt z, vs => vs = z.cps.toList.map fun c => V.str ⟨#[c]⟩
def Kq.at_ (h : Heap) (it : Addr) (i : Nat) : Kq → Prop
  | .lst a => h.IsListIter it a i
  | .tup a => h.IsTupleIter it a i
  | .txt z => ∃ t, h.IsStrIter it (strIterType z) z t i
def Kq.lt (n : Nat) : Kq → Prop
  | .lst a => a < n
  | .tup a => a < n
  | .txt _ => True
theorem Kq.keep {h h' : Heap} {it : Addr} {i : Nat} : ∀ {q : Kq}, q.at_ h it i → (∀ o, h.get? it = some o → h'.get? it = some o) → q.at_ h' it i
  | .lst a, st, k => Heap.IsListIter.at st k
  | .tup a, st, k => Heap.IsTupleIter.at st k
  | .txt z, ⟨t, o, e, r⟩, k => ⟨t, o, k o e, r⟩
theorem Kq.live {h : Heap} {it : Addr} {i : Nat} : ∀ {q : Kq}, q.at_ h it i → ∃ o, h.get? it = some o ∧ ∀ v, o.data ≠ .cell v
  | .lst a, ⟨o, e, c, d⟩ => ⟨o, e, fun v z => by rw [d] at z; cases z⟩
  | .tup a, ⟨o, e, c, d⟩ => ⟨o, e, fun v z => by rw [d] at z; cases z⟩
  | .txt z, ⟨t, o, e, c, d⟩ => ⟨o, e, fun v z => by rw [d] at z; cases z⟩
section
variable {X : Cx} {pins : List (Addr × Obj)} {σ : L2.St} {H : Hp} {s : Shared}
theorem Kq.inj (I : Inv X pins σ H s) : ∀ {q : Kq} {vs ws : List V}, q.cur X.K H vs → q.cur X.K H ws → vs = ws
  | .lst a, _, _, h1, h2 => I.list_inj h1 h2
  | .tup a, _, _, h1, h2 => I.tuple_inj h1 h2
  | .txt z, _, _, h1, h2 => h1.trans h2.symm
/-- how its iterator goes on, from now on -/
theorem Kq.draws (I : Inv X pins σ H s) (hc : X.A.handled = none) {it : Addr} {i n : Nat} {vs : List V} : ∀ {q : Kq}, q.cur X.K H vs → q.at_ s.heap it i → q.lt n → n ≤ it →
    ∃ (fp : List Addr) (P : Nat → Value → Prop) (St : Nat → Heap → Prop), Draws X.prog X.w X.A.in1 it fp vs.length P St ∧ it ∈ fp ∧ St i s.heap ∧ (∀ b ∈ fp, b = it ∨ b < n) ∧ (∀ j x, P j x → ∃ v, vs[j]? = some v ∧ RelV v x) ∧ (∀ j h, St j h → q.at_ h it j)
  | .lst a, c, st, l, hn => by
    obtain ⟨its, rv, p, hz⟩ := I.list c
    have ne : a ≠ it := Nat.ne_of_lt (Nat.lt_of_lt_of_le l hn)
    have D := Draws.list (prog := X.prog) (w := X.w) (A := X.A.in1) (show X.A.in1.handled = none from hc) it a ne its.toArray
    have e : its.toArray.size = vs.length := by rw [List.size_toArray, rv.length]
    rw [e] at D
    refine ⟨_, _, _, D, by simp, ⟨st, p.isList⟩, fun b hb => ?_, fun j x hx => ?_, fun j h q => q.1⟩
    · rcases List.mem_cons.mp hb with z | z
      · exact .inl z
      · rw [List.mem_singleton.mp z]; exact .inr l
    · have hx' : its[j]? = some x := by simpa using hx
      have hj : j < vs.length := by rw [rv.length]; exact (List.getElem?_eq_some_iff.mp hx').1
      obtain ⟨u, hu, ru⟩ := rv.get (List.getElem?_eq_getElem hj)
      rw [hx'] at hu; cases hu
      exact ⟨_, List.getElem?_eq_getElem hj, ru⟩
  | .tup a, c, st, l, hn => by
    obtain ⟨its, rv, p, hz⟩ := I.tuple c
    have ne : a ≠ it := Nat.ne_of_lt (Nat.lt_of_lt_of_le l hn)
    have D := Draws.tuple (prog := X.prog) (w := X.w) (A := X.A.in1) (show X.A.in1.handled = none from hc) it a ne its.toArray
    have e : its.toArray.size = vs.length := by rw [List.size_toArray, rv.length]
    rw [e] at D
    refine ⟨_, _, _, D, by simp, ⟨st, p⟩, fun b hb => ?_, fun j x hx => ?_, fun j h q => q.1⟩
    · rcases List.mem_cons.mp hb with z | z
      · exact .inl z
      · rw [List.mem_singleton.mp z]; exact .inr l
    · have hx' : its[j]? = some x := by simpa using hx
      have hj : j < vs.length := by rw [rv.length]; exact (List.getElem?_eq_some_iff.mp hx').1
      obtain ⟨u, hu, ru⟩ := rv.get (List.getElem?_eq_getElem hj)
      rw [hx'] at hu; cases hu
      exact ⟨_, List.getElem?_eq_getElem hj, ru⟩
  | .txt z, c, ⟨t, st⟩, l, hn => by
    have D := Draws.text (prog := X.prog) (w := X.w) (A := X.A.in1) (show X.A.in1.handled = none from hc) it z t
    have e : z.cps.size = vs.length := by rw [show vs = _ from c, List.length_map, Array.length_toList]
    rw [e] at D
    refine ⟨_, _, _, D, by simp, st, fun b hb => .inl (List.mem_singleton.mp hb), fun j x hx => ?_, fun j h q => ⟨t, q⟩⟩
    obtain ⟨c', u, h1, rfl⟩ := hx
    refine ⟨.str ⟨#[c']⟩, ?_, ⟨u, rfl⟩⟩
    rw [show vs = _ from c, List.getElem?_map, Array.getElem?_toList, h1]; rfl
/-- the new iterator -/
theorem Kq.begins (I : Inv X pins σ H s) {vs : List V} {u : Value} : ∀ {q : Kq}, q.cur X.K H vs → RelV q.v u → ∃ (o : Obj) (Hk : Heap → Prop), Begins u o Hk ∧ Hk s.heap ∧ q.lt s.heap.objs.size ∧ ∀ (h' : Heap) (it : Addr), h'.get? it = some o → q.at_ h' it 0
  | .lst a, c, r => by
    obtain ⟨its, rv, p, hz⟩ := I.list c
    obtain rfl : u = Value.ref a := r
    exact ⟨_, _, begins_list a its.toArray, p.isList, p.lt, fun h' it e => ⟨_, e, rfl, rfl⟩⟩
  | .tup a, c, r => by
    obtain ⟨its, rv, p, hz⟩ := I.tuple c
    obtain rfl : u = Value.ref a := r
    obtain ⟨o, ho, _⟩ := id p
    exact ⟨_, _, begins_tuple a its.toArray, p, Heap.lt_size ho, fun h' it e => ⟨_, e, rfl, rfl⟩⟩
  | .txt z, c, r => by
    obtain ⟨t, rfl⟩ := r
    exact ⟨_, _, begins_text z t, trivial, trivial, fun h' it e => ⟨t, _, e, rfl, rfl⟩⟩
end

/-! ### zip -/
theorem five {n c : Nat} (h : c ∈ [n + 4, n + 2, n + 3, n, n + 1]) : n ≤ c ∧ c ≤ n + 4 := by
  simp at h; omega
theorem two {n c : Nat} (h : c ∈ [n + 1, n]) : n ≤ c ∧ c ≤ n + 1 := by
  simp at h; omega
theorem sep5 {n : Nat} {f1 f2 : List Nat} (m1 : n ∈ f1) (m2 : n + 1 ∈ f2) (o1 : ∀ b ∈ f1, b = n ∨ b < n) (o2 : ∀ b ∈ f2, b = n + 1 ∨ b < n) : ZipSep2 (n + 4) (n + 2) (n + 3) n (n + 1) f1 f2 := by
  have a1 : ∀ b, n < b → b ∉ f1 := fun b hb h => by have := o1 b h; omega
  have a2 : ∀ b, n ≤ b → b ≠ n + 1 → b ∉ f2 := fun b hb hn h => by have := o2 b h; omega
  exact ⟨show n + 2 ≠ n + 4 by omega, show n + 3 ≠ n + 4 by omega, show n + 2 ≠ n + 3 by omega, show n + 2 ≠ n by omega, m1, a1 _ (by omega), a1 _ (by omega), show n + 2 ≠ n + 1 by omega, m2, a2 _ (by omega) (by omega), a2 _ (by omega) (by omega), a2 _ (by omega) (by omega), a1 _ (by omega)⟩
def Itz2 (K : PySem.W.Frag) (q r : Kq) : It :=
  ⟨fun i H => ∃ (vs ws : List V), q.cur K H vs ∧ r.cur K H ws ∧ i < vs.length ∧ i < ws.length,
    fun i H v H' => ∃ T x y, v = .ref T ∧ H T = none ∧ H' = upd H T (.tup [x, y]) ∧ (∀ vs, q.cur K H vs → vs[i]? = some x) ∧ ∀ ws, r.cur K H ws → ws[i]? = some y,
    fun i H => ∃ (vs ws : List V), q.cur K H vs ∧ r.cur K H ws ∧ i ≤ vs.length ∧ i ≤ ws.length ∧ (i = vs.length ∨ i = ws.length)⟩
theorem turn_zip2 {P : Program} {w : World} {K : PySem.W.Frag} {elts : List Expr} {kk : Nat} {tpos : Pos} {q r : Kq} {n : Nat} (lq : q.lt n) (lr : r.lt n) :
    Turn P w K (.Tuple elts kk tpos) (Itz2 K q r) [n + 4, n + 2, n + 3, n, n + 1] (n + 4) (fun i h => IsZip h (n + 4) (n + 2) (n + 3) .none ∧ IsTupOf2 h (n + 2) (.ref n) (.ref (n + 1)) ∧ (∃ x y, IsTupOf2 h (n + 3) x y) ∧ q.at_ h n i ∧ r.at_ h (n + 1) i) where
  mem := by simp
  obj := fun i h st c hc => by
    obtain ⟨hz, hTI, ⟨x, y, hTO⟩, h1, h2⟩ := st
    have e' : c = n + 4 ∨ c = n + 2 ∨ c = n + 3 ∨ c = n ∨ c = n + 1 := by simpa using hc
    rcases e' with q | q | q | q | q
    · rw [q]; exact ⟨_, hz, fun v q => nomatch q⟩
    · rw [q]; exact ⟨_, hTI, fun v q => nomatch q⟩
    · rw [q]; exact ⟨_, hTO, fun v q => nomatch q⟩
    · rw [q]; exact Kq.live h1
    · rw [q]; exact Kq.live h2
  keep := fun i h h' st k => by
    obtain ⟨hz, hTI, ⟨x, y, hTO⟩, h1, h2⟩ := st
    exact ⟨k (n + 4) (by simp) _ hz, k (n + 2) (by simp) _ hTI, ⟨x, y, k (n + 3) (by simp) _ hTO⟩, Kq.keep h1 fun o e => k n (by simp) o e, Kq.keep h2 fun o e => k (n + 1) (by simp) o e⟩
  item := by
    intro X hP hw hK hc i pins s σ H E I hf st hg
    subst hP hw hK
    obtain ⟨hz, hTI, ⟨x0, y0, hTO⟩, h1, h2⟩ := st
    obtain ⟨vs, ws, c1, c2, i1, i2⟩ := hg
    obtain ⟨f1, P1, S1, D1, m1, s1, b1, p1, a1⟩ := Kq.draws I (I.ok.hd hc) c1 h1 lq (Nat.le_refl _)
    obtain ⟨f2, P2, S2, D2, m2, s2, b2, p2, a2⟩ := Kq.draws I (I.ok.hd hc) c2 h2 lr (Nat.le_succ _)
    have sep := sep5 m1 m2 b1 b2
    have hzl : n + 4 < s.heap.objs.size := Heap.lt_size hz
    refine wpAny_pyNext_zipD2_item sep D1 D2 hz hTI hTO s1 s2 i1 i2 fun x1 x2 h' tk px py z' TO' t1 t2 hT hsz hk => ?_
    obtain ⟨x, ex, rx⟩ := p1 i x1 px
    obtain ⟨y, ey, ry⟩ := p2 i x2 py
    refine ⟨_, rfl, wpAny_letOwnedTupleGo_zip (s := { s with heap := h', toks := tk }) z' fun h'' z'' sb => ?_⟩
    have hT2 : h''.get? s.heap.objs.size = some { cls := .type "tuple", data := .seq #[x1, x2] } := (sb.2 _ (Nat.ne_of_gt hzl)).trans hT
    have new : ObjOk X.prog X.w (upd H s.heap.objs.size (.tup [x, y])) h'' s.heap.objs.size (.tup [x, y]) :=
      ⟨by show 2 ≤ sizeLine; decide, [x1, x2], .cons rx (.cons ry .nil), ⟨_, hT2, rfl, _, rfl⟩⟩
    have I1 : Inv X pins σ (upd H s.heap.objs.size (.tup [x, y])) { s with heap := h'', toks := tk } :=
      I.turnedNew (t' := tk) (ch := [n + 4, n + 2, n + 3, n, n + 1]) (fun c o hb e => (sb.2 c (fun q' => hb (by simp [q']))).trans (hk c o (fun q' => hb (by simp [q'])) (fun q' => hb (by simp [q'])) (fun q' => hb (by simp [q'])) (fun q' => hb (by simp [q'])) e)) hf (Nat.le_refl _) new
    refine ⟨.ref s.heap.objs.size, _, I1, rfl, ⟨_, x, y, rfl, I.hok.fresh (Nat.le_refl _), rfl, fun l hl => by rw [Kq.inj I hl c1]; exact ex, fun l hl => by rw [Kq.inj I hl c2]; exact ey⟩, ⟨z'', ?_, ⟨x1, x2, ?_⟩, ?_, ?_⟩, fun c hcm => ?_⟩
    · exact (sb.2 _ sep.TIz).trans (hk _ _ sep.TIz sep.TITO sep.TIi1 sep.TIi2 hTI)
    · exact (sb.2 _ sep.TOz).trans TO'
    · exact Kq.keep (a1 _ _ t1) fun o e => (sb.2 _ (show n ≠ n + 4 by omega)).trans e
    · exact Kq.keep (a2 _ _ t2) fun o e => (sb.2 _ (show n + 1 ≠ n + 4 by omega)).trans e
    · have hlt : c < s.heap.objs.size := by
        have e' := five hcm
        exact Nat.lt_of_le_of_lt e'.2 hzl
      rw [upd_ne (Nat.ne_of_lt hlt)]
      exact (hf c hcm).1
  done := by
    intro X hP hw hK hc i pins s σ H E I hf st hg
    subst hP hw hK
    obtain ⟨hz, hTI, ⟨x0, y0, hTO⟩, h1, h2⟩ := st
    obtain ⟨vs, ws, c1, c2, i1, i2, hend⟩ := hg
    obtain ⟨f1, P1, S1, D1, m1, s1, b1, p1, a1⟩ := Kq.draws I (I.ok.hd hc) c1 h1 lq (Nat.le_refl _)
    obtain ⟨f2, P2, S2, D2, m2, s2, b2, p2, a2⟩ := Kq.draws I (I.ok.hd hc) c2 h2 lr (Nat.le_succ _)
    have sep := sep5 m1 m2 b1 b2
    refine wpAny_pyNext_zipD2_end sep D1 D2 hz hTI hTO s1 s2 i1 i2 hend fun h' tk hk => ⟨rfl, I.turnedL (t' := tk) (ch := [n + 4, n + 2, n + 3, n, n + 1]) (fun c o hb q =>
      hk c o (fun q' => hb (by simp [q'])) (fun q' => hb (by simp [q'])) (fun q' => hb (by simp [q'])) (fun q' => hb (by simp [q'])) q) hf⟩
  self := fun A i s Q E st h => wpAny_pyIter_zip st.1 h
def iZip2 (K : PySem.W.Frag) (ta : TA) : TI := fun σ H R => ta σ H fun xs H1 => ∃ q r vs ws, xs = [Kq.v q, Kq.v r] ∧ q.cur K H1 vs ∧ r.cur K H1 ws ∧ R (Itz2 K q r) H1
theorem pi_zip2 {X : Cx} {e e2 : Expr} {ta : TA} {p pos tpos : Pos} {elts : List Expr} {kk : Nat} (hg : Gl X "zip") (hm : X.mg "zip" = none) (ha : PA X [e, e2] ta)
    (hs : starEach [e, e2] X.env = (false, eval e X.env) :: starEach [e2] X.env := by rfl) (hpl : (backTo pos (starEach [e2] X.env)).any (·.1) = false := by rfl) :
    PI X (.Tuple elts kk tpos) (.Call (.Name "zip" p) [e, e2] [] pos) (iZip2 X.K ta) := by
  refine ⟨fun pins s σ H R I h => ?_⟩
  refine Call_ (ld_blt I hg hm PyProof.Rows.boot_zip (PyProof.Rows.callWith_type1 (thn (ha.run pos pins s σ H _ I h) fun us s1 ⟨xs, H1, I1, r1, q1⟩ => ?_) hs hpl))
  obtain ⟨q, r, vs, ws, ex, c1, c2, hR⟩ := q1
  subst ex
  obtain ⟨u1, u2, rfl, ru1, ru2⟩ := vals2 r1
  obtain ⟨o1, K1, B1, k1, l1, a1⟩ := Kq.begins I1 c1 ru1
  obtain ⟨o2, K2, B2, k2, l2, a2⟩ := Kq.begins I1 c2 ru2
  refine zip_begins2 B1 B2 k1 k2 fun h' hz hTI hTO g1 g2 hsz hk => wpAny_pyIter_zip hz ?_
  have I2 : Inv X pins σ H1 { s1 with heap := h' } := I1.kept (t' := s1.toks) hk
  refine ⟨_, [s1.heap.objs.size + 4, s1.heap.objs.size + 2, s1.heap.objs.size + 3, s1.heap.objs.size, s1.heap.objs.size + 1], _, _, H1, rfl, I2, turn_zip2 l1 l2, ⟨hz, hTI, ⟨_, _, hTO⟩, a1 _ _ g1, a2 _ _ g2⟩, fun c hcm => ?_, hR⟩
  have hle : s1.heap.objs.size ≤ c := (five hcm).1
  exact I1.fpOk hle (I1.hok.fresh hle)

/-! ### enumerate -/
def Ite2 (K : PySem.W.Frag) (k0 : Int) (q : Kq) : It :=
  ⟨fun i H => ∃ (vs : List V), q.cur K H vs ∧ i < vs.length,
    fun i H v H' => ∃ T x, v = .ref T ∧ H T = none ∧ H' = upd H T (.tup [.int (k0 + (i : Nat)), x]) ∧ ∀ vs, q.cur K H vs → vs[i]? = some x,
    fun i H => ∃ (vs : List V), q.cur K H vs ∧ i = vs.length⟩
theorem turn_enum2 {P : Program} {w : World} {K : PySem.W.Frag} {elts : List Expr} {kk : Nat} {tpos : Pos} {k0 : Int} {q : Kq} {n : Nat} (lq : q.lt n) :
    Turn P w K (.Tuple elts kk tpos) (Ite2 K k0 q) [n + 1, n] (n + 1) (fun i h => (∃ old, IsEnum h (n + 1) n (k0 + (i : Nat)) old) ∧ q.at_ h n i) where
  mem := by simp
  obj := fun i h st b hb => by
    obtain ⟨⟨old, he⟩, h1⟩ := st
    have e' : b = n + 1 ∨ b = n := by simpa using hb
    rcases e' with z | z
    · rw [z]; exact ⟨_, he, fun v q => nomatch q⟩
    · rw [z]; exact Kq.live h1
  keep := fun i h h' st k => let ⟨⟨old, he⟩, hi⟩ := st; ⟨⟨old, k (n + 1) (by simp) _ he⟩, Kq.keep hi fun o q => k n (by simp) o q⟩
  item := by
    intro X hP hw hK hc i pins s σ H E I hf st hg
    subst hP hw hK
    obtain ⟨⟨old, he⟩, h1⟩ := st
    obtain ⟨vs, c1, i1⟩ := hg
    obtain ⟨f1, P1, S1, D1, m1, s1, b1, p1, a1⟩ := Kq.draws I (I.ok.hd hc) c1 h1 lq (Nat.le_refl _)
    have hel : n + 1 < s.heap.objs.size := Heap.lt_size he
    have hef : n + 1 ∉ f1 := fun h => (b1 _ h).elim (fun e => Nat.succ_ne_self n e) fun l => absurd l (by show ¬ n + 1 < n; omega)
    refine wpAny_pyNext_enum_itemC D1 he s1 i1 (Nat.succ_ne_self n) hef fun x1 h' tk px ho st' hT hsz hk => ?_
    obtain ⟨x, ex, rx⟩ := p1 i x1 px
    refine ⟨_, rfl, wpAny_letOwnedTupleGo_enum (s := { s with heap := h', toks := tk + 1 }) ho fun h'' he' sb => ?_⟩
    have hT2 : h''.get? s.heap.objs.size = some { cls := .type "tuple", data := .seq #[.int (k0 + (i : Nat)) tk, x1] } := (sb.2 _ (Nat.ne_of_gt hel)).trans hT
    have new : ObjOk X.prog X.w (upd H s.heap.objs.size (.tup [.int (k0 + (i : Nat)), x])) h'' s.heap.objs.size (.tup [.int (k0 + (i : Nat)), x]) :=
      ⟨by show 2 ≤ sizeLine; decide, [.int (k0 + (i : Nat)) tk, x1], .cons ⟨_, rfl⟩ (.cons rx .nil), ⟨_, hT2, rfl, _, rfl⟩⟩
    have I1 : Inv X pins σ (upd H s.heap.objs.size (.tup [.int (k0 + (i : Nat)), x])) { s with heap := h'', toks := tk + 1 } :=
      I.turnedNew (ch := [n + 1, n]) (fun b ob hb q => (sb.2 b (fun z => hb (by simp [z]))).trans (hk b ob (fun z => hb (by simp [z])) (fun z => hb (by simp [z])) q)) hf (Nat.le_refl _) new
    refine ⟨.ref s.heap.objs.size, _, I1, rfl, ⟨_, x, rfl, I.hok.fresh (Nat.le_refl _), rfl, fun ys hy => by rw [Kq.inj I hy c1]; exact ex⟩, ⟨⟨x1, ?_⟩, Kq.keep (a1 _ _ st') fun o q => (sb.2 n (show n ≠ n + 1 by omega)).trans q⟩, fun b hb => ?_⟩
    · have e1 : k0 + ((i + 1 : Nat) : Int) = k0 + (i : Nat) + 1 := by omega
      rw [e1]; exact he'
    · have hb' : b < s.heap.objs.size := Nat.lt_of_le_of_lt (two hb).2 hel
      rw [upd_ne (Nat.ne_of_lt hb')]
      exact (hf b hb).1
  done := by
    intro X hP hw hK hc i pins s σ H E I hf st hg
    subst hP hw hK
    obtain ⟨⟨old, he⟩, h1⟩ := st
    obtain ⟨vs, c1, i1⟩ := hg
    obtain ⟨f1, P1, S1, D1, m1, s1, b1, p1, a1⟩ := Kq.draws I (I.ok.hd hc) c1 h1 lq (Nat.le_refl _)
    have D2 : Draws X.prog X.w X.A.in1 n f1 i P1 S1 := by rw [i1]; exact D1
    exact wpAny_pyNext_enum_endD D2 he s1 fun h' hx => ⟨rfl, I.turnedL (t' := s.toks) (ch := [n + 1, n]) (fun b o hb q => hx b o (fun z => hb (by simp [z])) q) hf⟩
  self := fun A i s Q E st h => let ⟨⟨_, he⟩, _⟩ := st; wpAny_pyIter_enum he h
def iEnum2 (K : PySem.W.Frag) (k0 : Int) (ta : TA) : TI := fun σ H R => ta σ H fun xs H1 => ∃ q vs, xs = [Kq.v q] ∧ q.cur K H1 vs ∧ R (Ite2 K k0 q) H1
theorem pie_enum2 {X : Cx} {pins : List (Addr × Obj)} {σ : L2.St} {H1 : Hp} {s1 : Shared} {q : Kq} {vs : List V} {k0 : Int} {tpos : Pos} {elts : List Expr} {kk : Nat} {R : It → Hp → Prop} {h' : Heap} {o : Obj} {E : Value → Shared → Prop} (I1 : Inv X pins σ H1 s1) (c1 : q.cur X.K H1 vs) (l1 : q.lt s1.heap.objs.size) (a1 : ∀ (h' : Heap) (it : Addr), h'.get? it = some o → q.at_ h' it 0)
    (he : IsEnum h' (s1.heap.objs.size + 1) s1.heap.objs.size k0 .none) (g1 : h'.get? s1.heap.objs.size = some o) (hk : ∀ b o, s1.heap.get? b = some o → h'.get? b = some o) (hR : R (Ite2 X.K k0 q) H1) :
    wpAny (model X.prog X.w) X.A (pyIter (.ref (s1.heap.objs.size + 1))) (PIE X pins σ (.Tuple elts kk tpos) R) E { s1 with heap := h' } := by
  refine wpAny_pyIter_enum he ?_
  have I2 : Inv X pins σ H1 { s1 with heap := h' } := I1.kept (t' := s1.toks) hk
  refine ⟨_, [s1.heap.objs.size + 1, s1.heap.objs.size], _, _, H1, rfl, I2, turn_enum2 (k0 := k0) l1, ⟨⟨.none, ?_⟩, a1 _ _ g1⟩, fun c hcm => ?_, hR⟩
  · have e1 : k0 + ((0 : Nat) : Int) = k0 := by omega
    rw [e1]; exact he
  · have hle : s1.heap.objs.size ≤ c := (two hcm).1
    exact I1.fpOk hle (I1.hok.fresh hle)
end Oz
set_option Elab.async false
set_option linter.all false
set_option maxRecDepth 100000
set_option maxHeartbeats 4000000
set_option autoImplicit false
/-! Oz: what loops walk. -/
namespace Oz
open PySem L2 PyProof.Rows

/-- the same walk, told otherwise -/
theorem turn_to {P : Program} {w : World} {K : PySem.W.Frag} {tg : Expr} {J J' : It} {fp : List Addr} {it : Addr} {tn : Nat → Heap → Prop} (T : Turn P w K tg J fp it tn)
    (hg : ∀ i H, J'.go i H → J.go i H) (hy : ∀ i H x H', J'.go i H → J.yld i H x H' → J'.yld i H x H') (hs : ∀ i H, J'.stop i H → J.stop i H) : Turn P w K tg J' fp it tn where
  mem := T.mem
  obj := T.obj
  keep := T.keep
  item := fun X hP hw hK hc i pins s σ H E I hf st hgo => wpAny_mono (T.item X hP hw hK hc i pins s σ H E I hf st (hg i H hgo)) (fun r s1 ⟨u, hr, h4⟩ => ⟨u, hr, wpAny_mono h4 (fun _ s2 ⟨x, H', I', r', y, rest⟩ => ⟨x, H', I', r', hy i H x H' hgo y, rest⟩) fun _ _ z => z⟩) fun _ _ z => z
  done := fun X hP hw hK hc i pins s σ H E I hf st hst => T.done X hP hw hK hc i pins s σ H E I hf st (hs i H hst)
  self := T.self
/-- what is walked, as it stands at each turn -/
def Itq (K : PySem.W.Frag) (q : Kq) : It :=
  ⟨fun i H => ∃ vs : List V, q.cur K H vs ∧ i < vs.length, fun i H x H' => H' = H ∧ ∀ vs, q.cur K H vs → vs[i]? = some x, fun i H => ∃ vs : List V, q.cur K H vs ∧ i = vs.length⟩
def iSeq (K : PySem.W.Frag) (te : TE) : TI := fun σ H R => te σ H fun x H1 => ∃ q : Kq, x = q.v ∧ (∃ vs, q.cur K H1 vs) ∧ R (Itq K q) H1
theorem pi_seq {X : Cx} {tg e : Expr} {te : TE} (he : PE X e te) : PI X tg e (iSeq X.K te) := by
  refine ⟨fun pins s σ H R I h => ?_⟩
  refine thn (he.run pins s σ H _ I h) fun v s1 ⟨x, H1, I1, r1, q1⟩ => ?_
  obtain ⟨q, e, ⟨xs, hq⟩, hR⟩ := q1
  subst e
  cases q with
  | lst a =>
    cases r1
    obtain ⟨its, rv, p, hz⟩ := I1.list hq
    refine wpAny_pyIter_list p.isList ?_
    refine ⟨s1.heap.objs.size, [s1.heap.objs.size], _, _, H1, rfl, I1.kept (t' := s1.toks) fun b o e => Heap.get?_push_of_some _ e, turn_to (J' := Itq X.K (.lst a)) (turn_list a s1.heap.objs.size) (fun i H ⟨vs, c, l⟩ => ⟨vs, vs[i], c, by simp [l]⟩) (fun i H x H' _ y => y) (fun i H ⟨vs, c, l⟩ => ⟨vs, c, by omega⟩), ⟨_, Heap.get?_push_size _ rfl, rfl, rfl⟩, fun b hb => ?_, hR⟩
    have e : b = s1.heap.objs.size := by simpa using hb
    subst e
    exact I1.fpOk (Nat.le_refl _) (I1.hok.fresh (Nat.le_refl _))
  | tup a =>
    cases r1
    obtain ⟨its, rv, p, hz⟩ := I1.tuple hq
    refine wpAny_pyIter_tuple (show s1.heap.IsTuple a its.toArray from p) ?_
    refine ⟨s1.heap.objs.size, [s1.heap.objs.size], _, _, H1, rfl, I1.kept (t' := s1.toks) fun b o e => Heap.get?_push_of_some _ e, turn_to (J' := Itq X.K (.tup a)) (turn_tuple a s1.heap.objs.size) (fun i H ⟨vs, c, l⟩ => ⟨vs, vs[i], c, by simp [l]⟩) (fun i H x H' _ y => y) (fun i H ⟨vs, c, l⟩ => ⟨vs, c, by omega⟩), ⟨_, Heap.get?_push_size _ rfl, rfl, rfl⟩, fun b hb => ?_, hR⟩
    have e : b = s1.heap.objs.size := by simpa using hb
    subst e
    exact I1.fpOk (Nat.le_refl _) (I1.hok.fresh (Nat.le_refl _))
  | txt z =>
    obtain ⟨t, rfl⟩ := r1
    have key : ∀ (it : Addr) (ty : String) (hty : ty = "str_ascii_iterator" ∨ ty = "str_iterator"), Turn X.prog X.w X.K tg (Itq X.K (.txt z)) [it] it (fun i h => h.IsStrIter it ty z t i) := fun it ty hty =>
      turn_to (J' := Itq X.K (.txt z)) (turn_str it z t ty hty) (fun i H ⟨vs, c, l⟩ => by
        have c' : vs = z.cps.toList.map fun c => V.str ⟨#[c]⟩ := c
        subst c'
        show i < z.cps.size
        simpa using l) (fun i H x H' _ ⟨e, c, hc, hx⟩ => ⟨e, fun vs c' => by
          have c' : vs = z.cps.toList.map fun c => V.str ⟨#[c]⟩ := c'
          subst c'
          rw [List.getElem?_map, Array.getElem?_toList, hc, hx]; rfl⟩) (fun i H ⟨vs, c, l⟩ => by
        have c' : vs = z.cps.toList.map fun c => V.str ⟨#[c]⟩ := c
        subst c'
        show z.cps.size ≤ i
        simp at l; omega)
    cases ha : z.cps.all (· < 128)
    · exact wpAny_pyIter_wide ha (pi_one (tk := s1.toks) I1 _ (key _ "str_iterator" (.inr rfl)) ⟨_, Heap.get?_push_size _ rfl, rfl, rfl⟩ hR)
    · exact wpAny_pyIter_ascii ha (pi_one (tk := s1.toks) I1 _ (key _ "str_ascii_iterator" (.inl rfl)) ⟨_, Heap.get?_push_size _ rfl, rfl, rfl⟩ hR)

/-! ### enumerate of anything that begins -/
set_option maxHeartbeats 1000000 in
theorem meets_en {v : Value} {o : Obj} {Hk : Heap → Prop} (B : Begins v o Hk) :
    Meets (Builtin.«enumerate.__new__» ⟨[.type "enumerate", v], []⟩) (fun _ R s => Hk s.heap ∧
      R (.ok (.ret (.ref (s.heap.push o).objs.size))) { s with heap := (s.heap.push o).push { cls := .type "enumerate", data := .fields #[.none, .bool false, .ref s.heap.objs.size, rawInt 0, .none, .none] } }) :=
  .of_wp fun prog w A R s hh => by
    obtain ⟨hp, g, d, tk, os⟩ := s
    obtain ⟨h1, hR⟩ := hh
    have isSub := sub_enumerate
    have go : ∀ {A' : Around} {E' : Value → Shared → Prop} {Q' : Value → Shared → Prop}, Q' (.ref hp.objs.size) ⟨hp.push o, g, d, tk, os⟩ → wpAny (model prog w) A' (pyIter v) Q' E' ⟨hp, g, d, tk, os⟩ := fun q => B.iter prog w _ _ ⟨hp, g, d, tk, os⟩ _ h1 q
    wp_walk using go
    refine wpAny_stack_any fun _ => wpAny_pure ?_
    split
    · rename_i c _ _ _ _ _
      cases (c == Value.type "enumerate") <;> (wp_walk using go; exact ⟨_, rfl, hR⟩)
    · wp_walk using go; exact ⟨_, rfl, hR⟩
theorem call_en {prog : Program} {w : World} {A : Around} {E : Value → Shared → Prop} {s : Shared} {v : Value} {o : Obj} {Hk : Heap → Prop} {Q : Value → Shared → Prop} (B : Begins v o Hk) (h1 : Hk s.heap)
    (h : ∀ h', IsEnum h' (s.heap.objs.size + 1) s.heap.objs.size 0 .none → h'.get? s.heap.objs.size = some o → (∀ b o, s.heap.get? b = some o → h'.get? b = some o) → Q (.ref (s.heap.objs.size + 1)) { s with heap := h' }) :
    wpAny (model prog w) A (call (.type "enumerate") [v]) Q E s := by
  refine callType_new F.called_enumerate (by decide) (F.typeCall_enumerate_1 _) (F.newCall_enumerate_1 _) (fun obj => F.args_object_init_2 obj _) F.entry_enumerate_new (meets_en B) ⟨h1, ?_⟩
  have hz : (s.heap.push o).objs.size = s.heap.objs.size + 1 := Heap.size_push ..
  show _ ∧ _
  rw [hz]
  have he : IsEnum ((s.heap.push o).push ⟨.type "enumerate", none, .fields #[.none, .bool false, .ref s.heap.objs.size, rawInt 0, .none, .none], #[]⟩) (s.heap.objs.size + 1) s.heap.objs.size 0 .none := by
    have q := Heap.get?_push_size (s.heap.push o) (o := ⟨.type "enumerate", none, .fields #[.none, .bool false, .ref s.heap.objs.size, rawInt 0, .none, .none], #[]⟩) rfl
    rwa [hz] at q
  exact ⟨⟨_, he, rfl⟩, h _ he (Heap.get?_push_of_some _ (Heap.get?_push_size _ B.free)) fun b o x => Heap.get?_push_of_some _ (Heap.get?_push_of_some _ x)⟩
theorem pi_enum2 {X : Cx} {e : Expr} {ta : TA} {p pos tpos : Pos} {elts : List Expr} {kk : Nat} (hg : Gl X "enumerate") (hm : X.mg "enumerate" = none) (ha : PA X [e] ta) (hs : starEach [e] X.env = [(false, eval e X.env)] := by rfl) :
    PI X (.Tuple elts kk tpos) (.Call (.Name "enumerate" p) [e] [] pos) (iEnum2 X.K 0 ta) := by
  refine ⟨fun pins s σ H R I h => ?_⟩
  refine Call_ (ld_blt I hg hm boot_enumerate (PyProof.Rows.callWith_type1 (thn (ha.run pos pins s σ H _ I h) fun us s1 ⟨xs, H1, I1, r1, q1⟩ => ?_) hs rfl))
  obtain ⟨q, vs, ex, c1, hR⟩ := q1
  subst ex
  cases r1 with
  | cons ru rr =>
    cases rr
    obtain ⟨o1, K1, B1, k1, l1, a1⟩ := Kq.begins I1 c1 ru
    exact call_en B1 k1 fun h' he g1 hk => pie_enum2 I1 c1 l1 a1 he g1 hk hR
/-! ### what stands at what is walked -/
section
variable {G : Glb} {ρ ρ' : List Addr} {H H' : Hp} {S : Hs}
/-- while the locks hold, xs stand there -/
def WK (G : Glb) (ρ0 : List Addr) (H0 : Hp) (q : Kq) (lk : List Lk) (xs : List Vl) : Prop := ∀ ρ H S, StepX ρ0 H0 ρ H → Sim G ρ H S → lockd lk S → ∃ vs, q.cur G.K H vs ∧ VRs G ρ H xs vs
theorem WK.step {q : Kq} {lk : List Lk} {xs : List Vl} (h : WK G ρ H q lk xs) (a : StepX ρ H ρ' H') : WK G ρ' H' q lk xs := fun ρ2 H2 S b s l => h ρ2 H2 S (a.trans b) s l
theorem walk_of (s : Sim G ρ H S) {x : Vl} {v : V} {lk : List Lk} {xs : List Vl} (h : VR G ρ H x v) (e : walkS S x = some (lk, xs)) : ∃ q : Kq, v = q.v ∧ (∃ vs, q.cur G.K H vs) ∧ WK G ρ H q lk xs := by
  cases x with
  | tup ys =>
    simp only [walkS, Option.some.injEq, Prod.mk.injEq] at e
    obtain ⟨rfl, rfl⟩ := e
    simp only [VR] at h
    obtain ⟨a, vs, rfl, h1, h2⟩ := h
    exact ⟨.tup a, rfl, ⟨vs, h1.sq⟩, fun ρ' H' S' st _ _ => ⟨vs, (h1.stepX st).sq, VRs.stepX st _ _ h2⟩⟩
  | lst ys =>
    simp only [walkS, Option.some.injEq, Prod.mk.injEq] at e
    obtain ⟨rfl, rfl⟩ := e
    simp only [VR] at h
    obtain ⟨a, vs, rfl, h1, h2⟩ := h
    exact ⟨.lst a, rfl, ⟨vs, h1.sq⟩, fun ρ' H' S' st _ _ => ⟨vs, (h1.stepX st).sq, VRs.stepX st _ _ h2⟩⟩
  | ref r =>
    simp only [walkS] at e
    split at e
    · rename_i ys eo
      simp only [Option.some.injEq, Prod.mk.injEq] at e
      obtain ⟨rfl, rfl⟩ := e
      obtain ⟨a, rfl, ha, vs, h1, h2⟩ := s.ref h eo
      refine ⟨.lst a, rfl, ⟨vs, SqL.of h1⟩, fun ρ' H' S' st s' l => ?_⟩
      have l1 := l (r, .lst ys) (by simp)
      have hx := VR.stepX st _ _ h
      obtain ⟨a', e', _, vs', h1', h2'⟩ := s'.ref hx l1
      cases e'
      exact ⟨vs', SqL.of h1', h2'⟩
    · cases e
  | _ => simp only [walkS] at e; cases e
theorem VRs.chars (z : Str) : VRs G ρ H (charsL z) (z.cps.toList.map fun c => V.str ⟨#[c]⟩) := by
  unfold charsL
  induction z.cps.toList with
  | nil => exact VRs.nil
  | cons c cs ih => exact VRs.cons (by simp only [VR]) ih
theorem walkT_of (s : Sim G ρ H S) {x : Vl} {v : V} {lk : List Lk} {xs : List Vl} (h : VR G ρ H x v) (e : walkT S x = some (lk, xs)) : ∃ q : Kq, v = q.v ∧ (∃ vs, q.cur G.K H vs) ∧ WK G ρ H q lk xs := by
  cases x with
  | str z =>
    simp only [walkT, Option.some.injEq, Prod.mk.injEq] at e
    obtain ⟨rfl, rfl⟩ := e
    simp only [VR] at h
    subst h
    exact ⟨.txt z, rfl, ⟨_, rfl⟩, fun ρ' H' S' st _ _ => ⟨_, rfl, VRs.chars z⟩⟩
  | _ => exact walk_of s h e
/-- an iterator goes through xs while the locks hold -/
structure JW (G : Glb) (J : It) (ρ0 : List Addr) (H0 : Hp) (lk : List Lk) (xs : List Vl) : Prop where
  go : ∀ ρ H S i x, StepX ρ0 H0 ρ H → Sim G ρ H S → lockd lk S → xs[i]? = some x → J.go i H ∧ ∀ v H', J.yld i H v H' → Same H H' ∧ VR G ρ H' x v
  stop : ∀ ρ H S, StepX ρ0 H0 ρ H → Sim G ρ H S → lockd lk S → J.stop xs.length H
theorem VRs.at_ {xs : List Vl} {vs : List V} {i : Nat} {x : Vl} {v : V} (h : VRs G ρ H xs vs) (e : xs[i]? = some x) (e' : vs[i]? = some v) : VR G ρ H x v := by
  obtain ⟨w, h1, h2⟩ := h.get e
  rw [e'] at h1; cases h1
  exact h2
theorem lt_of_get {α : Type} {xs : List α} {i : Nat} {x : α} (e : xs[i]? = some x) : i < xs.length := (List.getElem?_eq_some_iff.mp e).1
theorem JW.seq {q : Kq} {lk : List Lk} {xs : List Vl} (w : WK G ρ H q lk xs) : JW G (Itq G.K q) ρ H lk xs where
  go := fun ρ' H' S i x st s l e => by
    obtain ⟨vs, c, r⟩ := w ρ' H' S st s l
    refine ⟨⟨vs, c, by rw [← r.length]; exact lt_of_get e⟩, fun v H2 ⟨eH, y⟩ => ?_⟩
    subst eH
    exact ⟨Same.refl _, r.at_ e (y vs c)⟩
  stop := fun ρ' H' S st s l => by
    obtain ⟨vs, c, r⟩ := w ρ' H' S st s l
    exact ⟨vs, c, r.length⟩
theorem pair_new (s : Sim G ρ H S) {T : Addr} {x y : V} {a b : Vl} (hT : H T = none) (ha : VR G ρ H a x) (hb : VR G ρ H b y) : Same H (upd H T (.tup [x, y])) ∧ VR G ρ (upd H T (.tup [x, y])) (.tup [a, b]) (.ref T) := by
  have sm : Same H (upd H T (.tup [x, y])) := same_new hT
  refine ⟨sm, ?_⟩
  simp only [VR]
  exact ⟨T, [x, y], rfl, .inl ⟨.inl upd_same, s.free hT⟩, VRs.step (stepSame sm) _ _ (VRs.cons ha (VRs.cons hb VRs.nil))⟩
theorem zipL_at : ∀ {xs ys : List Vl} {i : Nat} {x : Vl}, (zipL xs ys)[i]? = some x → ∃ a b, xs[i]? = some a ∧ ys[i]? = some b ∧ x = .tup [a, b]
  | [], _, _, _, e => by simp [zipL] at e
  | _ :: _, [], _, _, e => by simp [zipL] at e
  | x :: xs, y :: ys, 0, z, e => by simp [zipL] at e; exact ⟨x, y, rfl, rfl, e.symm⟩
  | x :: xs, y :: ys, i + 1, z, e => by
    simp only [zipL, List.getElem?_cons_succ] at e ⊢
    exact zipL_at e
theorem zipL_len : ∀ {xs ys : List Vl}, (zipL xs ys).length = min xs.length ys.length
  | [], _ => by simp [zipL]
  | _ :: _, [] => by simp [zipL]
  | x :: xs, y :: ys => by simp only [zipL, List.length_cons, zipL_len]; omega
theorem lockd_app {l1 l2 : List Lk} (h : lockd (l1 ++ l2) S) : lockd l1 S ∧ lockd l2 S := ⟨fun p hp => h p (List.mem_append_left _ hp), fun p hp => h p (List.mem_append_right _ hp)⟩
theorem JW.zip {q r : Kq} {l1 l2 : List Lk} {xs ys : List Vl} (w1 : WK G ρ H q l1 xs) (w2 : WK G ρ H r l2 ys) : JW G (Itz2 G.K q r) ρ H (l1 ++ l2) (zipL xs ys) where
  go := fun ρ' H' S i x st s l e => by
    obtain ⟨vs, c1, r1⟩ := w1 ρ' H' S st s (lockd_app l).1
    obtain ⟨ws, c2, r2⟩ := w2 ρ' H' S st s (lockd_app l).2
    obtain ⟨a, b, e1, e2, rfl⟩ := zipL_at e
    refine ⟨⟨vs, ws, c1, c2, by rw [← r1.length]; exact lt_of_get e1, by rw [← r2.length]; exact lt_of_get e2⟩, fun v H2 ⟨T, x, y, ev, hT, eH, y1, y2⟩ => ?_⟩
    subst ev eH
    exact pair_new s hT (r1.at_ e1 (y1 vs c1)) (r2.at_ e2 (y2 ws c2))
  stop := fun ρ' H' S st s l => by
    obtain ⟨vs, c1, r1⟩ := w1 ρ' H' S st s (lockd_app l).1
    obtain ⟨ws, c2, r2⟩ := w2 ρ' H' S st s (lockd_app l).2
    have := r1.length
    have := r2.length
    have := @zipL_len xs ys
    exact ⟨vs, ws, c1, c2, by omega, by omega, by omega⟩
theorem enumL_at : ∀ {xs : List Vl} {k : Int} {i : Nat} {x : Vl}, (enumL k xs)[i]? = some x → ∃ a, xs[i]? = some a ∧ x = .tup [.int (k + (i : Nat)), a]
  | [], _, _, _, e => by simp [enumL] at e
  | x :: xs, k, 0, z, e => by simp [enumL] at e; exact ⟨x, rfl, by rw [← e]; simp⟩
  | x :: xs, k, i + 1, z, e => by
    simp only [enumL, List.getElem?_cons_succ] at e ⊢
    obtain ⟨a, h1, h2⟩ := enumL_at e
    refine ⟨a, h1, ?_⟩
    rw [h2]
    have : k + 1 + (i : Nat) = k + ((i + 1 : Nat) : Int) := by omega
    rw [this]
theorem enumL_len : ∀ {xs : List Vl} {k : Int}, (enumL k xs).length = xs.length
  | [], _ => rfl
  | x :: xs, k => by simp only [enumL, List.length_cons, enumL_len]
theorem JW.enm {q : Kq} {lk : List Lk} {xs : List Vl} {k : Int} (w : WK G ρ H q lk xs) : JW G (Ite2 G.K k q) ρ H lk (enumL k xs) where
  go := fun ρ' H' S i x st s l e => by
    obtain ⟨vs, c, r⟩ := w ρ' H' S st s l
    obtain ⟨a, e1, rfl⟩ := enumL_at e
    refine ⟨⟨vs, c, by rw [← r.length]; exact lt_of_get e1⟩, fun v H2 ⟨T, x, ev, hT, eH, y⟩ => ?_⟩
    subst ev eH
    exact pair_new s hT (by simp only [VR]) (r.at_ e1 (y vs c))
  stop := fun ρ' H' S st s l => by
    obtain ⟨vs, c, r⟩ := w ρ' H' S st s l
    exact ⟨vs, c, by rw [enumL_len]; exact r.length⟩
theorem JW.enmL {a : Addr} {lk : List Lk} {xs : List Vl} (w : WK G ρ H (.lst a) lk xs) : JW G (Ite G.K a) ρ H lk (enumL 0 xs) where
  go := fun ρ' H' S i x st s l e => by
    obtain ⟨vs, c, r⟩ := w ρ' H' S st s l
    obtain ⟨b, e1, rfl⟩ := enumL_at e
    obtain ⟨v0, e2, _⟩ := r.get e1
    refine ⟨⟨vs, v0, c, e2⟩, fun v H2 ⟨T, x, ev, hT, eH, y⟩ => ?_⟩
    subst ev eH
    rw [Int.zero_add]
    exact pair_new s hT (by simp only [VR]) (r.at_ e1 (y vs c))
  stop := fun ρ' H' S st s l => by
    obtain ⟨vs, c, r⟩ := w ρ' H' S st s l
    exact ⟨vs, c, by rw [enumL_len, r.length]; exact Nat.le_refl _⟩
theorem rngL_at : ∀ {n : Nat} {lo : Int} {i : Nat} {x : Vl}, (rngL lo n)[i]? = some x → i < n ∧ x = .int (lo + (i : Nat))
  | 0, _, _, _, e => by simp [rngL] at e
  | n + 1, lo, 0, z, e => by simp [rngL] at e; exact ⟨by omega, by rw [← e]; simp⟩
  | n + 1, lo, i + 1, z, e => by
    simp only [rngL, List.getElem?_cons_succ] at e
    obtain ⟨h1, h2⟩ := rngL_at e
    refine ⟨by omega, ?_⟩
    rw [h2]
    have : lo + 1 + (i : Nat) = lo + ((i + 1 : Nat) : Int) := by omega
    rw [this]
theorem rngL_len : ∀ {n : Nat} {lo : Int}, (rngL lo n).length = n
  | 0, _ => rfl
  | n + 1, lo => by simp only [rngL, List.length_cons, rngL_len]
theorem JW.rng {lo : Int} {n : Nat} : JW G (Itr lo n) ρ H [] (rngL lo n) where
  go := fun ρ' H' S i x st s l e => by
    obtain ⟨h1, rfl⟩ := rngL_at e
    refine ⟨h1, fun v H2 ⟨eH, ev⟩ => ?_⟩
    subst eH ev
    exact ⟨Same.refl _, by simp only [VR]⟩
  stop := fun ρ' H' S st s l => by
    show n ≤ _
    rw [rngL_len]; exact Nat.le_refl _
end

/-! ### sources -/
section
variable (G : Glb) (M : Mach) (W : WX)
def tS (c : Src) : TI := fun σ H R => ∃ ρ η S, Sim G ρ H S ∧ ER G ρ H η σ ∧ PR G W σ ρ H (evS M c η S) (fun ρ1 H1 p _ => ∀ J, JW G J ρ1 H1 p.1 p.2 → R J H1)
end
theorem _root_.L2.PI.imp {X : Cx} {tg e : Expr} {t t' : TI} (h : PI X tg e t) (k : ∀ σ H Q, t' σ H Q → t σ H Q) : PI X tg e t' := ⟨fun pins s σ H Q I q => h.run pins s σ H Q I (k σ H Q q)⟩
section
variable {G : Glb} {M : Mach} {W : WX} {X : Cx} {k : Nat} {tg a b : Expr} {ca cb : E} {p pos tpos : Pos} {elts : List Expr} {kk : Nat}
theorem pi_sqi (g : Good G k X) (ha : PE X a (tE G M W ca)) : PI X tg a (tS G M W (.sq ca)) := (pi_seq ha).imp fun σ H R ⟨ρ, η, S, s, r, h⟩ => ⟨ρ, η, S, s, r, by
  simp only [evS] at h
  refine h.bind.mono fun ρ1 H1 x S1 st s1 h1 v hv => ?_
  obtain ⟨⟨lk, xs⟩, e, h2⟩ := h1.ofO
  obtain ⟨q, rfl, hq, w⟩ := walk_of s1 hv e
  rw [g.K]
  exact ⟨q, rfl, hq, h2.here s1 _ (JW.seq w)⟩⟩
theorem pi_charsi (g : Good G k X) (ha : PE X a (tE G M W ca)) : PI X tg a (tS G M W (.chars ca)) := (pi_seq ha).imp fun σ H R ⟨ρ, η, S, s, r, h⟩ => ⟨ρ, η, S, s, r, by
  simp only [evS] at h
  refine h.bind.mono fun ρ1 H1 x S1 st s1 h1 v hv => ?_
  cases x with
  | str z =>
    simp only [VR] at hv
    subst hv
    rw [g.K]
    exact ⟨.txt z, rfl, ⟨_, rfl⟩, h1.here s1 _ (JW.seq fun ρ' H' S' st _ _ => ⟨_, rfl, VRs.chars z⟩)⟩
  | _ => exact h1.elim⟩
/-- the same first steps, another end -/
theorem PR.re1 {α β γ : Type} {σ : L2.St} {ρ : List Addr} {H : Hp} {r : Res α} {f : α → Hs → Res β} {gg : α → γ} {ok : List Addr → Hp → β → Hs → Prop} {ok' : List Addr → Hp → γ → Hs → Prop} (h : PR G W σ ρ H (r.bind f) ok)
    (kk : ∀ ρ1 H1 x S1, Step ρ H ρ1 H1 → Sim G ρ1 H1 S1 → PR G W σ ρ1 H1 (f x S1) ok → ok' ρ1 H1 (gg x) S1) : PR G W σ ρ H (r.bind fun x S1 => .ok (gg x) S1) ok' := by
  cases r with
  | ok x S => exact fun ρ1 H1 st s => kk ρ1 H1 x S st s (PR.step h st)
  | exc x S => exact h
  | bad => exact h
theorem PR.re2 {α β γ δ : Type} {σ : L2.St} {ρ : List Addr} {H : Hp} {r : Res α} {r2 : α → Hs → Res γ} {f : α → γ → Hs → Res β} {gg : α → γ → δ} {ok : List Addr → Hp → β → Hs → Prop} {ok' : List Addr → Hp → δ → Hs → Prop} (h : PR G W σ ρ H (r.bind fun x S1 => (r2 x S1).bind (f x)) ok)
    (kk : ∀ ρ1 H1 x y S1, Step ρ H ρ1 H1 → Sim G ρ1 H1 S1 → PR G W σ ρ1 H1 (f x y S1) ok → ok' ρ1 H1 (gg x y) S1) : PR G W σ ρ H (r.bind fun x S1 => (r2 x S1).bind fun y S2 => .ok (gg x y) S2) ok' := by
  cases r with
  | ok x S => exact PR.re1 h fun ρ1 H1 y S1 st s q => kk ρ1 H1 x y S1 st s q
  | exc x S => exact h
  | bad => exact h
theorem evs1 {η : Sg} {S : Hs} : evs M (.cons ca .nil) η S = (ev M ca η S).bind fun x S1 => .ok [x] S1 := by simp only [evs, Res.bind]
theorem evs2 {η : Sg} {S : Hs} : evs M (.cons ca (.cons cb .nil)) η S = (ev M ca η S).bind fun x S1 => (ev M cb η S1).bind fun y S2 => .ok [x, y] S2 := by
  simp only [evs]
  cases ev M ca η S with
  | ok x S1 => simp only [Res.bind]; cases ev M cb η S1 <;> rfl
  | exc x S1 => rfl
  | bad => rfl
theorem pi_rng1i (hg : Gl X "range") (hm : X.mg "range" = none) (ha : PA X [a] (tA G M W (.cons ca .nil))) (hs : starEach [a] X.env = [(false, eval a X.env)] := by rfl) : PI X tg (.Call (.Name "range" p) [a] [] pos) (tS G M W (.rng1 ca)) := (pi_range1 hg hm ha hs).imp fun σ H R ⟨ρ, η, S, s, r, h⟩ => ⟨ρ, η, S, s, r, by
  simp only [evS] at h
  rw [evs1]
  refine PR.re1 h fun ρ1 H1 x S1 st s1 h1 vs hv => ?_
  cases x with
  | int j =>
    simp only at h1
    split at h1
    · rename_i hj
      simp only [VRs, VR] at hv
      obtain ⟨v, r, rfl, rfl, rfl⟩ := hv
      exact ⟨j, rfl, hj.1, hj.2, h1.here s1 _ JW.rng⟩
    · exact h1.elim
  | _ => exact h1.elim⟩
theorem pi_rng2i (hg : Gl X "range") (hm : X.mg "range" = none) (ha : PA X [a, b] (tA G M W (.cons ca (.cons cb .nil)))) (hs : starEach [a, b] X.env = [(false, eval a X.env), (false, eval b X.env)] := by rfl) (hs2 : starEach [b] X.env = [(false, eval b X.env)] := by rfl) : PI X tg (.Call (.Name "range" p) [a, b] [] pos) (tS G M W (.rng2 ca cb)) := (pi_range2 hg hm ha hs hs2).imp fun σ H R ⟨ρ, η, S, s, r, h⟩ => ⟨ρ, η, S, s, r, by
  simp only [evS] at h
  rw [evs2]
  refine PR.re2 h fun ρ1 H1 x y S1 st s1 h1 vs hv => ?_
  cases x with
  | int i =>
    cases y with
    | int j =>
      simp only at h1
      split at h1
      · rename_i hj
        simp only [VRs, VR] at hv
        obtain ⟨v, r, rfl, rfl, w, r', rfl, rfl, rfl⟩ := hv
        exact ⟨i, j, rfl, hj, h1.here s1 _ JW.rng⟩
      · exact h1.elim
    | _ => exact h1.elim
  | _ => exact h1.elim⟩
theorem pi_zipi (g : Good G k X) (hg : Gl X "zip") (hm : X.mg "zip" = none) (ha : PA X [a, b] (tA G M W (.cons ca (.cons cb .nil))))
    (hs : starEach [a, b] X.env = (false, eval a X.env) :: starEach [b] X.env := by rfl) (hpl : (backTo pos (starEach [b] X.env)).any (·.1) = false := by rfl) : PI X (.Tuple elts kk tpos) (.Call (.Name "zip" p) [a, b] [] pos) (tS G M W (.zip ca cb)) := (pi_zip2 hg hm ha hs hpl).imp fun σ H R ⟨ρ, η, S, s, r, h⟩ => ⟨ρ, η, S, s, r, by
  simp only [evS] at h
  rw [evs2]
  refine PR.re2 h fun ρ1 H1 x y S1 st s1 h1 vs hv => ?_
  simp only [VRs] at hv
  obtain ⟨v, r, rfl, hv1, w, r', rfl, hv2, rfl⟩ := hv
  obtain ⟨⟨l1, xs⟩, e1, h2⟩ := (PR.bind h1).ofO
  obtain ⟨⟨l2, ys⟩, e2, h3⟩ := (PR.bind (h2.here s1)).ofO
  obtain ⟨q, rfl, ⟨vs, c1⟩, w1⟩ := walkT_of s1 hv1 e1
  obtain ⟨q', rfl, ⟨ws, c2⟩, w2⟩ := walkT_of s1 hv2 e2
  rw [g.K]
  exact ⟨q, q', vs, ws, rfl, c1, c2, (h3.here s1).here s1 _ (JW.zip w1 w2)⟩⟩
theorem pi_enmi (g : Good G k X) (hg : Gl X "enumerate") (hm : X.mg "enumerate" = none) (ha : PA X [a] (tA G M W (.cons ca .nil))) (hs : starEach [a] X.env = [(false, eval a X.env)] := by rfl) : PI X (.Tuple elts kk tpos) (.Call (.Name "enumerate" p) [a] [] pos) (tS G M W (.enm ca 0)) := (pi_enum2 hg hm ha hs).imp fun σ H R ⟨ρ, η, S, s, r, h⟩ => ⟨ρ, η, S, s, r, by
  simp only [evS] at h
  rw [evs1]
  refine PR.re1 h fun ρ1 H1 x S1 st s1 h1 vs hv => ?_
  simp only [VRs] at hv
  obtain ⟨v, r, rfl, hv1, rfl⟩ := hv
  obtain ⟨⟨l1, xs⟩, e1, h2⟩ := (PR.bind h1).ofO
  obtain ⟨q, rfl, ⟨vs, c1⟩, w1⟩ := walk_of s1 hv1 e1
  rw [g.K]; exact ⟨q, vs, rfl, c1, (h2.here s1).here s1 _ (JW.enm w1)⟩⟩
end
end Oz
set_option Elab.async false
set_option linter.all false
set_option maxRecDepth 100000
set_option maxHeartbeats 4000000
set_option autoImplicit false
/-! Oz: targets and statements. -/
namespace Oz
open PySem L2 PyProof.Rows

theorem _root_.L2.PG.imp {X : Cx} {e : Expr} {t t' : TG} (h : PG X e t) (k : ∀ v σ H Q, t' v σ H Q → t v σ H Q) : PG X e t' := ⟨fun pins s σ H v u Q I r q => h.run pins s σ H v u Q I r (k v σ H Q q)⟩
theorem _root_.L2.PGs.imp {X : Cx} {e : List Expr} {t t' : TGs} (h : PGs X e t) (k : ∀ v σ H Q, t' v σ H Q → t v σ H Q) : PGs X e t' := ⟨fun pins s σ H v u Q I r q => h.run pins s σ H v u Q I r (k v σ H Q q)⟩
section
variable {G : Glb} {ρ ρ' : List Addr} {H H' : Hp} {S : Hs}
theorem ER.set {η : Sg} {σ : L2.St} (h : ER G ρ H η σ) (i : Nat) {x : Vl} {v : V} (hv : VR G ρ H x v) : ER G ρ H (η.set i (some x)) (σ.set i (some v)) where
  len := by rw [List.length_set, List.length_set]; exact h.len
  at_ := fun j y e => by
    rw [List.getElem?_set] at e ⊢
    split at e
    · rename_i hij
      split at e
      · rename_i hl
        simp only [Option.some.injEq] at e
        subst e
        rw [if_pos hij, if_pos (by rw [← h.len]; exact hl)]
        exact ⟨v, rfl, hv⟩
      · cases e
    · rename_i hij
      rw [if_neg hij]
      exact h.at_ j y e
theorem ER.set_ {η : Sg} {σ : L2.St} (h : ER G ρ H η σ) (i : Nat) {w : Option V} : ER G ρ H (η.set i none) (σ.set i w) where
  len := by rw [List.length_set, List.length_set]; exact h.len
  at_ := fun j y e => by
    rw [List.getElem?_set] at e ⊢
    split at e
    · split at e <;> simp at e
    · rename_i hij
      rw [if_neg hij]
      exact h.at_ j y e
/-! ### targets -/
mutual
def Tg.slots : Tg → List Nat
  | .nm i => [i]
  | .tp ts => ts.slots
def Tgs.slots : Tgs → List Nat
  | .nil => []
  | .cons t ts => t.slots ++ ts.slots
end
/-- elsewhere as before -/
def Off (is : List Nat) (σ σ' : L2.St) : Prop := σ'.length = σ.length ∧ ∀ i, i ∉ is → σ'[i]? = σ[i]?
theorem Off.trans {is js : List Nat} {σ σ' σ'' : L2.St} (a : Off is σ σ') (b : Off js σ' σ'') : Off (is ++ js) σ σ'' :=
  ⟨b.1.trans a.1, fun i h => (b.2 i fun z => h (List.mem_append_right _ z)).trans (a.2 i fun z => h (List.mem_append_left _ z))⟩
def tG (G : Glb) (t : Tg) : TG := fun v σ H Q => ∃ ρ S η x η1, Sim G ρ H S ∧ ER G ρ H η σ ∧ VR G ρ H x v ∧ bindT t x η = some η1 ∧ ∀ σ', Off t.slots σ σ' → ER G ρ H η1 σ' → Q σ' H
def tGs (G : Glb) (t : Tgs) : TGs := fun vs σ H Q => ∃ ρ S η xs η1, Sim G ρ H S ∧ ER G ρ H η σ ∧ VRs G ρ H xs vs ∧ bindTs t xs η = some η1 ∧ ∀ σ', Off t.slots σ σ' → ER G ρ H η1 σ' → Q σ' H
def Tgs.len : Tgs → Nat
  | .nil => 0
  | .cons _ ts => ts.len + 1
theorem bindTs_len : ∀ {ts : Tgs} {xs : List Vl} {η η1 : Sg}, bindTs ts xs η = some η1 → xs.length = ts.len
  | .nil, [], _, _, _ => rfl
  | .nil, _ :: _, _, _, e => by simp [bindTs] at e
  | .cons t ts, [], _, _, e => by simp [bindTs] at e
  | .cons t ts, x :: xs, η, η1, e => by
    simp only [bindTs] at e
    split at e
    · simp only [List.length_cons, Tgs.len, bindTs_len e]
    · cases e
variable {X : Cx} {k : Nat} {pos : Pos}
theorem pg_nm (g : Good G k X) (i : Nat) {x : Str} (hi : X.N[i]? = some x) (hx : Loc X.env.scope x) (hf : X.fn x = true ∨ X.env.scope.names.lookup x = some .local := by first | exact .inl rfl | exact .inr rfl | assumption) : PG X (.Name x pos) (tG G (.nm i)) := (pg_name g.nd hi hx hf).imp fun v σ H Q ⟨ρ, S, η, x, η1, s, r, hv, hb, q⟩ => by
  simp only [bindT, Option.some.injEq] at hb
  subst hb
  refine q _ ⟨List.length_set, fun j hj => ?_⟩ (r.set i hv)
  rw [List.getElem?_set_ne fun e => hj (by rw [← e]; simp [Tg.slots])]
theorem pgs_n : PGs X [] (tGs G .nil) := pgs_nil.imp fun vs σ H Q ⟨ρ, S, η, xs, η1, s, r, hv, hb, q⟩ => by
  cases xs with
  | nil =>
    simp only [bindTs, Option.some.injEq] at hb
    subst hb
    simp only [VRs] at hv
    exact ⟨hv, q _ ⟨rfl, fun _ _ => rfl⟩ r⟩
  | cons x xs => simp [bindTs] at hb
theorem pgs_c {e : Expr} {es : List Expr} {t : Tg} {ts : Tgs} (h1 : PG X e (tG G t)) (h2 : PGs X es (tGs G ts))
    (hs : (assignEach (e :: es) X.env).map (·.2) = assign e X.env :: (assignEach es X.env).map (·.2) := by rfl) : PGs X (e :: es) (tGs G (.cons t ts)) := (pgs_cons h1 h2 hs).imp fun vs σ H Q ⟨ρ, S, η, xs, η1, s, r, hv, hb, q⟩ => by
  cases xs with
  | nil => simp [bindTs] at hb
  | cons x xs =>
    simp only [VRs] at hv
    obtain ⟨v, rr, rfl, hv1, hv2⟩ := hv
    simp only [bindTs] at hb
    split at hb
    · rename_i η2 hb2
      exact ⟨v, rr, rfl, ρ, S, η, x, η2, s, r, hv1, hb2, fun σ' o1 r' => ⟨ρ, S, η2, xs, η1, s, r', hv2, hb, fun σ'' o2 r'' => q σ'' (by simp only [Tgs.slots]; exact o1.trans o2) r''⟩⟩
    · cases hb
theorem pg_tp (g : Good G k X) {es : List Expr} {kk : Nat} {ts : Tgs} (h : PGs X es (tGs G ts)) (hn : (assignEach es X.env).length = ts.len := by rfl) (hst : (assignEach es X.env).findIdx? (·.1) = none := by rfl) : PG X (.Tuple es kk pos) (tG G (.tp ts)) := by
  refine ⟨fun pins s σ H v u Q I r ⟨ρ, S, η, x, η1, s0, re, hv, hb, q⟩ => ?_⟩
  cases x with
  | tup xs =>
    simp only [bindT] at hb
    simp only [VR] at hv
    obtain ⟨a, vs, rfl, h1, h2⟩ := hv
    exact (pg_tup g.calm h hn hst).run pins s σ H _ u Q I r ⟨a, vs, rfl, by rw [g.K]; exact h1.sq, by rw [← h2.length]; exact bindTs_len hb, ρ, S, η, xs, η1, s0, re, h2, hb, q⟩
  | lst xs =>
    simp only [bindT] at hb
    simp only [VR] at hv
    obtain ⟨a, vs, rfl, h1, h2⟩ := hv
    exact (pg_unl g.calm h hn hst).run pins s σ H _ u Q I r ⟨a, vs, rfl, h1.sq, by rw [← h2.length]; exact bindTs_len hb, ρ, S, η, xs, η1, s0, re, h2, hb, q⟩
  | _ => simp only [bindT] at hb; cases hb
end

/-! ### what a statement comes to -/
section
variable (G : Glb) (M : Mach) (W : WX)
def PQ (ρ : List Addr) (H : Hp) (D : Ends) : Out → Prop
  | .nx η S => ∀ ρ' H' σ', Step ρ H ρ' H' → Sim G ρ' H' S → ER G ρ' H' η σ' → D.nx σ' H'
  | .brk η S => ∀ ρ' H' σ', Step ρ H ρ' H' → Sim G ρ' H' S → ER G ρ' H' η σ' → D.bk σ' H'
  | .cnt η S => ∀ ρ' H' σ', Step ρ H ρ' H' → Sim G ρ' H' S → ER G ρ' H' η σ' → D.ct σ' H'
  | .ret r S => ∀ ρ' H', Step ρ H ρ' H' → Sim G ρ' H' S → okR G H D.rt ρ' H' r S
  | .exc x η S => ∀ ρ' H' σ', Step ρ H ρ' H' → Sim G ρ' H' S → ER G ρ' H' η σ' → XW G W σ' ρ' H' x
  | .bad => False
def tC (c : C) : TS := fun D σ H => ∃ ρ η S, Sim G ρ H S ∧ ER G ρ H η σ ∧ PQ G W ρ H D (exc1 M c η S)
def tCs (c : Cs) : TS := fun D σ H => ∃ ρ η S, Sim G ρ H S ∧ ER G ρ H η σ ∧ PQ G W ρ H D (exec M c η S)
end
section
variable {G : Glb} {M : Mach} {W : WX} {X : Cx} {k : Nat} {pos : Pos} {ρ ρ' : List Addr} {H H' : Hp} {S S' : Hs} {D D' : Ends} {o : Out} {st : Stmt} {rest : List Stmt} {c : C} {cs : Cs}
theorem okR.step {Q : VK} {ρ2 : List Addr} {H2 : Hp} {r : Rv} {T : Hs} (s : Sim G ρ H S) (a : Step ρ H ρ' H') (s' : Sim G ρ' H' S') (h : okR G H Q ρ2 H2 r T) : okR G H' Q ρ2 H2 r T := by
  cases r with
  | val x => exact h
  | frs o => exact fun p hp => h p (none_of s s' a hp)
theorem PQ.step (s : Sim G ρ H S) (a : Step ρ H ρ' H') (s' : Sim G ρ' H' S') (h : PQ G W ρ H D o) : PQ G W ρ' H' D o := by
  cases o with
  | nx η T => exact fun ρ2 H2 σ2 b => h ρ2 H2 σ2 (a.trans b)
  | brk η T => exact fun ρ2 H2 σ2 b => h ρ2 H2 σ2 (a.trans b)
  | cnt η T => exact fun ρ2 H2 σ2 b => h ρ2 H2 σ2 (a.trans b)
  | exc x η T => exact fun ρ2 H2 σ2 b => h ρ2 H2 σ2 (a.trans b)
  | ret r T => exact fun ρ2 H2 b s2 => okR.step s a s' (h ρ2 H2 (a.trans b) s2)
  | bad => exact h
/-- an expression's steps, then what comes of it -/
theorem PQ.out {α : Type} {r : Res α} {η : Sg} {σ : L2.St} {f : α → Hs → Out} (s : Sim G ρ H S) (er : ER G ρ H η σ) (h : PQ G W ρ H D (r.out η f)) : PR G W σ ρ H r fun ρ1 H1 a S1 => PQ G W ρ1 H1 D (f a S1) := by
  cases r with
  | ok a S1 => exact fun ρ1 H1 st s1 => PQ.step s st s1 h
  | exc x S1 => exact fun ρ1 H1 st s1 => h ρ1 H1 σ st s1 (er.step st)
  | bad => exact h
theorem PSs.nil_ : PSs X [] (tCs G M W .nil) := pss_nil.imp fun D σ H ⟨ρ, η, S, s, r, h⟩ => by
  simp only [exec] at h
  exact h ρ H σ (Step.refl _ _) s r
theorem PSs.cons_ (h1 : PS X st (tC G M W c)) (h2 : PSs X rest (tCs G M W cs)) : PSs X (st :: rest) (tCs G M W (.cons c cs)) := (pss_cons h1 h2).imp fun D σ H ⟨ρ, η, S, s, r, h⟩ => ⟨ρ, η, S, s, r, by
  simp only [exec] at h
  cases e : exc1 M c η S with
  | nx η1 S1 =>
    rw [e] at h
    exact fun ρ1 H1 σ1 st s1 r1 => ⟨ρ1, η1, S1, s1, r1, PQ.step s st s1 h⟩
  | _ => rw [e] at h; exact h⟩
theorem ps_passi : PS X (.Pass pos) (tC G M W .pass) := ps_pass.imp fun D σ H ⟨ρ, η, S, s, r, h⟩ => by
  simp only [exc1] at h; exact h ρ H σ (Step.refl _ _) s r
theorem ps_breaki : PS X (.Break pos) (tC G M W .brk) := ps_break.imp fun D σ H ⟨ρ, η, S, s, r, h⟩ => by
  simp only [exc1] at h; exact h ρ H σ (Step.refl _ _) s r
theorem ps_continuei : PS X (.Continue pos) (tC G M W .cnt) := ps_continue.imp fun D σ H ⟨ρ, η, S, s, r, h⟩ => by
  simp only [exc1] at h; exact h ρ H σ (Step.refl _ _) s r
theorem ps_badi : PS X st (tC G M W .bad) := ps_never.imp fun D σ H ⟨ρ, η, S, s, r, h⟩ => by
  simp only [exc1] at h; exact h
theorem ps_doci {x : Str} {j : Nat} {pos' : Pos} : PS X (.Expr (.Constant (.str x) j pos) pos') (tC G M W .pass) := ps_doc.imp fun D σ H ⟨ρ, η, S, s, r, h⟩ => by
  simp only [exc1] at h; exact h ρ H σ (Step.refl _ _) s r
variable {e : Expr} {ce : E} {cf : F} {tg : Expr} {t : Tg}
theorem ps_asgi (he : PE X e (tE G M W ce)) (hg : PG X tg (tG G t)) (hs : swapsWithSole [tg] e pos.line X.env = pure false := by rfl) (hw : swappedStores [tg] e X.env = pure none := by rfl)
    (h1 : (assignEach [tg] X.env).map (·.2) = [assign tg X.env] := by rfl) : PS X (.Assign [tg] e pos) (tC G M W (.asg t ce)) := (ps_asg he hg hs hw h1).imp fun D σ H ⟨ρ, η, S, s, r, h⟩ => ⟨ρ, η, S, s, r, by
  simp only [exc1] at h
  refine (PQ.out s r h).mono fun ρ1 H1 x S1 st s1 h1 v hv => ?_
  split at h1
  · rename_i η1 e1
    exact ⟨ρ1, S1, η, x, η1, s1, r.step st, hv, e1, fun σ' _ r' => h1 ρ1 H1 σ' (Step.refl _ _) s1 r'⟩
  · exact h1.elim⟩
theorem ps_expri (he : PE X e (tE G M W ce)) (hs : swapsWith e none pos.line X.env = pure false := by rfl) : PS X (.Expr e pos) (tC G M W (.ex ce)) := (ps_expr he hs).imp fun D σ H ⟨ρ, η, S, s, r, h⟩ => ⟨ρ, η, S, s, r, by
  simp only [exc1] at h
  refine (PQ.out s r h).mono fun ρ1 H1 x S1 st s1 h1 v hv => ?_
  exact h1 ρ1 H1 σ (Step.refl _ _) s1 (r.step st)⟩
theorem ps_reti (he : PE X e (tE G M W ce)) : PS X (.Return (some e) pos) (tC G M W (.ret ce)) := (ps_ret he).imp fun D σ H ⟨ρ, η, S, s, r, h⟩ => ⟨ρ, η, S, s, r, by
  simp only [exc1] at h
  refine (PQ.out s r h).mono fun ρ1 H1 x S1 st s1 h1 v hv => ?_
  exact h1 ρ1 H1 (Step.refl _ _) s1 v hv⟩
theorem ps_retfi (he : PE X e (tF G M W cf)) : PS X (.Return (some e) pos) (tC G M W (.retf cf)) := (ps_ret he).imp fun D σ H ⟨ρ, η, S, s, r, h⟩ => ⟨ρ, η, S, s, r, by
  simp only [exc1] at h
  cases eo : evf M cf η S with
  | ok o S1 => rw [eo] at h; exact fun ρ1 H1 st s1 => h ρ1 H1 st s1
  | exc x S1 => rw [eo] at h; exact fun ρ1 H1 st s1 => h ρ1 H1 σ st s1 (r.step st)
  | bad => rw [eo] at h; exact h⟩
theorem ps_retNi : PS X (.Return none pos) (tC G M W .retn) := ps_retN.imp fun D σ H ⟨ρ, η, S, s, r, h⟩ => by
  simp only [exc1] at h
  exact h ρ H (Step.refl _ _) s _ (by simp only [VR])
theorem ps_ifi {ct : Expr} {a b : List Stmt} {cc : E} {ca cb : Cs} (hc : PT X ct (tQ G M W cc)) (ha : PSs X a (tCs G M W ca)) (hb : PSs X b (tCs G M W cb)) : PS X (.If ct a b pos) (tC G M W (.ite cc ca cb)) := (ps_if hc ha hb).imp fun D σ H ⟨ρ, η, S, s, r, h⟩ => ⟨ρ, η, S, s, r, by
  simp only [exc1] at h
  refine (PQ.out s r h).mono fun ρ1 H1 x S1 st s1 h1 => ?_
  cases x with
  | bl b =>
    refine ⟨b, rfl, ?_⟩
    cases b with
    | true => exact ⟨ρ1, η, S1, s1, r.step st, h1⟩
    | false => exact ⟨ρ1, η, S1, s1, r.step st, h1⟩
  | _ => exact h1.elim⟩
theorem ps_fori (g : Good G k X) {iter : Expr} {body : List Stmt} {src : Src} {cb : Cs} (hp : PassesOwn (model X.prog X.w) X.A X.env X.xe) (hi : PI X tg iter (tS G M W src)) (hg : PG X tg (tG G t)) (hb : PSs X body (tCs G M W cb))
    (hs : ∀ x, foldedSetIterable iter X.env x = pure x := by intro _; rfl) : PS X (.For tg iter body [] pos) (tC G M W (.for_ t src cb)) := (ps_for hp g.calm hi hg hb hs).imp fun D σ H ⟨ρ, η, S, s, r, h⟩ => ⟨ρ, η, S, s, r, by
  simp only [exc1] at h
  refine (PQ.out s r h).mono fun ρ1 H1 p S1 st s1 h1 J jw => ?_
  obtain ⟨lk, xs⟩ := p
  simp only at h1 jw
  refine ⟨fun i m σ' H' => m = xs.length - i ∧ i ≤ xs.length ∧ ∃ ρ' η' S', Step ρ1 H1 ρ' H' ∧ Sim G ρ' H' S' ∧ ER G ρ' H' η' σ' ∧ PQ G W ρ' H' D (forL (fun η1 S2 => exec M cb η1 S2) t lk (xs.drop i) η' S'), ⟨xs.length, by simp, Nat.zero_le _, ρ1, η, S1, Step.refl _ _, s1, r.step st, by simpa using h1⟩, ?_⟩
  rintro i m σ' H' ⟨rfl, hi, ρ', η', S', st', s', r', h'⟩
  by_cases hl : i < xs.length
  · refine .inr ?_
    rw [List.drop_eq_getElem_cons hl] at h'
    simp only [forL] at h'
    split at h'
    · rename_i l'
      split at h'
      · exact h'.elim
      · rename_i η2 e2
        obtain ⟨hgo, hy⟩ := jw.go ρ' H' S' i xs[i] st'.x s' l' (by simp [hl])
        refine ⟨hgo, fun σ3 H3 => ∃ ρ3 η3 S3, Step ρ1 H1 ρ3 H3 ∧ Sim G ρ3 H3 S3 ∧ ER G ρ3 H3 η3 σ3 ∧ PQ G W ρ3 H3 D (forL (fun η1 S2 => exec M cb η1 S2) t lk (xs.drop (i + 1)) η3 S3), fun σ3 H3 ⟨ρ3, η3, S3, a1, a2, a3, a4⟩ => ⟨xs.length - (i + 1), by omega, rfl, by omega, ρ3, η3, S3, a1, a2, a3, a4⟩, fun v H3 y => ?_⟩
        obtain ⟨sm, hv⟩ := hy v H3 y
        have st3 : Step ρ' H' ρ' H3 := stepSame sm
        have s3 := s'.same sm
        refine ⟨ρ', S', η', xs[i], η2, s3, r'.step st3, hv, e2, fun σ4 _ r4 => ⟨ρ', η2, S', s3, r4, ?_⟩⟩
        have h3 := PQ.step s' st3 s3 h'
        cases eo : exec M cb η2 S' with
        | nx η4 S4 => rw [eo] at h3; exact fun ρ5 H5 σ5 b5 s5 r5 => ⟨ρ5, η4, S4, (st'.trans st3).trans b5, s5, r5, PQ.step s3 b5 s5 h3⟩
        | cnt η4 S4 => rw [eo] at h3; exact fun ρ5 H5 σ5 b5 s5 r5 => ⟨ρ5, η4, S4, (st'.trans st3).trans b5, s5, r5, PQ.step s3 b5 s5 h3⟩
        | brk η4 S4 => rw [eo] at h3; exact h3
        | ret rr T => rw [eo] at h3; exact h3
        | exc x η4 T => rw [eo] at h3; exact h3
        | bad => rw [eo] at h3; exact h3
    · exact h'.elim
  · have e : i = xs.length := by omega
    subst e
    rw [List.drop_length] at h'
    simp only [forL] at h'
    split at h'
    · rename_i l'
      exact .inl ⟨jw.stop ρ' H' S' st'.x s' l', h' ρ' H' σ' (Step.refl _ _) s' r'⟩
    · exact h'.elim⟩
theorem ps_whilei (g : Good G k X) {ct : Expr} {body : List Stmt} {cc : E} {cb : Cs} (hp : PassesOwn (model X.prog X.w) X.A X.env X.xe) (hc : PT X ct (tQ G M W cc)) (hb : PSs X body (tCs G M W cb)) : PS X (.While ct body [] pos) (tC G M W (.whl cc cb)) := (ps_while hp hc hb).imp fun D σ H ⟨ρ, η, S, s, r, h⟩ => by
  simp only [exc1] at h
  refine ⟨fun m σ' H' => ∃ ρ' η' S', Sim G ρ' H' S' ∧ ER G ρ' H' η' σ' ∧ PQ G W ρ' H' D (whlL (fun η1 S2 => ev M cc η1 S2) (fun η1 S2 => exec M cb η1 S2) m η' S'), ⟨M.fuel, ρ, η, S, s, r, h⟩, ?_⟩
  rintro m σ' H' ⟨ρ', η', S', s', r', h'⟩
  cases m with
  | zero => exact h'.elim
  | succ n =>
    simp only [whlL] at h'
    refine ⟨ρ', η', S', s', r', ?_⟩
    cases e : ev M cc η' S' with
    | ok x S1 =>
      rw [e] at h'
      cases x with
      | bl b =>
        cases b with
        | false => exact fun ρ1 H1 st1 s1 => ⟨false, rfl, h' ρ1 H1 σ' st1 s1 (r'.step st1)⟩
        | true =>
          refine fun ρ1 H1 st1 s1 => ⟨true, rfl, fun σ3 H3 => ∃ ρ3 η3 S3, Sim G ρ3 H3 S3 ∧ ER G ρ3 H3 η3 σ3 ∧ PQ G W ρ3 H3 D (whlL (fun η1 S2 => ev M cc η1 S2) (fun η1 S2 => exec M cb η1 S2) n η3 S3), fun σ3 H3 a => ⟨n, Nat.lt_succ_self _, a⟩, ρ1, η', S1, s1, r'.step st1, ?_⟩
          have h3 := PQ.step s' st1 s1 h'
          cases eo : exec M cb η' S1 with
          | nx η4 S4 => simp only [eo] at h3; exact fun ρ5 H5 σ5 b5 s5 r5 => ⟨ρ5, η4, S4, s5, r5, PQ.step s1 b5 s5 h3⟩
          | cnt η4 S4 => simp only [eo] at h3; exact fun ρ5 H5 σ5 b5 s5 r5 => ⟨ρ5, η4, S4, s5, r5, PQ.step s1 b5 s5 h3⟩
          | brk η4 S4 => simp only [eo] at h3; exact h3
          | ret rr T => simp only [eo] at h3; exact h3
          | exc x η4 T => simp only [eo] at h3; exact h3
          | bad => simp only [eo] at h3; exact h3
      | _ => exact h'.elim
    | exc x S1 => rw [e] at h'; exact fun ρ1 H1 st1 s1 => h' ρ1 H1 σ' st1 s1 (r'.step st1)
    | bad => rw [e] at h'; exact h'
/-- two values, one after the other -/
theorem PQ.out2 {α γ δ : Type} {η : Sg} {σ : L2.St} {r : Res α} {r2 : α → Hs → Res γ} {f : α → γ → Hs → Out} {gg : α → γ → δ} {ok' : List Addr → Hp → δ → Hs → Prop} (s : Sim G ρ H S) (er : ER G ρ H η σ) (h : PQ G W ρ H D (r.out η fun x S1 => (r2 x S1).out η (f x)))
    (kk : ∀ ρ1 H1 x y S1, Step ρ H ρ1 H1 → Sim G ρ1 H1 S1 → PQ G W ρ1 H1 D (f x y S1) → ok' ρ1 H1 (gg x y) S1) : PR G W σ ρ H (r.bind fun x S1 => (r2 x S1).bind fun y S2 => .ok (gg x y) S2) ok' := by
  cases r with
  | ok x S1 =>
    simp only [Res.out, Res.bind] at h ⊢
    cases e : r2 x S1 with
    | ok y S2 => rw [e] at h; exact fun ρ1 H1 st s2 => kk ρ1 H1 x y S2 st s2 (PQ.step s st s2 h)
    | exc z S2 => rw [e] at h; exact fun ρ1 H1 st s2 => h ρ1 H1 σ st s2 (er.step st)
    | bad => rw [e] at h; exact h
  | exc z S1 => exact fun ρ1 H1 st s1 => h ρ1 H1 σ st s1 (er.step st)
  | bad => exact h
theorem ps_pari (g : Good G k X) {i j : Nat} {x y : Str} {a b : Expr} {ca cb : E} {px py pt : Pos} {kt k2 : Nat} {pt2 : Pos} (hi : X.N[i]? = some x) (hj : X.N[j]? = some y) (hij : i ≠ j)
    (hx : X.env.scope.names.lookup x = some .local) (hy : X.env.scope.names.lookup y = some .local) (ha : PA X [a, b] (tA G M W (.cons ca (.cons cb .nil))))
    (hw : swappedStores [.Tuple [.Name x px, .Name y py] kt pt] (.Tuple [a, b] k2 pt2) X.env = pure (some [x, y]))
    (hs : swapsWithSole [.Tuple [.Name x px, .Name y py] kt pt] (.Tuple [a, b] k2 pt2) pos.line X.env = pure false := by rfl) :
    PS X (.Assign [.Tuple [.Name x px, .Name y py] kt pt] (.Tuple [a, b] k2 pt2) pos) (tC G M W (.par i j ca cb)) := (ps_par g.calm g.nd hi hj hij hx hy ha hw hs).imp fun D σ H ⟨ρ, η, S, s, r, h⟩ => ⟨ρ, η, S, s, r, by
  simp only [exc1] at h
  rw [evs2]
  refine PQ.out2 s r h fun ρ1 H1 x y S1 st s1 h1 vs hv => ?_
  simp only [VRs] at hv
  obtain ⟨v, r', rfl, hv1, w, r'', rfl, hv2, rfl⟩ := hv
  exact ⟨v, w, rfl, h1 ρ1 H1 _ (Step.refl _ _) s1 (((r.step st).set i hv1).set j hv2)⟩⟩

/-! ### stores into objects -/
theorem Sim.put {r : Nat} {a : Addr} {ho : HO} {o2 : Ob} (s : Sim G ρ H S) (hr : ρ[r]? = some a) (h : OR G ρ (upd H a ho) a o2) : Step ρ H ρ (upd H a ho) ∧ Sim G ρ (upd H a ho) (S.set r o2) := by
  have st : Step ρ H ρ (upd H a ho) := ⟨List.prefix_refl _, fun b o hb hn => by
    rw [upd_ne fun e => hn (by subst e; exact List.mem_of_getElem? hr)]; exact hb, fun b hb => .inl hb⟩
  refine ⟨st, by rw [List.length_set]; exact s.len, s.nd, fun q o b hq hb => ?_⟩
  by_cases e : q = r
  · subst e
    rw [hr] at hb; cases hb
    rw [List.getElem?_set_self (by rw [← s.len]; exact lt_of_get hr)] at hq
    cases hq
    exact h
  · rw [List.getElem?_set_ne (Ne.symm e)] at hq
    have ne : b ≠ a := fun z => e (by
      subst z
      exact (List.getElem?_inj (lt_of_get hb) s.nd).mp (hb.trans hr.symm))
    have k := s.at_ q o b hq hb
    cases o with
    | lst xs => obtain ⟨vs, h1, h2⟩ := k; exact ⟨vs, by rw [upd_ne ne]; exact h1, VRs.step st _ _ h2⟩
    | dct ks xs => obtain ⟨vs, h1, h2, h3⟩ := k; exact ⟨vs, by rw [upd_ne ne]; exact h1, h2, VRs.step st _ _ h3⟩
    | ins c ns xs => obtain ⟨dx, vs, h1, h2, h3⟩ := k; exact ⟨dx, vs, by rw [upd_ne ne]; exact h1, h2, VRs.step st _ _ h3⟩
theorem putF_put {f : Str} {x : Vl} {v : V} (hv : VR G ρ H x v) : ∀ {ns : List Str} {xs : List Vl} {fs : List (Str × V)}, fs.map (·.1) = ns → VRs G ρ H xs (fs.map (·.2)) → (putF f v fs).map (·.1) = (putG ns xs f x).1 ∧ VRs G ρ H (putG ns xs f x).2 ((putF f v fs).map (·.2))
  | [], [], [], _, _ => ⟨rfl, VRs.cons hv VRs.nil⟩
  | [], _ :: _, [], _, h => by simp only [List.map_nil, VRs] at h; obtain ⟨_, _, e, _⟩ := h; cases e
  | [], _, _ :: _, h, _ => by simp at h
  | n :: ns, _, [], h, _ => by simp at h
  | n :: ns, [], _ :: _, _, h => by simp [VRs] at h
  | n :: ns, y :: xs, (m, w) :: fs, h, k => by
    simp only [List.map_cons, List.cons.injEq] at h
    obtain ⟨rfl, h⟩ := h
    simp only [List.map_cons, VRs] at k
    obtain ⟨v', r, e, k1, k2⟩ := k
    cases e
    simp only [putF, putG]
    by_cases q : m = f
    · rw [if_pos q, if_pos q]
      exact ⟨by simp [h], VRs.cons hv k2⟩
    · rw [if_neg q, if_neg q]
      obtain ⟨i1, i2⟩ := putF_put hv h k2
      exact ⟨by simp [i1], VRs.cons k1 i2⟩
theorem ps_fseti (g : Good G k X) {o value : Expr} {f : Str} {ca cv : E} {pos' : Pos} (hC : ∀ c, Cls X.K (G.cl c)) (hf : ∀ c, NoAttr X.K (G.cl c) f) (ha : PE X o (tE G M W ca)) (hv : PE X value (tE G M W cv)) (hs : swapsWith value (some (.Attribute o f pos')) pos.line X.env = pure false) :
    PS X (.Assign [.Attribute o f pos'] value pos) (tC G M W (.fset ca f cv)) := (ps_fld ha hv hs).imp fun D σ H ⟨ρ, η, S, s, r, h⟩ => ⟨ρ, η, S, s, r, by
  simp only [exc1] at h
  refine (PQ.out s r h).mono fun ρ1 H1 y S1 st s1 h1 v hv => ⟨ρ1, η, S1, s1, r.step st, (PQ.out s1 (r.step st) h1).mono fun ρ2 H2 x S2 st2 s2 h2 w hw => ?_⟩
  cases x with
  | ref n =>
    simp only at h2
    split at h2
    · rename_i c ns vs eo
      split at h2
      · rename_i hl
        obtain ⟨a, rfl, hr, dx, fs, e1, e2, e3⟩ := s2.ref hw eo
        obtain ⟨p1, p2⟩ := putF_put (f := f) (hv.step st2) e2 e3
        obtain ⟨st3, s3⟩ := Sim.put (ho := .ins (G.cl c) dx (putF f v fs)) (o2 := .ins c (putG ns vs f y).1 (putG ns vs f y).2) s2 hr (by
          have st' : Step ρ2 H2 ρ2 (upd H2 a (.ins (G.cl c) dx (putF f v fs))) := ⟨List.prefix_refl _, fun b o hb hn => by
            rw [upd_ne fun e => hn (by subst e; exact List.mem_of_getElem? hr)]; exact hb, fun b hb => .inl hb⟩
          exact ⟨dx, _, upd_same, p1, VRs.step st' _ _ p2⟩)
        refine ⟨a, G.cl c, dx, fs, rfl, e1, hC c, hf c, ?_, h2 ρ2 _ σ st3 s3 ((r.step st).step (st2.trans st3))⟩
        rw [← e2, List.length_map] at hl; exact hl
      · exact h2.elim
    · exact h2.elim
  | _ => exact h2.elim⟩
theorem ps_augi (g : Good G k X) {i : Nat} {x : Str} {op : Operator} {pos' : Pos} (hop : op = .Add ∨ op = .Sub) (hi : X.N[i]? = some x) (hx : Loc X.env.scope x) (he : PE X e (tE G M W ce)) (hf : X.fn x = true ∨ X.env.scope.names.lookup x = some .local := by first | exact .inl rfl | exact .inr rfl | assumption) :
    PS X (.AugAssign (.Name x pos') op e pos) (tC G M W (.aug i op ce)) := by
  rcases hop with rfl | rfl
  · refine (ps_aug g.nd hi hx he ip_add hf).imp fun D σ H ⟨ρ, η, S, s, r, h⟩ => ?_
    simp only [exc1] at h
    split at h
    · rename_i x ex
      obtain ⟨v, e1, hv⟩ := r.at_ i x ex
      refine ⟨v, e1, ρ, η, S, s, r, (PQ.out s r h).mono fun ρ1 H1 y S1 st s1 h1 w hw => ?_⟩
      cases x with
      | int a =>
        cases y with
        | int b =>
          simp only [VR] at hv hw
          subst hv hw
          exact ⟨a, b, rfl, rfl, h1 ρ1 H1 _ (Step.refl _ _) s1 ((r.step st).set i (by simp only [VR]))⟩
        | _ => exact h1.elim
      | _ => exact h1.elim
    · exact h.elim
  · refine (ps_aug g.nd hi hx he ip_sub hf).imp fun D σ H ⟨ρ, η, S, s, r, h⟩ => ?_
    simp only [exc1] at h
    split at h
    · rename_i x ex
      obtain ⟨v, e1, hv⟩ := r.at_ i x ex
      refine ⟨v, e1, ρ, η, S, s, r, (PQ.out s r h).mono fun ρ1 H1 y S1 st s1 h1 w hw => ?_⟩
      cases x with
      | int a =>
        cases y with
        | int b =>
          simp only [VR] at hv hw
          subst hv hw
          exact ⟨a, b, rfl, rfl, h1 ρ1 H1 _ (Step.refl _ _) s1 ((r.step st).set i (by simp only [VR]))⟩
        | _ => exact h1.elim
      | _ => exact h1.elim
    · exact h.elim
end
end Oz
set_option Elab.async false
set_option linter.all false
set_option maxRecDepth 100000
set_option maxHeartbeats 4000000
set_option autoImplicit false
/-! Oz: comprehensions. -/
namespace Oz
open PySem L2 PyProof.Rows

/-! ### heaps cut back -/
section
variable {G : Glb} {ρ τ : List Addr} {H H' : Hp} {S T : Hs}
mutual
theorem VR.has : ∀ (x : Vl) (v : V), VR G ρ H x v → x.lim ρ.length = true
  | .non, _, _ | .bl _, _, _ | .int _, _, _ | .str _, _, _ => by simp [Vl.lim]
  | .tup xs, v, h => by simp only [VR] at h; obtain ⟨a, vs, _, _, h2⟩ := h; simp only [Vl.lim]; exact VRs.has xs vs h2
  | .lst xs, v, h => by simp only [VR] at h; obtain ⟨a, vs, _, _, h2⟩ := h; simp only [Vl.lim]; exact VRs.has xs vs h2
  | .dct ks xs, v, h => by simp only [VR] at h; obtain ⟨a, vs, _, _, _, _, h2⟩ := h; simp only [Vl.lim]; exact VRs.has xs _ h2
  | .obj c ns xs, v, h => by simp only [VR] at h; obtain ⟨a, dx, vs, _, _, _, _, h2⟩ := h; simp only [Vl.lim]; exact VRs.has xs _ h2
  | .ref r, v, h => by simp only [VR] at h; obtain ⟨a, _, h2⟩ := h; simp only [Vl.lim, decide_eq_true_eq]; exact lt_of_get h2
theorem VRs.has : ∀ (xs : List Vl) (vs : List V), VRs G ρ H xs vs → limAll ρ.length xs = true
  | [], _, _ => by simp [limAll]
  | x :: xs, vs, h => by
    simp only [VRs] at h
    obtain ⟨v, r, _, h1, h2⟩ := h
    simp only [limAll, Bool.and_eq_true]
    exact ⟨VR.has x v h1, VRs.has xs r h2⟩
end
mutual
theorem VR.less : ∀ (x : Vl) (v : V), VR G (ρ ++ τ) H x v → x.lim ρ.length = true → VR G ρ H x v
  | .non, _, h, _ | .bl _, _, h, _ | .int _, _, h, _ | .str _, _, h, _ => by simpa only [VR] using h
  | .tup xs, v, h, l => by
    simp only [VR] at h ⊢
    simp only [Vl.lim] at l
    obtain ⟨a, vs, e, h1, h2⟩ := h
    exact ⟨a, vs, e, h1.imp (fun q => ⟨q.1, fun z => q.2 (List.mem_append_left _ z)⟩) id, VRs.less xs vs h2 l⟩
  | .lst xs, v, h, l => by
    simp only [VR] at h ⊢
    simp only [Vl.lim] at l
    obtain ⟨a, vs, e, h1, h2⟩ := h
    exact ⟨a, vs, e, ⟨h1.1, fun z => h1.2 (List.mem_append_left _ z)⟩, VRs.less xs vs h2 l⟩
  | .dct ks xs, v, h, l => by
    simp only [VR] at h ⊢
    simp only [Vl.lim] at l
    obtain ⟨a, vs, e, h1, n, h2, h3⟩ := h
    exact ⟨a, vs, e, h1, fun z => n (List.mem_append_left _ z), h2, VRs.less xs _ h3 l⟩
  | .obj c ns xs, v, h, l => by
    simp only [VR] at h ⊢
    simp only [Vl.lim] at l
    obtain ⟨a, dx, vs, e, h1, n, h2, h3⟩ := h
    exact ⟨a, dx, vs, e, h1, fun z => n (List.mem_append_left _ z), h2, VRs.less xs _ h3 l⟩
  | .ref r, v, h, l => by
    simp only [VR] at h ⊢
    simp only [Vl.lim, decide_eq_true_eq] at l
    obtain ⟨a, e, h1⟩ := h
    exact ⟨a, e, by rw [← h1, List.getElem?_append_left l]⟩
theorem VRs.less : ∀ (xs : List Vl) (vs : List V), VRs G (ρ ++ τ) H xs vs → limAll ρ.length xs = true → VRs G ρ H xs vs
  | [], _, h, _ => by simpa only [VRs] using h
  | x :: xs, vs, h, l => by
    simp only [VRs] at h ⊢
    simp only [limAll, Bool.and_eq_true] at l
    obtain ⟨v, r, e, h1, h2⟩ := h
    exact ⟨v, r, e, VR.less x v h1 l.1, VRs.less xs r h2 l.2⟩
end
theorem OR.has {a : Addr} {o : Ob} (h : OR G ρ H a o) : o.lim ρ.length = true := by
  cases o with
  | lst xs => obtain ⟨vs, _, h2⟩ := h; exact VRs.has _ _ h2
  | dct ks xs => obtain ⟨vs, _, _, h2⟩ := h; exact VRs.has _ _ h2
  | ins c ns xs => obtain ⟨dx, vs, _, _, h2⟩ := h; exact VRs.has _ _ h2
theorem OR.less {a : Addr} {o : Ob} (h : OR G (ρ ++ τ) H a o) (l : o.lim ρ.length = true) : OR G ρ H a o := by
  cases o with
  | lst xs => obtain ⟨vs, h1, h2⟩ := h; exact ⟨vs, h1, VRs.less _ _ h2 l⟩
  | dct ks xs => obtain ⟨vs, h1, h2, h3⟩ := h; exact ⟨vs, h1, h2, VRs.less _ _ h3 l⟩
  | ins c ns xs => obtain ⟨dx, vs, h1, h2, h3⟩ := h; exact ⟨dx, vs, h1, h2, VRs.less _ _ h3 l⟩
/-- the older things alone, where none of them leads to a newer one -/
theorem Sim.cut (s : Sim G (ρ ++ τ) H (S ++ T)) (hl : ρ.length = S.length) (hS : ∀ (r : Nat) (o : Ob), S[r]? = some o → o.lim S.length = true) : Sim G ρ H S where
  len := hl
  nd := (List.nodup_append.mp s.nd).1
  at_ := fun r o a h1 h2 => by
    refine OR.less (s.at_ r o a ?_ ?_) (by rw [hl]; exact hS r o h1)
    · rw [List.getElem?_append_left (lt_of_get h1)]; exact h1
    · rw [List.getElem?_append_left (lt_of_get h2)]; exact h2
theorem Sim.new {p : Addr} {u : HO} {o : Ob} (s : Sim G ρ H S) (hp : H p = none) (ho : OR G (ρ ++ [p]) (upd H p u) p o) : Sim G (ρ ++ [p]) (upd H p u) (S ++ [o]) := by
  have sm : Same H (upd H p u) := same_new hp
  have n : p ∉ ρ := s.free hp
  have st1 : Step ρ H (ρ ++ [p]) (upd H p u) := (stepSame sm).one hp
  refine ⟨by simp [s.len], ?_, fun r o' a h1 h2 => ?_⟩
  · rw [List.nodup_append]
    exact ⟨s.nd, by simp, fun x hx y hy => by
      have : y = p := by simpa using hy
      subst this
      exact fun e => n (e ▸ hx)⟩
  · by_cases hr : r < S.length
    · rw [List.getElem?_append_left hr] at h1
      rw [List.getElem?_append_left (by rw [s.len]; exact hr)] at h2
      exact (s.at_ r o' a h1 h2).same st1 sm
    · have hr2 : r = S.length := by
        have := lt_of_get h1
        simp at this
        omega
      subst hr2
      have e1 : o' = o := by simpa using h1.symm
      have e2 : a = p := by rw [← s.len] at h2; simpa using h2.symm
      subst e1 e2
      exact ho
theorem Sim.lims (s : Sim G ρ H S) (r : Nat) (o : Ob) (h : S[r]? = some o) : o.lim S.length = true := by
  have hr : r < ρ.length := by rw [s.len]; exact lt_of_get h
  rw [← s.len]
  exact (s.at_ r o ρ[r] h (List.getElem?_eq_getElem hr)).has
end

/-! ### a comprehension's list -/
section
variable {G : Glb} {M : Mach} {W : WX} {X : Cx} {k : Nat}
abbrev WF : WX := fun _ _ _ _ => False
theorem Good.blk (g : Good G k X) (s : Shared) (H : Hp) (scope : Scope) (ce : Env) (fp : List Addr) : Good G k (X.blk s H scope ce fp) := ⟨g.K, g.nd, g.calm, g.room, g.grd⟩
theorem wipe_get {σ : L2.St} {i : Nat} : ∀ {vs : List Nat}, (wipe σ vs)[i]? = if i ∈ vs then σ[i]?.map (fun _ => none) else σ[i]?
  | [] => by simp [wipe]
  | v :: vs => by
    unfold wipe
    rw [List.getElem?_set, wipe_length]
    by_cases e : v = i
    · subst e
      rw [if_pos rfl, if_pos List.mem_cons_self]
      by_cases l : v < σ.length
      · rw [if_pos l, List.getElem?_eq_getElem l]; rfl
      · rw [if_neg l, List.getElem?_eq_none (by omega)]; rfl
    · rw [if_neg e, wipe_get]
      by_cases m : i ∈ vs
      · rw [if_pos m, if_pos (List.mem_cons_of_mem _ m)]
      · rw [if_neg m, if_neg (by simp [m, Ne.symm e])]
theorem wipe_off {σ σ' : L2.St} {is vs : List Nat} (h : Off is (wipe σ vs) σ') (hs : ∀ i ∈ is, i ∈ vs) : wipe σ' vs = wipe σ vs := by
  apply List.ext_getElem?
  intro i
  rw [wipe_get, wipe_get]
  by_cases m : i ∈ vs
  · rw [if_pos m, if_pos m]
    have hl : σ'.length = σ.length := h.1.trans (wipe_length σ vs)
    by_cases l : i < σ.length
    · rw [List.getElem?_eq_getElem l, List.getElem?_eq_getElem (by omega)]; rfl
    · rw [List.getElem?_eq_none (by omega), List.getElem?_eq_none (by omega)]
  · rw [if_neg m, if_neg m, h.2 i fun z => m (hs i z), wipe_get, if_neg m]
theorem ER.wipe {ρ : List Addr} {H : Hp} {η : Sg} {σ : L2.St} (h : ER G ρ H η σ) : ∀ (vs : List Nat), ER G ρ H (wipeG η vs) (wipe σ vs)
  | [] => h
  | v :: vs => (h.wipe vs).set_ v
/-- the tests of a clause -/
def tAll (G : Glb) (M : Mach) (W : WX) (c : Es) : TT := fun σ H Q => ∃ ρ η S, Sim G ρ H S ∧ ER G ρ H η σ ∧ PR G W σ ρ H (evAll M c η S) (fun _ H' b _ => Q b H')
theorem _root_.L2.PTs.imp {X : Cx} {e : List Expr} {t t' : TT} (h : PTs X e t) (k : ∀ σ H Q, t' σ H Q → t σ H Q) : PTs X e t' := ⟨fun pins s σ H Q I q => h.run pins s σ H Q I (k σ H Q q)⟩
theorem pts_no : PTs X [] (tAll G M W .nil) := pts_nil.imp fun σ H Q ⟨ρ, η, S, s, r, h⟩ => by
  simp only [evAll] at h
  exact h.here s
theorem pts_c {e : Expr} {c : E} (h : PT X e (tQ G M W c)) : PTs X [e] (tAll G M W (.cons c .nil)) := (pts_one h).imp fun σ H Q ⟨ρ, η, S, s, r, h⟩ => ⟨ρ, η, S, s, r, by
  simp only [evAll] at h
  refine (PR.bind h).mono fun ρ1 H1 x S1 st s1 h1 => ?_
  cases x with
  | bl b => cases b <;> exact ⟨_, rfl, h1.here s1⟩
  | _ => exact h1.elim⟩
theorem limAll_app {n : Nat} {y : Vl} : ∀ {xs : List Vl}, limAll n xs = true → y.lim n = true → limAll n (xs ++ [y]) = true
  | [], _, h => by simp [limAll, h]
  | x :: xs, h, k => by
    simp only [limAll, Bool.and_eq_true] at h
    show (Vl.lim n x && limAll n (xs ++ [y])) = true
    rw [h.1, limAll_app h.2 k]; rfl
theorem pre_eq {α : Type} {xs ys : List α} (h : xs <+: ys) (l : ys.length = xs.length) : ys = xs := (List.IsPrefix.eq_of_length h l.symm).symm
theorem lc_tF {own : List Nat} {ce : E} {t : Tg} {src : Src} {ci : Es} (ht : ∀ i ∈ t.slots, i ∈ own) (σ : L2.St) (H : Hp) (Q : VK) (h : tF G M W (.comp own ce t src ci) σ H Q) : tLc (tS G M W src) (tG G t) (tAll G M WF ci) (tE G M WF ce) own σ H Q := by
  obtain ⟨ρ, η, S, s, r, h⟩ := h
  refine ⟨ρ, η, S, s, r, ?_⟩
  simp only [evf] at h
  refine (PR.bind h).mono fun ρ1 H1 p S1 st s1 h1 J jw D hD => ?_
  obtain ⟨lk, xs⟩ := p
  simp only at h1 jw
  have hD0 : H D = none := none_of s s1 st hD
  have hDn : D ∉ ρ1 := s1.free hD
  have hl1 := s1.len
  -- the start
  have sm : Same H1 (upd H1 D (.lst [])) := same_new hD
  have stD : Step ρ1 H1 (ρ1 ++ [D]) (upd H1 D (.lst [])) := (stepSame sm).one hD
  have simD : Sim G (ρ1 ++ [D]) (upd H1 D (.lst [])) (S1 ++ [.lst []]) := s1.new hD ⟨[], upd_same, VRs.nil⟩
  have rD : (ρ1 ++ [D])[S1.length]? = some D := by rw [← hl1]; simp
  generalize hstep : (fun (x : Vl) (S2 : Hs) => match bindT t x (wipeG η own) with
      | none => (Res.bad : Res (Option Vl))
      | some η1 => (evAll M ci η1 S2).bind fun b S3 => if b = true then (ev M ce η1 S3).bind fun y S4 => .ok (some y) S4 else .ok none S3) = step at h1
  refine ⟨fun i m H' => m = xs.length - i ∧ i ≤ xs.length ∧ ∃ acc, Step ρ1 H1 (ρ1 ++ [D]) H' ∧ Sim G (ρ1 ++ [D]) H' (S1 ++ [.lst acc]) ∧ PR G W σ ρ1 H1 ((compL step lk (xs.drop i) acc S1).bind fun ys S2 => .ok (.lst ys) S2) (okF G H Q) ∧ limAll S1.length acc = true, ⟨xs.length, by simp, Nat.zero_le _, [], stD, simD, by simpa using h1, by simp [limAll]⟩, ?_⟩
  rintro i m H' ⟨rfl, hi, acc, st', s', h', la⟩
  by_cases hl : i < xs.length
  · refine .inr ?_
    rw [List.drop_eq_getElem_cons hl] at h'
    simp only [compL] at h'
    split at h'
    · rename_i l'
      have l2 : lockd lk (S1 ++ [.lst acc]) := fun p hp => by
        have e := l' p hp
        rw [List.getElem?_append_left (lt_of_get e)]; exact e
      obtain ⟨hgo, hy⟩ := jw.go _ H' _ i xs[i] (Step.x st') s' l2 (by simp [hl])
      refine ⟨hgo, fun H3 => ∃ acc, Step ρ1 H1 (ρ1 ++ [D]) H3 ∧ Sim G (ρ1 ++ [D]) H3 (S1 ++ [.lst acc]) ∧ PR G W σ ρ1 H1 ((compL step lk (xs.drop (i + 1)) acc S1).bind fun ys S2 => .ok (.lst ys) S2) (okF G H Q) ∧ limAll S1.length acc = true, fun H3 a => ⟨xs.length - (i + 1), by omega, rfl, by omega, a⟩, fun v H3 y => ?_⟩
      obtain ⟨sm3, hv⟩ := hy v H3 y
      have st3 : Step (ρ1 ++ [D]) H' (ρ1 ++ [D]) H3 := stepSame sm3
      have s3 := s'.same sm3
      have est : step xs[i] (S1 ++ [.lst acc]) = match bindT t xs[i] (wipeG η own) with
          | none => (Res.bad : Res (Option Vl))
          | some η1 => (evAll M ci η1 (S1 ++ [.lst acc])).bind fun b S3 => if b = true then (ev M ce η1 S3).bind fun y S4 => .ok (some y) S4 else .ok none S3 := by rw [← hstep]
      cases eb : bindT t xs[i] (wipeG η own) with
      | none => rw [est, eb] at h'; exact h'.elim
      | some η2 =>
        rw [est, eb] at h'
        simp only at h'
        have er3 : ER G (ρ1 ++ [D]) H3 (wipeG η own) (wipe σ own) := (((r.step st).step st').step st3).wipe own
        refine ⟨ρ1 ++ [D], S1 ++ [.lst acc], wipeG η own, xs[i], η2, s3, er3, hv, eb, fun σ4 of4 r4 => ⟨wipe_off of4 ht, ρ1 ++ [D], η2, S1 ++ [.lst acc], s3, r4, ?_⟩⟩
        cases ea : evAll M ci η2 (S1 ++ [.lst acc]) with
        | bad => rw [ea] at h'; exact h'.elim
        | exc x S3 => rw [ea] at h'; exact h'.elim
        | ok b S3 =>
          rw [ea] at h'
          simp only [Res.bind] at h'
          refine fun ρ5 H5 st5 s5 => ?_
          cases b with
          | false =>
            simp only [Bool.false_eq_true, if_false] at h' ⊢
            by_cases c5 : S3 = S1 ++ [.lst acc] ∧ acc.length < sizeLine
            · rw [if_pos c5] at h'
              obtain ⟨rfl, _⟩ := c5
              have e5 : ρ5 = ρ1 ++ [D] := pre_eq st5.pre (by rw [s5.len, ← s3.len])
              subst e5
              exact ⟨acc, (st'.trans st3).trans st5, s5, h', la⟩
            · rw [if_neg c5] at h'; exact h'.elim
          | true =>
            simp only [if_true] at h' ⊢
            refine ⟨ρ5, η2, S3, s5, r4.step st5, ?_⟩
            cases ev6 : ev M ce η2 S3 with
            | bad => rw [ev6] at h'; exact h'.elim
            | exc x S4 => rw [ev6] at h'; exact h'.elim
            | ok y S4 =>
              rw [ev6] at h'
              simp only [Res.bind] at h'
              refine fun ρ7 H7 st7 s7 w hw => ?_
              by_cases c7 : S4 = S1 ++ [.lst acc] ∧ acc.length < sizeLine
              · rw [if_pos c7] at h'
                obtain ⟨rfl, hz⟩ := c7
                have e7 : ρ7 = ρ1 ++ [D] := pre_eq (st5.trans st7).pre (by rw [s7.len, ← s3.len])
                subst e7
                by_cases ly : y.lim S1.length = true
                · rw [if_pos ly] at h'
                  obtain ⟨vs, g1, g2⟩ := s7.at_ S1.length (.lst acc) D (by simp) rD
                  have stE : Step (ρ1 ++ [D]) H7 (ρ1 ++ [D]) (upd H7 D (.lst (vs ++ [w]))) := ⟨List.prefix_refl _, fun b o hb hn => by
                    rw [upd_ne fun e => hn (by subst e; simp)]; exact hb, fun b hb => .inl hb⟩
                  obtain ⟨st8, s8⟩ := Sim.put (ho := .lst (vs ++ [w])) (o2 := .lst (acc ++ [y])) s7 rD ⟨vs ++ [w], upd_same, VRs.step stE _ _ (g2.append (VRs.cons hw VRs.nil))⟩
                  refine ⟨vs, g1, by rw [← g2.length]; exact hz, acc ++ [y], (((st'.trans st3).trans st5).trans st7).trans st8, by simpa using s8, h', ?_⟩
                  exact limAll_app la ly
                · rw [if_neg ly] at h'; exact h'.elim
              · rw [if_neg c7] at h'; exact h'.elim
    · exact h'.elim
  · have e : i = xs.length := by omega
    subst e
    rw [List.drop_length] at h'
    simp only [compL] at h'
    split at h'
    · rename_i l'
      have l2 : lockd lk (S1 ++ [.lst acc]) := fun p hp => by
        have e := l' p hp
        rw [List.getElem?_append_left (lt_of_get e)]; exact e
      refine .inl ⟨jw.stop _ H' _ (Step.x st') s' l2, ?_⟩
      have sc : Sim G ρ1 H' S1 := s'.cut hl1 s1.lims
      have stc : Step ρ1 H1 ρ1 H' := ⟨List.prefix_refl _, st'.keep, fun a ha => .inl ha⟩
      have fin : okF G H Q ρ1 H' (.lst acc) S1 := h' ρ1 H' stc sc
      exact fin D hD0 hDn (OR.less (s'.at_ S1.length (.lst acc) D (by simp) rD) (by rw [hl1]; exact la)) s'
    · exact h'.elim
section
variable {elt tg iter : Expr} {ifs : List Expr} {scope : Scope} {own : List (Str × Nat)} {pos : Pos} {ce : E} {t : Tg} {src : Src} {ci : Es}
theorem pf_comp (g : Good G k X) (hsl : ∀ i ∈ t.slots, i ∈ own.map (·.2)) (hi : PI X tg iter (tS G M W src)) (ok : BlkOk X.N X.env.scope scope own)
    (hg : ∀ (s : Shared) (H : Hp) (C : Addr) (cl : List (Str × Addr)) (fp : List Addr), PG (X.blk s H scope (compEnvC scope cl C X.env) fp) tg (tG G t)) (ht : ∀ (s : Shared) (H : Hp) (C : Addr) (cl : List (Str × Addr)) (fp : List Addr), PTs (X.blk s H scope (compEnvC scope cl C X.env) fp) ifs (tAll G M WF ci))
    (he : ∀ (s : Shared) (H : Hp) (C : Addr) (cl : List (Str × Addr)) (fp : List Addr), PE (X.blk s H scope (compEnvC scope cl C X.env) fp) elt (tE G M WF ce)) (hs : ∀ x, foldedSetIterable iter X.env x = pure x := by intro _; rfl) :
    PE X (.ListComp elt [⟨tg, iter, ifs, 0⟩] scope pos) (tF G M W (.comp (own.map (·.2)) ce t src ci)) := (pe_lc g.calm g.nd hi ok hg ht he hs).imp fun σ H Q h => lc_tF hsl σ H Q h
/-- name = [..], the name a local, on one row -/
theorem ps_setLci (g : Good G k X) {i : Nat} {y : Str} {py spos : Pos} (hy : X.N[i]? = some y) (hyl : X.env.scope.names.lookup y = some .local)
    (hsw : swapsWith (.ListComp elt [⟨tg, iter, ifs, 0⟩] scope pos) (some (.Name y py)) spos.line X.env = pure true) (hsl : ∀ i ∈ t.slots, i ∈ own.map (·.2)) (hi : PI X tg iter (tS G M W src)) (ok : BlkOk X.N X.env.scope scope own)
    (hg : ∀ (s : Shared) (H : Hp) (C : Addr) (cl : List (Str × Addr)) (fp : List Addr), PG (X.blk s H scope (compEnvC scope cl C X.env) fp) tg (tG G t)) (ht : ∀ (s : Shared) (H : Hp) (C : Addr) (cl : List (Str × Addr)) (fp : List Addr), PTs (X.blk s H scope (compEnvC scope cl C X.env) fp) ifs (tAll G M WF ci))
    (he : ∀ (s : Shared) (H : Hp) (C : Addr) (cl : List (Str × Addr)) (fp : List Addr), PE (X.blk s H scope (compEnvC scope cl C X.env) fp) elt (tE G M WF ce)) (hs : ∀ x, foldedSetIterable iter X.env x = pure x := by intro _; rfl) (fr : Bool) :
    PS X (.Assign [.Name y py] (.ListComp elt [⟨tg, iter, ifs, 0⟩] scope pos) spos) (tC G M W (.asg (.nm i) (if fr then .inl (.comp (own.map (·.2)) ce t src ci) else .alc (.comp (own.map (·.2)) ce t src ci)))) := (ps_setLc g.calm g.nd hy hyl hsw hi ok hg ht he hs).imp fun D σ H ⟨ρ, η, S, s, r, h⟩ => by
  refine lc_tF hsl σ H _ ⟨ρ, η, S, s, r, ?_⟩
  cases fr with
  | true =>
    simp only [if_true, exc1, ev, bindT] at h
    cases eo : evf M (.comp (own.map (·.2)) ce t src ci) η S with
    | ok o S1 =>
      rw [eo] at h
      exact fun ρ1 H1 st s1 p hp hn ho hs => h ρ1 H1 _ st s1 ((r.step st).set i (ho.inl hn))
    | exc x S1 => rw [eo] at h; exact fun ρ1 H1 st s1 => h ρ1 H1 σ st s1 (r.step st)
    | bad => rw [eo] at h; exact h
  | false =>
    simp only [Bool.false_eq_true, if_false, exc1, ev, bindT] at h
    cases eo : evf M (.comp (own.map (·.2)) ce t src ci) η S with
    | ok o S1 =>
      rw [eo] at h
      exact fun ρ1 H1 st s1 p hp hn ho hs => h (ρ1 ++ [p]) H1 _ (st.one hp) hs ((r.step (st.one hp)).set i (by simp only [VR]; exact ⟨p, rfl, by rw [← s1.len]; simp⟩))
    | exc x S1 => rw [eo] at h; exact fun ρ1 H1 st s1 => h ρ1 H1 σ st s1 (r.step st)
    | bad => rw [eo] at h; exact h
end
end
end Oz
set_option Elab.async false
set_option linter.all false
set_option maxRecDepth 100000
set_option maxHeartbeats 4000000
set_option autoImplicit false
/-! Oz: sets of texts: made, added to, sorted. -/
namespace Oz
open PySem L2 PyProof.Rows PySem.Froz

theorem tail_perm (ep : Nat) (es : Array (Int × Value)) (t : SetTable) (d : Bool) : (tailTx ep es t d).1.toList.Perm es.toList := by
  unfold tailTx
  split
  · exact relayAll_perm _ _ _
  · exact .refl _
theorem tail_ris (ep : Nat) (es : Array (Int × Value)) (t : SetTable) (d : Bool) (r : Ris t.place.toList) : Ris (tailTx ep es t d).2.2.place.toList := by
  unfold tailTx
  split
  · exact relayAll_ris _ _ _
  · exact r
theorem tail_led (ep : Nat) (es : Array (Int × Value)) (t : SetTable) (d : Bool) : (tailTx ep es t d).2.2.led = t.led := by
  unfold tailTx
  split
  · exact relayAll_led _ _ _
  · rfl
theorem addTx_perm (h : Int) (v : Value) (D : SD) : (addTx h v D).1.toList.Perm (D.1.toList ++ [(h, v)]) := by
  have p1 := layNew_perm D.2.2 D.1 h v
  rw [Array.toList_push] at p1
  exact (tail_perm _ _ _ _).trans p1
theorem addTx_ris (h : Int) (v : Value) (D : SD) (r : Ris D.2.2.place.toList) : Ris (addTx h v D).2.2.place.toList := by
  refine tail_ris _ _ _ _ ?_
  have r1 := layNew_ris D.2.2 D.1 h v r
  split <;> exact r1
theorem addTx_led (h : Int) (v : Value) (D : SD) : (addTx h v D).2.2.led = D.2.2.led := by
  refine (tail_led _ _ _ _).trans ?_
  have r1 := layNew_led D.2.2 D.1 h v
  split <;> exact r1
/-- the texts l, each once, are the set at a -/
def SetT (P : Program) (w : World) (h : Heap) (a : Addr) (l : List Str) : Prop :=
  ∃ D : SD, h.get? a = some (sObj "set" D) ∧ TxOk P w D l ∧ (D.1.toList.map fun e => strOf e.2).Perm l ∧ (∀ e ∈ D.1.toList, ∃ x t, e.2 = .str x t) ∧ Ris D.2.2.place.toList ∧ (w.params.followText "set-order" = true ∨ D.2.2.led = true)
theorem SetT.at {P : Program} {w : World} {h h' : Heap} {a : Addr} {l : List Str} (R : SetT P w h a l) (k : ∀ o, h.get? a = some o → h'.get? a = some o) : SetT P w h' a l := by
  obtain ⟨D, ho, r⟩ := R
  exact ⟨D, k _ ho, r⟩
def addL (k : Str) (l : List Str) : List Str := if k ∈ l then l else k :: l
theorem addL_len (k : Str) (l : List Str) : (addL k l).length ≤ l.length + 1 := by unfold addL; split <;> simp
abbrev setNew (w : World) : Obj := { cls := .type "set", dict := none, data := .set #[] 0 (.fresh 0 0 (!w.params.followText "set-order")) }
theorem setT_nil {P : Program} {w : World} {h : Heap} {a : Addr} (ho : h.get? a = some (setNew w)) : SetT P w h a [] :=
  ⟨(#[], 0, .fresh 0 0 (!w.params.followText "set-order")), ho, TxOk.nil (by rfl), .nil, fun e he => by simp at he, List.Pairwise.nil, by
    show _ ∨ (!w.params.followText "set-order") = true
    cases w.params.followText "set-order"
    · exact .inr rfl
    · exact .inl rfl⟩
section
variable {P : Program} {w : World} {A : Around} {E : Value → Shared → Prop} {s : Shared} {a : Addr} {l : List Str}
theorem setT_hashed {k : Str} {u : Tok} {Q : Bool → Shared → Prop} (R : SetT P w s.heap a l) (room : l.length + 1 < scanBound)
    (hQ : ∀ b h', Heap.SameBut a s.heap h' → SetT P w h' a (addL k l) → Q b { s with heap := h' }) : wpAny (model P w) A (setAddHashed a (.str k u) (hashStr w k)) Q E s := by
  obtain ⟨D, ho, F, pm, st, ri, ld⟩ := R
  by_cases hk : k ∈ l
  · have el : addL k l = l := if_pos hk
    obtain ⟨es, ep, t⟩ := D
    have hd : (sObj "set" (es, ep, t)).data = .set es ep t := rfl
    have hz : es.size = l.length := F.sz
    have hb0 : es.size < scanBound := by omega
    have hel : ElemsOf (strKind P w) es.toList := F.el
    have hft : t.fits es.size = true := F.fit
    have hkey : (strKind P w).is k (.str k u) = true := is_str k u
    unfold setAddHashed setAddHashedIn
    refine wpAny_holding (wpAny_bind (wpAny_setState_of ho hd hft ?_))
    dsimp only
    rw [byScan_of rfl hb0 hel]
    simp only [↓reduceIte]
    unfold setAddByScan
    refine wpAny_bind (wpAny_bind (wpAny_rule (wpAny_bind (wpAny_setScan_of (knd := strKind P w) (k := k) hkey ho hd hft hel ?_))))
    cases hf : List.findIdx? (fun e => (strKind P w).is k e.2) es.toList with
    | none =>
      obtain ⟨e, he, q⟩ := (F.mem k).mp hk
      have c := List.findIdx?_eq_none_iff.mp hf e he
      rw [q] at c; cases c
    | some j =>
      dsimp only
      exact wpAny_pure (wpAny_pure (hQ _ s.heap (Heap.SameBut.refl a s.heap) (by rw [el]; exact ⟨(es, ep, t), ho, F, pm, st, ri, ld⟩)))
  · have el : addL k l = k :: l := if_neg hk
    refine add_x ho F hk room (hQ true _ (Heap.SameBut.update s.heap a _) ?_)
    rw [el]
    have pa := addTx_perm (hashStr w k) (.str k u) D
    refine ⟨addTx (hashStr w k) (.str k u) D, get_upd _ ho rfl, add_ok u F, ?_, fun e he => ?_, addTx_ris _ _ _ ri, ld.imp id fun z => by rw [addTx_led]; exact z⟩
    · refine (pa.map _).trans ?_
      rw [List.map_append]
      exact (List.perm_append_singleton _ _).trans (pm.cons k)
    · rcases List.mem_append.mp (pa.mem_iff.mp he) with q | q
      · exact st e q
      · rw [List.mem_singleton.mp q]; exact ⟨k, u, rfl⟩
theorem SetT.typeIs (R : SetT P w s.heap a l) : s.TypeIs (.ref a) "set" := by
  obtain ⟨D, ho, _⟩ := R
  exact ⟨_, ho, rfl⟩
/-- found.add(k) -/
theorem setT_add {k : Str} {u : Tok} {Q : Value → Shared → Prop} (R : SetT P w s.heap a l) (room : l.length + 1 < scanBound)
    (hQ : ∀ h', Heap.SameBut a s.heap h' → SetT P w h' a (addL k l) → Q .none { s with heap := h', toks := s.toks + 1 }) : wpAny (model P w) A (call (.builtin "set.add") [.ref a, .str k u]) Q E s := by
  refine wpAny_call_entry F.slot_set_add R.typeIs F.entry_set_add ?_ (F.args_set_add_2 _ _)
  unfold Builtin.«set.add» Builtin.Frozenset.oneOther
  simp only [List.isEmpty_nil, bind_assoc]
  unfold Builtin.Frozenset.addrOf setAdd
  refine wpAny_bind (wpAny_pure ?_)
  try dsimp only
  refine wpAny_bind (wpAny_pure ?_)
  try dsimp only
  refine wpAny_bind (wpAny_holding (wpAny_bind ((strKind P w).pyHash (is_str k u) ?_)))
  refine setT_hashed (s := { s with toks := s.toks + 1 }) R room fun b h' sb r => ?_
  show wpAny _ _ (ret Value.none) _ _ _
  exact wpAny_pure ⟨_, rfl, hQ h' sb r⟩
/-- sorted(set) -/
theorem setT_sorted {Q : Value → Shared → Prop} (R : SetT P w s.heap a l) (hh : A.handled = none) (h64 : l.length < 64)
    (hQ : ∀ s' p (out : Array Value) (c : Nat) (ys : List Str), (∀ b o, s.heap.get? b = some o → s'.heap.get? b = some o) → s'.gens = s.gens → s'.os = s.os → s.heap.objs.size ≤ p →
      s'.heap.get? p = some (seqObj "list" out c) → StrsAre out.toList ys → ys.Perm l → sortedS ys = true → Q (.ref p) s') : wpAny (model P w) A (call (.builtin "sorted") [.ref a]) Q E s := by
  obtain ⟨D, ho, F, pm, st, ri, ld⟩ := R
  have hb : D.1.size < scanBound := Nat.lt_trans (by rw [F.sz]; exact h64) (by decide)
  refine Calls.call_function_entry kind_sorted plain_sorted entry_sorted (args_sorted1 _) ?_
  unfold Builtin.«sorted»
  refine wpAny_bind (m := checkCount "sorted" 1 1 _) (wpAny_pure ?_)
  refine wpAny_bind (collect_set (A := A.in1) hh ⟨_, ho, rfl, rfl⟩ F.fit hb ri ld fun s1 vs k1 hz g1 o1 pv => ?_)
  have hS : StrsAre vs (vs.map strOf) := strsAre_map vs fun v hv => by
    obtain ⟨e, he, q⟩ := List.mem_map.mp (pv.mem_iff.mp hv)
    rw [← q]; exact st e he
  have pz : (vs.map strOf).Perm l := by
    have q := pv.map strOf
    rw [List.map_map] at q
    exact q.trans pm
  have hvl : vs.length = l.length := by rw [← pz.length_eq, List.length_map]
  refine wpAny_bind (wpAny_newList ?_ (by rw [hvl, sizeLine_eq]; omega))
  have hoL : (s1.heap.push (seqObj "list" vs.toArray 0)).get? s1.heap.objs.size = some (seqObj "list" vs.toArray 0) := Heap.get?_push_size _ rfl
  refine wpAny_bind (wpAny_holding (wpAny_call_entry slot_list_sort ⟨_, hoL, rfl⟩ entry_list_sort
    (list_sort_treeK strKind_oneLt hoL hS.keysOf (fun v₁ v₂ rest e => keyKind_strs (by rw [← e]; exact hS)) (by rw [hvl]; exact h64) fun xs hp hs => ⟨_, rfl, ?_⟩) (args_list_sort _)))
  obtain ⟨ys, y1, y2, y3⟩ := sorted_out_str hS hp hs
  obtain ⟨c, hc⟩ := sortedHeap_at (vs := vs) (out := (arrOf xs).map (·.2)) hoL
  refine wpAny_pure ⟨_, rfl, hQ _ s1.heap.objs.size _ c ys (fun b u e => ?_) g1 o1 hz hc y1 (y2.trans pz) y3⟩
  have q := k1 b u e
  have hlt := Heap.lt_size q
  show (sortedHeap (s1.heap.push (seqObj "list" vs.toArray 0)) s1.heap.objs.size vs _).get? b = some u
  rw [sortedHeap_old (Nat.ne_of_lt hlt) (by rw [Heap.size_push]; exact Nat.lt_succ_of_lt hlt)]
  exact Heap.get?_push_of_some _ q
/-- the turns of set(..), one text after the other -/
def addAll : List Str → List Str → List Str
  | [], l => l
  | z :: zs, l => addAll zs (addL z l)
theorem addAll_len : ∀ (zs l : List Str), (addAll zs l).length ≤ zs.length + l.length
  | [], l => by simp [addAll]
  | z :: zs, l => by have := addAll_len zs (addL z l); have := addL_len z l; simp only [addAll, List.length_cons]; omega
theorem setT_loop {I : Addr} {fp wr : List Addr} {GG : Array GenState → Array GenState → Prop} {n : Nat} {Pv : Nat → Value → Prop} {St : Nat → Shared → Prop} {R : Result → Shared → Prop} (W : WalksS P w A.in1 I fp wr GG n Pv St) (a : Addr) (ha : a ∉ fp) (zs : List Str) (hn : n = zs.length)
    (hv : ∀ i v, Pv i v → ∃ z t, zs[i]? = some z ∧ v = .str z t) : ∀ (m i : Nat) (l : List Str) (s : Shared), n - i = m → i ≤ n → St i s → SetT P w s.heap a l → l.length + m + 1 < scanBound →
      (∀ s', Moved (a :: wr) GG s s' → SetT P w s'.heap a (addAll (zs.drop i) l) → R (.ok (.ret .none)) s') → codeAny (model P w) A (.builtin "set.update.loop" ⟨[.ref a, .ref I], []⟩) R s := by
  have aw : a ∉ wr := fun h => ha (W.sub _ h)
  have more : ∀ b ∈ wr, b ∈ a :: wr := fun b hb => List.mem_cons_of_mem _ hb
  intro m
  induction m with
  | zero =>
    intro i l s hm hi hst hS hb hR
    obtain rfl : i = n := by omega
    refine codeAny_builtin F.entry_set_update_loop ?_
    rw [Around.under_plainId F.plain_set_update_loop _]
    show wpAny _ A.in1 (pyNext (.ref I) >>= _) _ _ s
    refine wpAny_bind (W.done s _ _ hst fun s' mv => ?_)
    show wpAny _ A.in1 (ret Value.none) _ _ s'
    have e : zs.drop i = [] := List.drop_eq_nil_of_le (by omega)
    rw [e] at hR
    exact wpAny_pure (hR s' (mv.mono more) (hS.at fun o q => mv.heap a o aw q))
  | succ m ih =>
    intro i l s hm hi hst hS hb hR
    have hlt : i < n := by omega
    refine codeAny_builtin F.entry_set_update_loop ?_
    rw [Around.under_plainId F.plain_set_update_loop _]
    show wpAny _ A.in1 (pyNext (.ref I) >>= _) _ _ s
    refine wpAny_bind (W.item i s _ _ hlt hst fun v s' hp hst' mv => ?_)
    obtain ⟨z, t, hz, rfl⟩ := hv i v hp
    have hd : zs.drop i = z :: zs.drop (i + 1) := by
      have hl : i < zs.length := by omega
      rw [List.drop_eq_getElem_cons hl]
      rw [List.getElem?_eq_getElem hl] at hz
      rw [Option.some.inj hz]
    show wpAny _ A.in1 (holding [Value.str z t] (setAdd a (.str z t)) >>= _) _ _ s'
    refine wpAny_bind (wpAny_holding ?_)
    unfold setAdd
    refine wpAny_holding (wpAny_bind ((strKind P w).pyHash (is_str z t) ?_))
    refine setT_hashed (s := { s' with toks := s'.toks + 1 }) (hS.at fun o q => mv.heap a o aw q) (by omega) fun b h' sb hS2 => ?_
    have := addL_len z l
    refine wpAny_pure ⟨plainId_quiet F.plain_set_update_loop _, ih (i + 1) (addL z l) _ (by omega) hlt (W.frame _ s' _ _ hst' (Nat.le_succ _) fun b hb o e => ?_) hS2 (by omega) fun s'' mv2 hS3 => ?_⟩
    · exact (sb.2 b fun h => ha (h ▸ hb)).trans e
    · refine hR s'' (Moved.trans W.gtrans ((mv.mono more).then_heap (Nat.le_succ _) fun b o hb e => ?_) mv2) (by rw [hd]; exact hS3)
      exact (sb.2 b fun h => hb (by rw [h]; exact List.mem_cons_self)).trans e
set_option maxHeartbeats 3200000 in
/-- set(xs), xs a list of texts -/
theorem call_setT {b : Addr} {its : Array Value} {zs : List Str} {Q : Value → Shared → Prop} (hh : A.handled = none) (hb : s.heap.IsList b its) (hz : StrsAre its.toList zs) (hn : zs.length + 1 < scanBound)
    (h : ∀ (h' : Heap) (tk : Nat), SetT P w h' s.heap.objs.size (addAll zs []) → (∀ c o, s.heap.get? c = some o → h'.get? c = some o) → Q (.ref s.heap.objs.size) { s with heap := h', toks := tk }) :
    wpAny (model P w) A (call (.type "set") [.ref b]) Q E s := by
  have size_eq : its.size = zs.length := by have q := hz.length; rwa [Array.length_toList] at q
  have get_new : (s.heap.push (setNew w)).get? s.heap.objs.size = some (setNew w) := Heap.get?_push_size _ rfl
  have size_new : (s.heap.push (setNew w)).objs.size = s.heap.objs.size + 1 := Heap.size_push ..
  obtain ⟨mroC, mroT, hMro⟩ := F.called_set.mro
  have hMade := F.called_set.made
  have hSub := F.called_set.sub
  refine wpAny_call (codeAny_of_tree ?_)
  show wpAny _ _ (callAny (.type "set") _) _ _ _
  refine wpAny_pure ⟨Code.quiet_builtin _ (by decide +kernel), codeAny_builtin F.entry_type_call ?_⟩
  rw [Around.under_plain (weight_type_call_type "set" [.ref b] []) rfl]
  have hNot := F.called_set.notType
  have hCan := F.called_set.canCreate
  have hChk := F.typeCall_set_1 (.ref b)
  repeat (any_goals (first | assumption | wp_step))
  refine codeAny_mono (code_set_led1 (.ref b) (E := E) (Q₁ := fun ob s₁ => ob = .ref s.heap.objs.size ∧ s₁ = { s with heap := s.heap.push (setNew w) }) ⟨rfl, rfl⟩) fun r s₁ hr => ?_
  cases r with
  | error e => exact hr
  | ok fl =>
    cases fl with
    | next => exact hr.elim
    | brk => exact hr.elim
    | cont => exact hr.elim
    | ret ob =>
      obtain ⟨rfl, rfl⟩ := hr
      have tySet : Shared.TypeIs { s with heap := s.heap.push (setNew w) } (.ref s.heap.objs.size) "set" := ⟨_, get_new, rfl⟩
      have hLook := F.called_set.init.lookup
      have hBind := F.called_set.init.bind (.ref s.heap.objs.size)
      repeat (any_goals (first | assumption | wp_step))
      refine codeAny_mono (codeAny_call_builtin (R := wants (fun r s₂ => r = .none ∧ ∃ h' tk, s₂ = { s with heap := h', toks := tk } ∧ SetT P w h' s.heap.objs.size (addAll zs []) ∧ ∀ c o, s.heap.get? c = some o → h'.get? c = some o) E)
        F.called_set.init.plain F.entry_set_init (check_set_init_1 tySet ?_)) fun r₂ s₂ hr₂ => ?_
      · obtain ⟨⟨oc, od, ot, os⟩, getB, cB, nB, dB⟩ := hb
        simp only at cB dB
        subst cB dB
        have getB1 : (s.heap.push (setNew w)).get? b = some { cls := .type "list", dict := od, data := .seq its nB, slots := os } := Heap.get?_push_of_some _ getB
        have ns1 := F.sub_list_set
        have ns2 := F.sub_list_frozenset
        have nd : (Value.type "list" == Value.type "dict") = false := by decide
        have isB : (s.heap.push (setNew w)).IsList b its := ⟨_, getB1, rfl, nB, rfl⟩
        have ltB : b < s.heap.objs.size := Heap.lt_size getB
        unfold Builtin.«set.__init__» noKeywords Builtin.Frozenset.updateFrom
        generalize hIt : pyIter = theIter
        wp_walk
        subst hIt
        refine wpAny_pyIter_list isB ?_
        refine wpAny_bind (wpAny_runValue ?_)
        have hh3 : A.in1.in1.in1.handled = none := by simp [hh]
        have ne1 : b ≠ (s.heap.push (setNew w)).objs.size := by rw [size_new]; exact Nat.ne_of_lt (Nat.lt_succ_of_lt ltB)
        have out : s.heap.objs.size ∉ [(s.heap.push (setNew w)).objs.size, b] := by
          rw [size_new]
          simp only [List.mem_cons, List.not_mem_nil, or_false, not_or]
          exact ⟨Nat.ne_of_lt (Nat.lt_succ_self _), Nat.ne_of_gt ltB⟩
        refine setT_loop ((Walks.list hh3 _ b ne1 its).toS) s.heap.objs.size out zs size_eq (fun i v hv => ?_) (its.size - 0) 0 [] _ rfl (Nat.zero_le _) ⟨⟨_, Heap.get?_push_size _ rfl, rfl, rfl⟩, isB.push _⟩ (setT_nil (Heap.get?_push_of_some _ get_new)) (by simp; omega) fun s' mv hS => ?_
        · have hi : i < zs.length := by rw [← size_eq]; exact (Array.getElem?_eq_some_iff.mp hv).1
          obtain ⟨t, q⟩ := hz.get i zs[i] (List.getElem?_eq_getElem hi)
          rw [Array.getElem?_toList, hv] at q
          exact ⟨zs[i], t, List.getElem?_eq_getElem hi, Option.some.inj q⟩
        · obtain ⟨h', g2, d', tk', os'⟩ := s'
          obtain rfl : g2 = s.gens := mv.gens
          obtain rfl : d' = s.drawn := mv.drawn
          obtain rfl : os' = s.os := mv.os
          refine wpAny_pure ?_
          show wpAny _ _ (ret Value.none) _ _ _
          refine wpAny_pure ⟨rfl, h', tk', rfl, hS, fun c o q => ?_⟩
          have lt := Heap.lt_size q
          refine mv.heap c o ?_ (Heap.get?_push_of_some _ (Heap.get?_push_of_some _ q))
          simp only [List.mem_cons, List.not_mem_nil, or_false, not_or]
          exact ⟨Nat.ne_of_lt lt, by rw [size_new]; exact Nat.ne_of_lt (Nat.lt_succ_of_lt lt)⟩
      · cases r₂ with
        | error e => exact hr₂
        | ok fl₂ =>
          cases fl₂ with
          | next => exact hr₂.elim
          | brk => exact hr₂.elim
          | cont => exact hr₂.elim
          | ret r =>
            obtain ⟨rfl, h', tk, rfl, hS, hk⟩ := hr₂
            repeat (any_goals (first | assumption | wp_step))
            exact h _ _ hS hk
end
end Oz
set_option Elab.async false
set_option linter.all false
set_option maxRecDepth 100000
set_option maxHeartbeats 4000000
set_option autoImplicit false
/-! Oz: {.. for .. for ..} of texts. -/
namespace Oz
open PySem L2 PyProof.Rows PySem.Froz

/-! ### a set as a tracked thing -/
def SetTO (P : Program) (w : World) (a : Addr) (l : List Str) : HO := .ext fun h => SetT P w h a l
theorem setTO_new {P : Program} {w : World} {H : Hp} {h : Heap} {a : Addr} {l : List Str} (R : SetT P w h a l) : ObjOk P w H h a (SetTO P w a l) := by
  have ⟨D, ho, _⟩ := R
  exact ⟨R, ⟨_, ho⟩, fun h1 h2 p k => SetT.at p k⟩
section
variable {X : Cx}
theorem setTO_get {pins : List (Addr × Obj)} {σ : L2.St} {H : Hp} {s : Shared} {a : Addr} {l : List Str} (I : Inv X pins σ H s) (ha : H a = some (SetTO X.prog X.w a l)) : SetT X.prog X.w s.heap a l := (I.hok a _ ha).1
theorem setTO_add {pins : List (Addr × Obj)} {σ : L2.St} {H : Hp} {s : Shared} {E : Value → Shared → Prop} {D : Addr} {l : List Str} {z : Str} {t : Tok} {Q : Value → Shared → Prop} (I : Inv X pins σ H s) (hD : H D = some (SetTO X.prog X.w D l)) (room : l.length + 1 < scanBound)
    (h : ∀ s', Inv X pins σ (upd H D (SetTO X.prog X.w D (addL z l))) s' → Q .none s') : wpAny (model X.prog X.w) X.A (call (.builtin "set.add") [.ref D, .str z t]) Q E s := by
  refine setT_add (setTO_get I hD) room fun h' sb new => ?_
  have he : ∃ u, h'.get? D = some u := by
    have ⟨o, ho, _⟩ := new
    exact ⟨_, ho⟩
  exact h _ (I.write (e := D) (t' := s.toks + 1) (by rw [hD]; trivial) (.inl rfl) (fun b u hb hu => (sb.2 b hb).trans hu) he (setTO_new new))
/-- set(xs) -/
def rSetT (X : Cx) : List V → Hp → VK → Prop := fun xs H Q => ∃ (b : Addr) (zs : List Str), xs = [.ref b] ∧ SqL X.K H b (zs.map V.str) ∧ zs.length + 1 < scanBound ∧ ∀ p, H p = none → Q (.ref p) (upd H p (SetTO X.prog X.w p (addAll zs [])))
theorem cr_setT (hc : X.calm = true) : CallR X (.type "set") (rSetT X) := by
  intro pins s σ H xs us Q I r h
  obtain ⟨b, zs, rfl, hs, hn, q⟩ := h
  obtain ⟨its, rv, hl, _⟩ := I.list hs
  rw [Vals.ref1 r]
  refine call_setT (I.ok.hd hc) hl.isList (by simpa using rv.strs) hn fun h' tk hS hk => ?_
  exact ⟨.ref _, upd H s.heap.objs.size (SetTO X.prog X.w s.heap.objs.size (addAll zs [])), I.laid (t' := tk) hk (Nat.le_refl _) (setTO_new hS), rfl, q _ (I.hok.fresh (Nat.le_refl _))⟩
/-- sorted(a set) -/
def rSortT (X : Cx) : List V → Hp → VK → Prop := fun xs H Q => ∃ (a : Addr) (l : List Str), xs = [.ref a] ∧ H a = some (SetTO X.prog X.w a l) ∧ l.length < 64 ∧ ∀ ys p, ys.Perm l → sortedS ys = true → H p = none → Q (.ref p) (upd H p (.lst (ys.map V.str)))
theorem cr_sortT (hc : X.calm = true) : CallR X (.builtin "sorted") (rSortT X) := by
  intro pins s σ H xs us Q I r h
  obtain ⟨a, l, rfl, ha, h64, q⟩ := h
  rw [Vals.ref1 r]
  refine setT_sorted (setTO_get I ha) (I.ok.hd hc) h64 fun s' p out c ys k g o hp hg hS hy hs => ?_
  have hz : (ys.map V.str).length ≤ sizeLine := by rw [List.length_map, hy.length_eq]; exact small64 h64
  have new : ObjOk X.prog X.w (upd H p (.lst (ys.map V.str))) s'.heap p (.lst (ys.map V.str)) := ⟨hz, out.toList, c, vals_of_strs hS, hg⟩
  exact ⟨.ref p, _, I.call' (ch := []) o (Un.laid k hp (I.hok.fresh hp)) (I.hok.laid k hp new) (by rw [g]; exact I.bare) (fun _ z => nomatch z), rfl, q ys p hy hs (I.hok.fresh hp)⟩
end

/-! ### the loop of a clause -/
section
variable {X : Cx} {elt : Expr} {gens : List Comprehension} {scope : Scope} {pos ip : Pos} {j : Nat} {tg : Expr} {ifs : List Expr} {it : Addr} {acc : Value} {J : It} {fp : List Addr} {tn : Nat → Heap → Prop} {pins : List (Addr × Obj)} {s : Shared} {σ : L2.St} {H : Hp} {g : TG} {tt : TT}
theorem cl_loop (hxe : ∀ e s, X.xe e s → False) (hc : X.calm = true) (body : Sem PySem.Fin) (tbody : L2.St → Hp → (L2.St → Hp → Prop) → Prop) (Dn : L2.St → Hp → Prop)
    (heq : compTurn (.SetComp elt gens scope pos) j (.ref it) acc X.env = (do
      standAt ip
      match ← pyNext (.ref it) with
      | none => pure (.done .next)
      | some v =>
        letOwnedTupleGo tg (.ref it) v
        assign tg X.env v
        let ok ← forIn ifs true fun c r => if r = true then do let ok ← isTrue c X.env (eval c X.env); pure (ForInStep.yield ok) else pure (ForInStep.yield r)
        if ok = true then body else again (.compLoop (.SetComp elt gens scope pos) j (.ref it) acc X.env)))
    (T : Turn X.prog X.w X.K tg J fp it tn) (hg : PG X tg g) (ht : PTs X ifs tt)
    (hb : ∀ pins' s' σ' H' N, Inv X (pins ++ pins') σ' H' s' → tbody σ' H' N → wpAny (model X.prog X.w) X.A body (fun r s2 => r = .again (.compLoop (.SetComp elt gens scope pos) j (.ref it) acc X.env) ∧ ∃ σ2 H2, Inv X (pins ++ pins') σ2 H2 s2 ∧ N σ2 H2) (fun _ _ => False) s')
    (I0 : Inv X pins σ H s) (st0 : tn 0 s.heap) (f0 : ∀ b ∈ fp, FpOk X pins H b) (Wv : Nat → Nat → L2.St → Hp → Prop) (m0 : Nat) (w0 : Wv 0 m0 σ H)
    (turn : ∀ i m σ H, Wv i m σ H → (J.stop i H ∧ Dn σ H) ∨ (J.go i H ∧ ∃ N : L2.St → Hp → Prop, (∀ σ' H', N σ' H' → ∃ m', m' < m ∧ Wv (i + 1) m' σ' H') ∧ ∀ x H', J.yld i H x H' → g x σ H' fun σ2 H2 => tt σ2 H2 fun b H3 => if b = true then tbody σ2 H3 N else N σ2 H3)) :
    codeAny (model X.prog X.w) X.A (.compLoop (.SetComp elt gens scope pos) j (.ref it) acc X.env) (fun r s' => match r with | .ok _ => ∃ σ' H', Inv X pins σ' H' s' ∧ (∀ b ∈ fp, H' b = none) ∧ Dn σ' H' | .error _ => False) s := by
  have stat : ∀ {H' : Hp}, (∀ b ∈ fp, H' b = none) → ∀ b ∈ fp, FpOk X pins H' b := fun hn b hb => ⟨hn b hb, (f0 b hb).2⟩
  refine codeAny_loop rfl (fun n s' => ∃ i σ' H', Inv X pins σ' H' s' ∧ tn i s'.heap ∧ (∀ b ∈ fp, H' b = none) ∧ Wv i n σ' H') ?_ m0 ⟨0, σ, H, I0, st0, fun b hb => (f0 b hb).1, w0⟩
  rintro n s3 ⟨i, σ3, H3, I3, st3, fr3, w3⟩
  show wpAny _ X.A ((compTurn (.SetComp elt gens scope pos) j (.ref it) acc X.env).onRaise (fun x => do noteFrame x X.env; theTreesLotGoes x)) _ _ s3
  refine wpAny_noted ?_
  rw [heq]
  refine wpAny_bind (wpAny_standAt (wpAny_bind ?_))
  rcases turn i n σ3 H3 w3 with ⟨stop, qn⟩ | ⟨go, N, hN, step⟩
  · refine thnF (T.done X rfl rfl rfl hc i pins s3 σ3 H3 _ I3 (stat fr3) st3 stop) fun r s4 ⟨hr, I4⟩ => ?_
    subst hr
    exact wpAny_pure ⟨σ3, H3, I4, fr3, qn⟩
  · refine thnF (T.item X rfl rfl rfl hc i pins s3 σ3 H3 _ I3 (stat fr3) st3 go) fun r s4 ⟨u, hr, h4⟩ => ?_
    subst hr
    refine wpAny_bind (thnF h4 fun _ s5 ⟨x, H5, I5, r5, y5, st5, fr5⟩ => ?_)
    have I5' := I5.pinned (stat fr5) (T.obj _ _ st5)
    have off : ∀ {α : Type} {m : Sem α} {Q Q' : α → Shared → Prop} {E : Value → Shared → Prop} {s : Shared}, wpAny (model X.prog X.w) X.A m Q X.xe s → (∀ a s, Q a s → Q' a s) → wpAny (model X.prog X.w) X.A m Q' E s := fun h k => wpAny_mono h k fun e s z => (hxe e s z).elim
    refine wpAny_bind (off (hg.run _ s5 σ3 H5 x u _ I5' r5 (step x H5 y5)) fun _ s6 ⟨σ6, H6, I6, q6⟩ => ?_)
    refine wpAny_bind (off (ht.run _ s6 σ6 H6 _ I6 q6) fun b s7 ⟨H7, I7, q7⟩ => ?_)
    have more : ∀ {σ7 : L2.St} {H7 : Hp} {s7 : Shared}, Inv X (pins ++ pinsAt fp s5.heap) σ7 H7 s7 → N σ7 H7 → ∃ m, m < n ∧ ∃ i σ' H', Inv X pins σ' H' s7 ∧ tn i s7.heap ∧ (∀ b ∈ fp, H' b = none) ∧ Wv i m σ' H' := fun {σ7 H7 s7} I7 n7 => by
      obtain ⟨m', hm, w7⟩ := hN σ7 H7 n7
      have pin : ∀ b ∈ fp, ∀ o, s5.heap.get? b = some o → s7.heap.get? b = some o ∧ H7 b = none := fun b hb o e => by
        have z := I7.pin (b, o) (List.mem_append_right _ (List.mem_append_right _ (mem_pinsAt hb e)))
        exact ⟨z.1, z.2.1⟩
      refine ⟨m', hm, i + 1, σ7, H7, I7.unpinned, T.keep _ _ _ st5 fun b hb o e => (pin b hb o e).1, fun b hb => ?_, w7⟩
      obtain ⟨o, e, _⟩ := T.obj _ _ st5 b hb
      exact (pin b hb o e).2
    cases b with
    | false =>
      simp only [Bool.false_eq_true, if_false] at q7 ⊢
      exact wpAny_pure ⟨rfl, more I7 q7⟩
    | true =>
      simp only [if_true] at q7 ⊢
      refine thnF (hb _ s7 σ6 H7 N I7 q7) fun r s8 ⟨hr, σ8, H8, I8, n8⟩ => ?_
      subst hr
      exact ⟨rfl, more I8 n8⟩
end

/-! ### two clauses -/
theorem compS_same {step : Vl → Hs → Res (List Str)} {lk : List Lk} : ∀ {xs : List Vl} {S T : Hs} {zs : List Str}, compS step lk xs S = .ok zs T → T = S
  | [], S, T, zs, h => by
    simp only [compS] at h
    split at h
    · cases h; rfl
    · cases h
  | x :: xs, S, T, zs, h => by
    simp only [compS] at h
    split at h
    · split at h
      · rename_i ys T' _
        split at h
        · cases e : compS step lk xs S with
          | ok ws U =>
            rw [e] at h
            cases h
            exact compS_same e
          | exc x U => rw [e] at h; cases h
          | bad => rw [e] at h; cases h
        · cases h
      · cases h
    · cases h
theorem compS_no {step : Vl → Hs → Res (List Str)} {lk : List Lk} : ∀ {xs : List Vl} {S T : Hs} {x : Xc}, compS step lk xs S ≠ .exc x T
  | [], S, T, x, h => by
    simp only [compS] at h
    split at h <;> cases h
  | x :: xs, S, T, z, h => by
    simp only [compS] at h
    split at h
    · split at h
      · split at h
        · cases e : compS step lk xs S with
          | ok ws U => rw [e] at h; cases h
          | exc x U => exact compS_no e
          | bad => rw [e] at h; cases h
        · cases h
      · cases h
    · cases h
theorem compS_nil {step : Vl → Hs → Res (List Str)} {lk : List Lk} {S T : Hs} {zs : List Str} (h : compS step lk [] S = .ok zs T) : lockd lk S ∧ zs = [] := by
  simp only [compS] at h
  split at h
  · rename_i l; cases h; exact ⟨l, rfl⟩
  · cases h
theorem compS_cons {step : Vl → Hs → Res (List Str)} {lk : List Lk} {x : Vl} {xs : List Vl} {S T : Hs} {zs : List Str} (h : compS step lk (x :: xs) S = .ok zs T) : lockd lk S ∧ ∃ ys rest, step x S = .ok ys S ∧ compS step lk xs S = .ok rest S ∧ zs = ys ++ rest := by
  simp only [compS] at h
  split at h
  · rename_i l
    split at h
    · rename_i ys T' es
      split at h
      · rename_i eT
        subst eT
        cases e : compS step lk xs T' with
        | ok ws U =>
          rw [e] at h
          obtain rfl := compS_same e
          cases h
          exact ⟨l, ys, ws, es, rfl, rfl⟩
        | exc x U => rw [e] at h; cases h
        | bad => rw [e] at h; cases h
      · cases h
    · cases h
  · cases h
theorem addAll_app : ∀ (xs ys l : List Str), addAll (xs ++ ys) l = addAll ys (addAll xs l)
  | [], _, _ => rfl
  | x :: xs, ys, l => by simp only [List.cons_append, addAll, addAll_app xs ys]
section
variable {G : Glb} {ρ ρ' : List Addr} {H H' : Hp} {S : Hs} {D : Addr} {φ : Heap → Prop} {o : HO}
theorem Step.offD (a : Step ρ H ρ' H') (hD : H D = none) : Step ρ H ρ' (upd H' D o) := ⟨a.pre, fun b u h n => by
  rw [upd_ne fun e => by subst e; rw [hD] at h; cases h]; exact a.keep b u h n, a.new⟩
theorem updX (hn : D ∉ ρ) (hD : H D = some (.ext φ)) {ψ : Heap → Prop} : StepX ρ H ρ (upd H D (.ext ψ)) := ⟨List.prefix_refl _, fun b u h n e => by
    by_cases q : b = D
    · subst q; rw [hD] at h; cases h; exact (e _ rfl).elim
    · rw [upd_ne q]; exact h, fun b χ h n => by
    by_cases q : b = D
    · subst q; exact ⟨ψ, upd_same⟩
    · exact ⟨χ, by rw [upd_ne q]; exact h⟩, fun b hb => .inl hb⟩
theorem Sim.offD (s : Sim G ρ H S) (hn : D ∉ ρ) (hD : H D = some (.ext φ)) {ψ : Heap → Prop} : Sim G ρ (upd H D (.ext ψ)) S := ⟨s.len, s.nd, fun r o a h1 h2 => by
  have st := updX (ψ := ψ) hn hD
  have k := s.at_ r o a h1 h2
  have ne : a ≠ D := fun e => hn (by subst e; exact List.mem_of_getElem? h2)
  cases o with
  | lst xs => obtain ⟨vs, h1, h2⟩ := k; exact ⟨vs, by rw [upd_ne ne]; exact h1, VRs.stepX st _ _ h2⟩
  | dct ks xs => obtain ⟨vs, h1, h2, h3⟩ := k; exact ⟨vs, by rw [upd_ne ne]; exact h1, h2, VRs.stepX st _ _ h3⟩
  | ins c ns xs => obtain ⟨dx, vs, h1, h2, h3⟩ := k; exact ⟨dx, vs, by rw [upd_ne ne]; exact h1, h2, VRs.stepX st _ _ h3⟩⟩
theorem wipeG_len {η : Sg} : ∀ {vs : List Nat}, (wipeG η vs).length = η.length
  | [] => rfl
  | v :: vs => by unfold wipeG; rw [List.length_set, wipeG_len]
theorem wipeG_some {η : Sg} {i : Nat} {x : Vl} : ∀ {vs : List Nat}, (wipeG η vs)[i]? = some (some x) → η[i]? = some (some x) ∧ i ∉ vs
  | [], h => ⟨h, by simp⟩
  | v :: vs, h => by
    unfold wipeG at h
    rw [List.getElem?_set] at h
    split at h
    · split at h <;> simp at h
    · rename_i ne
      obtain ⟨h1, h2⟩ := wipeG_some h
      exact ⟨h1, by simp [h2, Ne.symm ne]⟩
theorem ER.low {η : Sg} {σ : L2.St} (h : ER G ρ H η σ) (vs : List Nat) : ER G ρ H (wipeG η vs) σ := ⟨by rw [wipeG_len]; exact h.len, fun i x e => h.at_ i x (wipeG_some e).1⟩
theorem ER.off {η : Sg} {σ σ' : L2.St} {is vs : List Nat} (h : ER G ρ H (wipeG η vs) σ) (f : Off is σ σ') (hs : ∀ i ∈ is, i ∈ vs) : ER G ρ H (wipeG η vs) σ' := ⟨by rw [h.len]; exact f.1.symm, fun i x e => by
  rw [f.2 i fun z => (wipeG_some e).2 (hs i z)]
  exact h.at_ i x e⟩
end
section
variable {G : Glb} {M : Mach} {W : WX} {X : Cx} {k : Nat} {elt tg iter tg1 iter1 : Expr} {ifs ifs1 : List Expr} {scope : Scope} {own : List (Str × Nat)} {vs1 : List Nat} {pos : Pos} {ce : E} {t t1 : Tg} {src src1 : Src} {ci ci1 : Es}
/-- the turns of the second clause -/
noncomputable def sc2in (M : Mach) (ce : E) (vs1 : List Nat) (t1 : Tg) (ci1 : Es) (η1 : Sg) (y : Vl) (S5 : Hs) : Res (List Str) := match bindT t1 y (wipeG η1 vs1) with
  | none => .bad
  | some η2 => (evAll M ci1 η2 S5).bind fun b1 S6 => if b1 = true then (ev M ce η2 S6).bind fun y S7 => match y with
      | .str z => .ok [z] S7
      | _ => .bad
    else .ok [] S6
/-- the turns of the first clause -/
noncomputable def sc2step (M : Mach) (own : List Nat) (ce : E) (t : Tg) (ci : Es) (vs1 : List Nat) (t1 : Tg) (src1 : Src) (ci1 : Es) (η : Sg) (x : Vl) (S2 : Hs) : Res (List Str) := match bindT t x (wipeG η own) with
  | none => .bad
  | some η1 => (evAll M ci η1 S2).bind fun b S3 => if b = true then (evS M src1 η1 S3).bind fun p1 S4 => compS (sc2in M ce vs1 t1 ci1 η1) p1.1 p1.2 S4
    else .ok [] S3
def tSC (G : Glb) (M : Mach) (W : WX) (P : Program) (w : World) (own : List Nat) (ce : E) (t : Tg) (src : Src) (ci : Es) (vs1 : List Nat) (t1 : Tg) (src1 : Src) (ci1 : Es) : TE := fun σ H Q => ∃ ρ η S, Sim G ρ H S ∧ ER G ρ H η σ ∧
  PR G W σ ρ H ((evS M src η S).bind fun p S1 => (compS (sc2step M own ce t ci vs1 t1 src1 ci1 η) p.1 p.2 S1).bind fun zs S2 => .ok zs S2) fun ρ' H' zs _ => zs.length < 64 ∧ ∀ p, H p = none → p ∉ ρ' → H' p = some (SetTO P w p (addAll zs [])) → Q (.ref p) H'
theorem set_start {X : Cx} {elt : Expr} {gens : List Comprehension} {pos : Pos} {j : Nat} {gt gi : Expr} {gf : List Expr} {it acc : Value} {env : Env} {A : Around} {R : Result → Shared → Prop} {s : Shared} (hg : gens[j]? = some ⟨gt, gi, gf, 0⟩)
    (h0 : codeAny (model X.prog X.w) A (.compLoop (.SetComp elt gens scope pos) j it acc env) R s)
    (h : ∀ E, wpAny (model X.prog X.w) A (pyIter it) (fun it' s' => codeAny (model X.prog X.w) A (.compLoop (.SetComp elt gens scope pos) j it' acc env) R s') E s) :
    codeAny (model X.prog X.w) A (.compStart (.SetComp elt gens scope pos) j it acc env) R s := by
  refine codeAny_of_tree ?_
  show wpAny _ _ ((compStart (.SetComp elt gens scope pos) j it acc env).onRaise (fun x => do noteFrame x env; standAt theWindowsPlace)) _ _ s
  refine wpAny_notedAt ?_
  unfold compStart
  have e : (clausesOf (.SetComp elt gens scope pos))[j]? = some ⟨gt, gi, gf, 0⟩ := hg
  rw [e]
  show wpAny _ _ (ask >>= _) _ _ s
  refine wpAny_bind (wpAny_askSetting (wpAny_ite ?_))
  split
  · first
      | exact wpAny_bind (wpAny_pure (wpAny_pure (And.intro rfl h0)))
      | exact wpAny_pure (And.intro rfl h0)
  · first
      | exact wpAny_bind (wpAny_rule (wpAny_bind (wpAny_standAt (wpAny_bind (wpAny_mono (h _) (fun it' s' h' => wpAny_pure (And.intro rfl h')) fun _ _ x => x)))))
      | (refine wpAny_bind (wpAny_rule ?_); show wpAny _ _ (standAt gi.pos >>= _) _ _ s; exact wpAny_bind (wpAny_standAt (wpAny_bind (wpAny_mono (h _) (fun it' s' h' => wpAny_pure (And.intro rfl h')) fun _ _ x => x))))
end
end Oz
set_option Elab.async false
set_option linter.all false
set_option maxRecDepth 100000
set_option maxHeartbeats 4000000
set_option autoImplicit false
/-! Oz: sorted({.. for .. for ..}), sorted(set(..)), sorted(..). -/
namespace Oz
open PySem L2 PyProof.Rows PySem.Froz

section
variable {G : Glb} {M : Mach} {W : WX} {X : Cx} {k : Nat} {elt tg iter tg1 iter1 : Expr} {ifs ifs1 : List Expr} {scope : Scope} {own : List (Str × Nat)} {vs1 : List Nat} {pos : Pos} {ce : E} {t t1 : Tg} {src src1 : Src} {ci ci1 : Es}
theorem pe_sc2 (g : Good G k X) (hsl : ∀ i ∈ t.slots, i ∈ own.map (·.2)) (hsl1 : ∀ i ∈ t1.slots, i ∈ vs1) (hv : ∀ i ∈ vs1, i ∈ own.map (·.2)) (hi : PI X tg iter (tS G M W src)) (ok : BlkOk X.N X.env.scope scope own)
    (hg : ∀ (s : Shared) (H : Hp) (C : Addr) (cl : List (Str × Addr)) (fp : List Addr), PG (X.blk s H scope (compEnvC scope cl C X.env) fp) tg (tG G t)) (ht : ∀ (s : Shared) (H : Hp) (C : Addr) (cl : List (Str × Addr)) (fp : List Addr), PTs (X.blk s H scope (compEnvC scope cl C X.env) fp) ifs (tAll G M WF ci))
    (hi1 : ∀ (s : Shared) (H : Hp) (C : Addr) (cl : List (Str × Addr)) (fp : List Addr), PI (X.blk s H scope (compEnvC scope cl C X.env) fp) tg1 iter1 (tS G M WF src1))
    (hg1 : ∀ (s : Shared) (H : Hp) (C : Addr) (cl : List (Str × Addr)) (fp : List Addr), PG (X.blk s H scope (compEnvC scope cl C X.env) fp) tg1 (tG G t1)) (ht1 : ∀ (s : Shared) (H : Hp) (C : Addr) (cl : List (Str × Addr)) (fp : List Addr), PTs (X.blk s H scope (compEnvC scope cl C X.env) fp) ifs1 (tAll G M WF ci1))
    (he : ∀ (s : Shared) (H : Hp) (C : Addr) (cl : List (Str × Addr)) (fp : List Addr), PE (X.blk s H scope (compEnvC scope cl C X.env) fp) elt (tE G M WF ce)) (hs : ∀ x, foldedSetIterable iter X.env x = pure x := by intro _; rfl) (hs1 : ∀ env x, foldedSetIterable iter1 env x = pure x := by intro _ _; rfl) :
    PE X (.SetComp elt [⟨tg, iter, ifs, 0⟩, ⟨tg1, iter1, ifs1, 0⟩] scope pos) (tSC G M W X.prog X.w (own.map (·.2)) ce t src ci vs1 t1 src1 ci1) := by
  refine ⟨fun pins s σ H Q I ⟨ρ, η, S, s0, er0, h⟩ => ?_⟩
  have hfree : ∀ y ∈ scope.names, y.2 = .free → ∃ c, X.env.cells.lookup y.1 = some c := fun y hy e => (ok.free y hy e).elim (fun z => I.ok.has _ (.inl z)) fun z => I.ok.has _ (.inr z)
  show wpAny _ _ (comprehension (.SetComp elt [⟨tg, iter, ifs, 0⟩, ⟨tg1, iter1, ifs1, 0⟩] scope pos) scope X.env (firstIterPos [⟨tg, iter, ifs, 0⟩, ⟨tg1, iter1, ifs1, 0⟩] pos) (newSet (.type "set")) false (eval iter X.env)) _ _ _
  generalize hstep : sc2step M (own.map (·.2)) ce t ci vs1 t1 src1 ci1 η = step at h
  -- what the source tells
  have hsrc : tS G M W src σ H fun J H1 => ∃ ρ1 S1 lk xs zs, Step ρ H ρ1 H1 ∧ Sim G ρ1 H1 S1 ∧ JW G J ρ1 H1 lk xs ∧ compS step lk xs S1 = .ok zs S1 ∧ zs.length < 64 ∧ ∀ H' p, Step ρ1 H1 ρ1 H' → Sim G ρ1 H' S1 → H p = none → p ∉ ρ1 → H' p = some (SetTO X.prog X.w p (addAll zs [])) → Q (.ref p) H' := by
    refine ⟨ρ, η, S, s0, er0, (PR.bind h).mono fun ρ1 H1 p S1 st s1 h1 J jw => ?_⟩
    obtain ⟨lk, xs⟩ := p
    simp only at h1 jw
    cases e : compS step lk xs S1 with
    | ok zs T =>
      obtain rfl := compS_same e
      rw [e] at h1
      exact ⟨ρ1, T, lk, xs, zs, st, s1, jw, e, (h1.here s1).1, fun H' p a b => (h1 ρ1 H' a b).2 p⟩
    | exc x T => exact (compS_no e).elim
    | bad => rw [e] at h1; exact h1.elim
  refine wpAny_comprehension_free (use := none) rfl hs (closure_ok hfree) ok.kind (fun y hy e => by rw [ok.uniq y hy, e]) (thn (hi.run pins s σ H _ I hsrc) fun xv s1 hx => thn hx fun itv s2 h2 => ?_)
  obtain ⟨it, fp, tn, J, H2, rfl, I2, T, st2, f2, ρ1, S1, lk, xs, zs, stp, sim1, jw, hzs, h64, fin⟩ := h2
  refine PpSet.newSet_ok (newEnv_comp ?_)
  generalize hD : s2.heap.objs.size = D
  have hDn : H2 D = none := I2.hok.fresh (Nat.le_of_eq hD)
  have hDρ : D ∉ ρ1 := sim1.free hDn
  have hD0 : H D = none := none_of s0 sim1 stp hDn
  have get3 : (s2.heap.push (setNew X.w)).get? D = some (setNew X.w) := by rw [← hD]; exact Heap.get?_push_size _ rfl
  generalize hs3 : ({ s2 with heap := s2.heap.push (setNew X.w) } : Shared) = s3
  have heap3 : s3.heap = s2.heap.push (setNew X.w) := by rw [← hs3]
  have I3 : Inv X pins σ (upd H2 D (SetTO X.prog X.w D [])) s3 := by
    rw [← hs3]
    exact I2.laid (t' := s2.toks) (fun b o e => Heap.get?_push_of_some _ e) (Nat.le_of_eq hD) (setTO_new (setT_nil get3))
  have f3 : ∀ b ∈ fp, FpOk X pins (upd H2 D (SetTO X.prog X.w D [])) b ∧ b < s3.heap.objs.size := fun b hb => by
    obtain ⟨o, e, _⟩ := T.obj _ _ st2 b hb
    have lt := Heap.lt_size e
    refine ⟨⟨?_, (f2 b hb).2⟩, by rw [heap3, Heap.size_push]; exact Nat.lt_succ_of_lt lt⟩
    rw [upd_ne (by rw [← hD]; exact Nat.ne_of_lt lt)]
    exact (f2 b hb).1
  have st3 : tn 0 s3.heap := T.keep _ _ _ st2 fun b _ o e => by rw [heap3]; exact Heap.get?_push_of_some _ e
  have I4 := block_start I3 ok g.nd f3
  generalize hH3 : upd H2 D (SetTO X.prog X.w D []) = H3 at I3 I4 f3
  generalize hcl : cellsFrom (s3.heap.objs.size + 1) scope.names (cloFrom X.env.cells scope.names []) = cl at I4
  have pg := hg s3 H3 s3.heap.objs.size cl fp
  have pt := ht s3 H3 s3.heap.objs.size cl fp
  have pe := he s3 H3 s3.heap.objs.size cl fp
  have pi1 := hi1 s3 H3 s3.heap.objs.size cl fp
  have pg1 := hg1 s3 H3 s3.heap.objs.size cl fp
  have pt1 := ht1 s3 H3 s3.heap.objs.size cl fp
  show codeAny _ _ (.compStart (.SetComp elt [⟨tg, iter, ifs, 0⟩, ⟨tg1, iter1, ifs1, 0⟩] scope pos) 0 (.ref it) (.ref D) (compEnvC scope cl s3.heap.objs.size X.env)) (compPost (model X.prog X.w) X.A X.xe none (EP X pins σ Q) (.ref D) s3.heap.objs.size) { s3 with heap := pushCells (s3.heap.push { cls := .type "dict", data := .dict #[] }) scope.names }
  generalize hce : compEnvC scope cl s3.heap.objs.size X.env = ce' at I4 pg pt pe pi1 pg1 pt1 ⊢
  have cL : ce'.locals = s3.heap.objs.size := by subst hce; rfl
  generalize hs4 : ({ s3 with heap := pushCells (s3.heap.push { cls := .type "dict", data := .dict #[] }) scope.names } : Shared) = s4 at I4 ⊢
  have st4 : tn 0 s4.heap := T.keep _ _ _ st3 fun b _ o e => by rw [← hs4]; exact pushCells_keeps _ _ _ _ (Heap.get?_push_of_some _ e)
  have f4 : ∀ b ∈ fp, FpOk (X.blk s3 H3 scope ce' fp) [] H3 b := fun b hb => ⟨(f3 b hb).1.1, (I4.ok.exf b hb).1, I4.ok.exfs b hb, .inl hb, fun x c e => (I4.ok.exf b hb).2 x c e, fun p hp => absurd (show p ∈ ([] : List (Addr × Obj)) ++ [] from hp) (by simp)⟩
  -- the outer invariant
  let Pv : Nat → L2.St → Hp → Prop := fun i σ' H' => ∃ done rest, done ++ rest = zs ∧ compS step lk (xs.drop i) S1 = .ok rest S1 ∧ Step ρ1 H2 ρ1 H' ∧ Sim G ρ1 H' S1 ∧ ER G ρ1 H' (wipeG η (own.map (·.2))) σ' ∧ H' D = some (SetTO X.prog X.w D (addAll done []))
  -- what one text more comes to
  let tb1 : L2.St → Hp → (L2.St → Hp → Prop) → Prop := fun σ5 H6 N => tE G M WF ce σ5 H6 fun y H7 => ∃ z l, y = .str z ∧ H7 D = some (SetTO X.prog X.w D l) ∧ l.length + 1 < scanBound ∧ N σ5 (upd H7 D (SetTO X.prog X.w D (addL z l)))
  let tb0 : L2.St → Hp → (L2.St → Hp → Prop) → Prop := fun σ4 H5 N => tS G M WF src1 σ4 H5 fun J1 H4 => ∃ (Wv1 : Nat → Nat → L2.St → Hp → Prop) (m1 : Nat), Wv1 0 m1 σ4 H4 ∧ ∀ j m σ H, Wv1 j m σ H →
    (J1.stop j H ∧ N σ H) ∨ (J1.go j H ∧ ∃ N1 : L2.St → Hp → Prop, (∀ σ' H', N1 σ' H' → ∃ m', m' < m ∧ Wv1 (j + 1) m' σ' H') ∧ ∀ x H', J1.yld j H x H' → tG G t1 x σ H' fun σ2 H2 => tAll G M WF ci1 σ2 H2 fun b H3 => if b = true then tb1 σ2 H3 N1 else N1 σ2 H3)
  have hroom : ∀ l : List Str, l.length ≤ zs.length → (addAll l []).length + 1 < scanBound := fun l hl => by
    have a := addAll_len l []
    have b : (65 : Nat) < scanBound := by decide
    simp only [List.length_nil, Nat.add_zero] at a
    omega
  have w0 : Pv 0 (wipe σ (own.map (·.2))) H3 := ⟨[], zs, rfl, by simpa using hzs, by rw [← hH3]; exact (Step.refl _ _).offD hDn, by rw [← hH3]; exact sim1.same (same_new hDn), by
    rw [← hH3]
    exact (((er0.step stp).step (stepSame (same_new hDn))).wipe _), by rw [← hH3]; exact upd_same⟩
  have turn : ∀ i m σ' H', (m = xs.length - i ∧ i ≤ xs.length ∧ Pv i σ' H') → (J.stop i H' ∧ Q (.ref D) H') ∨ (J.go i H' ∧ ∃ N : L2.St → Hp → Prop, (∀ σ2 H2, N σ2 H2 → ∃ m', m' < m ∧ (m' = xs.length - (i + 1) ∧ i + 1 ≤ xs.length ∧ Pv (i + 1) σ2 H2)) ∧ ∀ x H3, J.yld i H' x H3 → tG G t x σ' H3 fun σ2 H2 => tAll G M WF ci σ2 H2 fun b H3 => if b = true then tb0 σ2 H3 N else N σ2 H3) := by
    rintro i m σ' H' ⟨rfl, hil, done, rest, hdr, hc, stA, simA, erA, hDA⟩
    by_cases hl : i < xs.length
    · rw [List.drop_eq_getElem_cons hl] at hc
      obtain ⟨lkd, ys, rest', hst, hc', rfl⟩ := compS_cons hc
      obtain ⟨hgo, hy⟩ := jw.go ρ1 H' S1 i xs[i] stA.x simA lkd (by simp [hl])
      refine .inr ⟨hgo, Pv (i + 1), fun σ2 H2 a => ⟨xs.length - (i + 1), by omega, rfl, by omega, a⟩, fun x H3 y => ?_⟩
      obtain ⟨sm, hv3⟩ := hy x H3 y
      have st3' : Step ρ1 H' ρ1 H3 := stepSame sm
      have sim3 := simA.same sm
      have stB : Step ρ1 H2 ρ1 H3 := stA.trans st3'
      have hD3 : H3 D = some (SetTO X.prog X.w D (addAll done [])) := sm _ _ hDA
      have est : sc2step M (own.map (·.2)) ce t ci vs1 t1 src1 ci1 η xs[i] S1 = .ok ys S1 := by rw [hstep]; exact hst
      unfold sc2step at est
      cases eb : bindT t xs[i] (wipeG η (own.map (·.2))) with
      | none => rw [eb] at est; cases est
      | some η2 =>
        rw [eb] at est
        simp only at est
        refine ⟨ρ1, S1, wipeG η (own.map (·.2)), xs[i], η2, sim3, erA.step st3', hv3, eb, fun σ4 of4 er4 => ⟨ρ1, η2, S1, sim3, er4, ?_⟩⟩
        have erO : ER G ρ1 H3 (wipeG η (own.map (·.2))) σ4 := (erA.step st3').off of4 hsl
        cases ea : evAll M ci η2 S1 with
        | bad => rw [ea] at est; cases est
        | exc x S3 => rw [ea] at est; cases est
        | ok b S3 =>
          rw [ea] at est
          simp only [Res.bind] at est
          refine fun ρ5 H5 st5 s5 => ?_
          have hD5 : H5 D = some (SetTO X.prog X.w D (addAll done [])) := st5.keep _ _ hD3 hDρ
          cases b with
          | false =>
            simp only [Bool.false_eq_true, if_false] at est ⊢
            cases est
            have e5 : ρ5 = ρ1 := pre_eq st5.pre (by rw [s5.len, ← sim3.len])
            subst e5
            exact ⟨done, rest', by simpa using hdr, hc', stB.trans st5, s5, erO.step st5, hD5⟩
          | true =>
            simp only [if_true] at est ⊢
            refine ⟨ρ5, η2, S3, s5, er4.step st5, ?_⟩
            cases es1 : evS M src1 η2 S3 with
            | bad => rw [es1] at est; cases est
            | exc x S4 => rw [es1] at est; cases est
            | ok p S4 =>
              obtain ⟨lk1, xs1⟩ := p
              rw [es1] at est
              simp only [Res.bind] at est
              obtain rfl := compS_same est
              refine fun ρ7 H7 st7 s7 J1 jw1 => ?_
              have e7 : ρ7 = ρ1 := pre_eq (st5.trans st7).pre (by rw [s7.len, ← sim3.len])
              subst e7
              have hD7 : H7 D = some (SetTO X.prog X.w D (addAll done [])) := (st5.trans st7).keep _ _ hD3 hDρ
              have er7 := er4.step (st5.trans st7)
              have erO7 := erO.step (st5.trans st7)
              generalize hstep1 : sc2in M ce vs1 t1 ci1 η2 = step1 at est
              let Pv1 : Nat → L2.St → Hp → Prop := fun j σ' H' => ∃ ys1 ys2, ys1 ++ ys2 = ys ∧ compS step1 lk1 (xs1.drop j) S1 = .ok ys2 S1 ∧ Step ρ7 H2 ρ7 H' ∧ StepX ρ7 H7 ρ7 H' ∧ Sim G ρ7 H' S1 ∧ ER G ρ7 H' (wipeG η (own.map (·.2))) σ' ∧ ER G ρ7 H' (wipeG η2 vs1) σ' ∧ H' D = some (SetTO X.prog X.w D (addAll (done ++ ys1) []))
              refine ⟨fun j m σ' H' => m = xs1.length - j ∧ j ≤ xs1.length ∧ Pv1 j σ' H', xs1.length, ⟨by simp, Nat.zero_le _, [], ys, rfl, by simpa using est, (stB.trans st5).trans st7, (Step.refl _ _).x, s7, erO7, er7.low vs1, by simpa using hD7⟩, ?_⟩
              rintro j m σj Hj ⟨rfl, hjl, ys1, ys2, hyy, hcj, stJ, stX, simJ, erJ, erK, hDJ⟩
              by_cases hj : j < xs1.length
              · rw [List.drop_eq_getElem_cons hj] at hcj
                obtain ⟨lkd1, ws, rest1, hst1, hcj', rfl⟩ := compS_cons hcj
                obtain ⟨hgo1, hy1⟩ := jw1.go ρ7 Hj S1 j xs1[j] stX simJ lkd1 (by simp [hj])
                refine .inr ⟨hgo1, Pv1 (j + 1), fun σ2 H2 a => ⟨xs1.length - (j + 1), by omega, rfl, by omega, a⟩, fun x1 Hy y1 => ?_⟩
                obtain ⟨smy, hvy⟩ := hy1 x1 Hy y1
                have sty : Step ρ7 Hj ρ7 Hy := stepSame smy
                have simy := simJ.same smy
                have hDy : Hy D = some (SetTO X.prog X.w D (addAll (done ++ ys1) [])) := smy _ _ hDJ
                rw [← hstep1] at hst1
                unfold sc2in at hst1
                cases eb1 : bindT t1 xs1[j] (wipeG η2 vs1) with
                | none => rw [eb1] at hst1; cases hst1
                | some η3 =>
                  rw [eb1] at hst1
                  simp only at hst1
                  refine ⟨ρ7, S1, wipeG η2 vs1, xs1[j], η3, simy, erK.step sty, hvy, eb1, fun σ8 of8 er8 => ⟨ρ7, η3, S1, simy, er8, ?_⟩⟩
                  have erJ8 := (erJ.step sty).off of8 fun i hi => hv i (hsl1 i hi)
                  have erK8 := (erK.step sty).off of8 hsl1
                  cases ea1 : evAll M ci1 η3 S1 with
                  | bad => rw [ea1] at hst1; cases hst1
                  | exc x S6 => rw [ea1] at hst1; cases hst1
                  | ok b1 S6 =>
                    rw [ea1] at hst1
                    simp only [Res.bind] at hst1
                    refine fun ρ9 H9 st9 s9 => ?_
                    cases b1 with
                    | false =>
                      simp only [Bool.false_eq_true, if_false] at hst1 ⊢
                      cases hst1
                      have e9 : ρ9 = ρ7 := pre_eq st9.pre (by rw [s9.len, ← s7.len])
                      subst e9
                      exact ⟨ys1, rest1, by simpa using hyy, hcj', (stJ.trans sty).trans st9, (stX.trans sty.x).trans st9.x, s9, erJ8.step st9, erK8.step st9, st9.keep _ _ hDy hDρ⟩
                    | true =>
                      simp only [if_true] at hst1 ⊢
                      refine ⟨ρ9, η3, S6, s9, er8.step st9, ?_⟩
                      cases ev1 : ev M ce η3 S6 with
                      | bad => rw [ev1] at hst1; cases hst1
                      | exc x S7 => rw [ev1] at hst1; cases hst1
                      | ok yv S7 =>
                        rw [ev1] at hst1
                        simp only [Res.bind] at hst1
                        cases yv with
                        | str z =>
                          cases hst1
                          refine fun ρa Ha sta sa w hw => ?_
                          have ea : ρa = ρ7 := pre_eq (st9.trans sta).pre (by rw [sa.len, ← s7.len])
                          subst ea
                          simp only [VR] at hw
                          subst hw
                          have stT := sty.trans (st9.trans sta)
                          have hDa : Ha D = some (SetTO X.prog X.w D (addAll (done ++ ys1) [])) := (st9.trans sta).keep _ _ hDy hDρ
                          have ux := updX (ψ := fun h => SetT X.prog X.w h D (addL z (addAll (done ++ ys1) []))) hDρ hDa
                          refine ⟨z, _, rfl, hDa, hroom _ ?_, ys1 ++ [z], rest1, by simpa using hyy, hcj', (stJ.trans stT).offD hDn, (stX.trans stT.x).trans ux, sa.offD hDρ hDa, (erJ8.step (st9.trans sta)).stepX ux, (erK8.step (st9.trans sta)).stepX ux, ?_⟩
                          · rw [← hdr, ← hyy]; simp
                          · rw [upd_same, ← List.append_assoc, addAll_app (done ++ ys1)]; rfl
                        | _ => cases hst1
              · have e : j = xs1.length := by omega
                subst e
                rw [List.drop_length] at hcj
                obtain ⟨lkd1, rfl⟩ := compS_nil hcj
                refine .inl ⟨jw1.stop ρ7 Hj S1 stX simJ lkd1, done ++ ys, rest', by simpa using hdr, hc', stJ, simJ, erJ, ?_⟩
                have e2 : ys1 = ys := by simpa using hyy
                rw [← e2]; exact hDJ
    · have e : i = xs.length := by omega
      subst e
      rw [List.drop_length] at hc
      obtain ⟨lkd, rfl⟩ := compS_nil hc
      have e2 : done = zs := by simpa using hdr
      subst e2
      exact .inl ⟨jw.stop ρ1 H' S1 stA.x simA lkd, fin H' D stA simA hD0 hDρ hDA⟩
  have lists : ([] : List (Addr × Obj)) ++ [] = [] := rfl
  -- the block's body: the second loop
  have hb : ∀ pins' s' σ' H' N, Inv (X.blk s3 H3 scope ce' fp) ([] ++ pins') σ' H' s' → tb0 σ' H' N → wpAny (model X.prog X.w) X.A (do
      let x ← eval iter1 ce'
      standAt iter1.pos
      let x ← foldedSetIterable iter1 ce' x
      let _ ← runOwn (.compStart (.SetComp elt [⟨tg, iter, ifs, 0⟩, ⟨tg1, iter1, ifs1, 0⟩] scope pos) 1 (← holding [x] (pyIter x)) (.ref D) ce') ce'
      again (.compLoop (.SetComp elt [⟨tg, iter, ifs, 0⟩, ⟨tg1, iter1, ifs1, 0⟩] scope pos) 0 (.ref it) (.ref D) ce')) (fun r s2 => r = .again (.compLoop (.SetComp elt [⟨tg, iter, ifs, 0⟩, ⟨tg1, iter1, ifs1, 0⟩] scope pos) 0 (.ref it) (.ref D) ce') ∧ ∃ σ2 H2, Inv (X.blk s3 H3 scope ce' fp) ([] ++ pins') σ2 H2 s2 ∧ N σ2 H2) (fun _ _ => False) s' := by
    intro pins' s' σ' H' N I' q
    refine wpAny_bind (thnF (pi1.run _ s' σ' H' _ I' q) fun xv s10 hx => wpAny_bind (wpAny_standAt (wpAny_bind (wpAny_of_eq (hs1 ce' xv) (wpAny_bind (wpAny_holding (thnF hx fun itv s11 h11 => ?_)))))))
    obtain ⟨it1, fp1, tn1, J1, H11, rfl, I11, T1, st11, f11, Wv1, m1, w1, turn1⟩ := h11
    refine wpAny_bind (wpAny_runOwn ?_)
    rw [Around.mark_none]
    have inner : codeAny (model X.prog X.w) X.A (.compLoop (.SetComp elt [⟨tg, iter, ifs, 0⟩, ⟨tg1, iter1, ifs1, 0⟩] scope pos) 1 (.ref it1) (.ref D) ce') (fun r s' => match r with | .ok _ => ∃ σ' H', Inv (X.blk s3 H3 scope ce' fp) ([] ++ pins') σ' H' s' ∧ (∀ b ∈ fp1, H' b = none) ∧ N σ' H' | .error _ => False) s11 :=
      cl_loop (X := X.blk s3 H3 scope ce' fp) (ip := iter1.pos) (fun _ _ z => z) g.calm (do
        (do let v ← eval elt ce'; standAt elt.pos; let _ ← call (.builtin "set.add") [.ref D, v])
        again (.compLoop (.SetComp elt [⟨tg, iter, ifs, 0⟩, ⟨tg1, iter1, ifs1, 0⟩] scope pos) 1 (.ref it1) (.ref D) ce')) tb1 N (by rfl) T1 pg1 pt1 (fun pins2 s2 σ2 H2 N1 I2 q2 => by
        refine wpAny_bind (wpAny_bind (thnF (pe.run _ s2 σ2 H2 _ I2 q2) fun v s3 ⟨y, H3, I3, r3, z, l, ey, hDl, room, n1⟩ => wpAny_bind (wpAny_standAt (wpAny_bind ?_))))
        subst ey
        obtain ⟨tk, rfl⟩ := r3
        exact setTO_add (X := X.blk _ _ scope ce' fp) I3 hDl room fun s4 I4 => wpAny_pure (wpAny_pure ⟨rfl, _, _, I4, n1⟩)) I11 st11 f11 Wv1 m1 w1 turn1
    refine codeAny_mono (set_start (X := X) (gt := tg1) (gi := iter1) (gf := ifs1) rfl inner fun E => T1.self X.A 0 _ _ _ st11 inner) fun r s12 hr => ?_
    cases r with
    | ok f =>
      obtain ⟨σ2, H2, I2, _, n2⟩ := hr
      first
        | exact wpAny_pure ⟨rfl, σ2, H2, I2, n2⟩
        | exact wpAny_bind (wpAny_pure (wpAny_pure ⟨rfl, σ2, H2, I2, n2⟩))
    | error e => exact hr.elim
  have outer := cl_loop (X := X.blk s3 H3 scope ce' fp) (pins := []) (ip := iter.pos) (fun _ _ z => z) g.calm _ tb0 (fun _ H' => Q (.ref D) H') (by rfl) T pg pt hb I4 st4 f4 (fun i m σ' H' => m = xs.length - i ∧ i ≤ xs.length ∧ Pv i σ' H') xs.length ⟨by simp, Nat.zero_le _, w0⟩ turn
  refine codeAny_mono (set_start (X := X) (gt := tg) (gi := iter) (gf := ifs) rfl outer fun E => T.self X.A 0 _ _ _ st4 outer) fun r s6 hr => ?_
  cases r with
  | error e => exact hr.elim
  | ok f =>
    obtain ⟨σ6, H6, I6, nf, q6⟩ := hr
    have I7 : Inv X pins σ H6 s6 := I3.call' (ch := fp) I6.os I6.base I6.hok I6.bare fun b hb => ⟨(f3 b hb).1.2.2.2.1, (f3 b hb).1.2.1, (f3 b hb).1.2.2.2.2.1, (f3 b hb).1.2.2.2.2.2⟩
    have nC : H6 s3.heap.objs.size = none := by
      have z : H6 ce'.locals = none := I6.free
      rwa [cL] at z
    obtain ⟨m, hn, _⟩ := I6.loc
    have hn : s6.heap.Ns ce'.locals m := hn
    rw [cL] at hn
    refine ⟨m, hn, fun h'' sb => ?_⟩
    obtain ⟨f0, f1, f2, f3, f4, f5⟩ := I3.fpOk (Nat.le_refl _) nC
    exact ⟨.ref D, H6, I7.turned (t' := s6.toks) (fun b o hb e => (sb.2 b hb).trans e) f0 f1 f3 f4 f5, rfl, q6⟩
end
end Oz
set_option Elab.async false
set_option linter.all false
set_option maxRecDepth 100000
set_option maxHeartbeats 4000000
set_option autoImplicit false
/-! Oz: sorted. -/
namespace Oz
open PySem L2 PyProof.Rows PySem.Froz PySem.Spec

/-! ### texts in order -/
def leS (a b : Str) : Prop := strLt b a = false
theorem leS_iff {a b : Str} : leS a b ↔ ¬ b.cps.toList < a.cps.toList := by unfold leS strLt; rw [decide_eq_false_iff_not]
theorem leS_anti {a b : Str} (h : leS a b) (k : leS b a) : a = b := by
  rw [leS_iff] at h k
  have e : a.cps.toList = b.cps.toList := List.le_antisymm h k
  obtain ⟨x⟩ := a
  obtain ⟨y⟩ := b
  congr 1
  exact Array.toList_inj.mp e
theorem leS_trans {a b c : Str} (h : leS a b) (k : leS b c) : leS a c := by
  rw [leS_iff] at *
  exact List.le_trans h k
theorem leS_total (a b : Str) : leS a b ∨ leS b a := by
  rw [leS_iff, leS_iff]
  exact List.le_total _ _
theorem ins_perm (x : Str) : ∀ ys : List Str, (insStr x ys).Perm (x :: ys)
  | [] => .refl _
  | y :: ys => by
    unfold insStr
    split
    · exact ((ins_perm x ys).cons y).trans (.swap x y ys)
    · exact .refl _
theorem sort_perm : ∀ xs : List Str, (sortStr xs).Perm xs
  | [] => .refl _
  | x :: xs => (ins_perm x _).trans ((sort_perm xs).cons x)
theorem ins_pw (x : Str) : ∀ ys : List Str, ys.Pairwise leS → (insStr x ys).Pairwise leS
  | [], _ => by simp [insStr]
  | y :: ys, h => by
    obtain ⟨h1, h2⟩ := List.pairwise_cons.mp h
    unfold insStr
    split
    · rename_i c
      refine List.pairwise_cons.mpr ⟨fun z hz => ?_, ins_pw x ys h2⟩
      rcases List.mem_cons.mp ((ins_perm x ys).mem_iff.mp hz) with e | e
      · subst e
        rcases leS_total y z with q | q
        · exact q
        · unfold leS at q; rw [c] at q; cases q
      · exact h1 z e
    · rename_i c
      have c' : leS x y := by unfold leS; simpa using c
      exact List.pairwise_cons.mpr ⟨fun z hz => (List.mem_cons.mp hz).elim (fun e => e ▸ c') fun e => leS_trans c' (h1 z e), h⟩
theorem sort_pw : ∀ xs : List Str, (sortStr xs).Pairwise leS
  | [] => List.Pairwise.nil
  | x :: xs => ins_pw x _ (sort_pw xs)
theorem rising_pw : ∀ (p : Str) (l : List Str), risingS p l = true → (p :: l).Pairwise leS
  | p, [], _ => by simp
  | p, x :: r, h => by
    have h' : (!ltCps x.cps.toList p.cps.toList && risingS x r) = true := h
    rw [Bool.and_eq_true] at h'
    have px : leS p x := by unfold leS strLt; rw [← ltCps_eq]; simpa using h'.1
    have ih := rising_pw x r h'.2
    exact List.pairwise_cons.mpr ⟨fun z hz => (List.mem_cons.mp hz).elim (fun e => e ▸ px) fun e => leS_trans px ((List.pairwise_cons.mp ih).1 z e), ih⟩
theorem sorted_pw : ∀ (l : List Str), sortedS l = true → l.Pairwise leS
  | [], _ => List.Pairwise.nil
  | x :: r, h => rising_pw x r h
theorem sorted_is {ys zs : List Str} (h : ys.Perm zs) (s : sortedS ys = true) : ys = sortStr zs :=
  List.Perm.eq_of_pairwise (le := leS) (fun _ _ _ _ => leS_anti) (sorted_pw ys s) (sort_pw zs) (h.trans (sort_perm zs).symm)
theorem sort_congr {xs ys : List Str} (h : xs.Perm ys) : sortStr xs = sortStr ys :=
  List.Perm.eq_of_pairwise (le := leS) (fun _ _ _ _ => leS_anti) (sort_pw xs) (sort_pw ys) ((sort_perm xs).trans (h.trans (sort_perm ys).symm))
theorem dedup_mem (z : Str) : ∀ xs : List Str, z ∈ dedupS xs ↔ z ∈ xs
  | [] => by simp [dedupS]
  | x :: xs => by
    unfold dedupS
    split
    · rename_i c
      rw [dedup_mem z xs, List.mem_cons]
      exact ⟨.inr, fun h => h.elim (fun e => e ▸ c) id⟩
    · rw [List.mem_cons, List.mem_cons, dedup_mem z xs]
theorem dedup_nd : ∀ xs : List Str, (dedupS xs).Nodup
  | [] => List.Pairwise.nil
  | x :: xs => by
    unfold dedupS
    split
    · exact dedup_nd xs
    · rename_i c
      exact List.nodup_cons.mpr ⟨fun h => c ((dedup_mem x xs).mp h), dedup_nd xs⟩
theorem addL_mem (z k : Str) (l : List Str) : z ∈ addL k l ↔ z = k ∨ z ∈ l := by
  unfold addL
  split
  · rename_i c; exact ⟨.inr, fun h => h.elim (fun e => e ▸ c) id⟩
  · exact List.mem_cons
theorem addL_nd (k : Str) (l : List Str) (h : l.Nodup) : (addL k l).Nodup := by
  unfold addL
  split
  · exact h
  · rename_i c; exact List.nodup_cons.mpr ⟨c, h⟩
theorem addAll_mem (z : Str) : ∀ (xs l : List Str), z ∈ addAll xs l ↔ z ∈ xs ∨ z ∈ l
  | [], l => by simp [addAll]
  | x :: xs, l => by
    simp only [addAll, addAll_mem z xs, addL_mem, List.mem_cons]
    constructor
    · rintro (h | h | h)
      · exact .inl (.inr h)
      · exact .inl (.inl h)
      · exact .inr h
    · rintro ((h | h) | h)
      · exact .inr (.inl h)
      · exact .inl h
      · exact .inr (.inr h)
theorem addAll_nd : ∀ (xs l : List Str), l.Nodup → (addAll xs l).Nodup
  | [], l, h => h
  | x :: xs, l, h => addAll_nd xs _ (addL_nd x l h)
theorem addAll_dedup (xs : List Str) : (addAll xs []).Perm (dedupS xs) :=
  (List.perm_ext_iff_of_nodup (addAll_nd xs [] List.Pairwise.nil) (dedup_nd xs)).mpr fun z => by rw [addAll_mem, dedup_mem]; simp
theorem sorted_set_is {ys zs : List Str} (h : ys.Perm (addAll zs [])) (s : sortedS ys = true) : ys = sortStr (dedupS zs) := sorted_is (h.trans (addAll_dedup zs)) s

/-! ### the rules -/
section
variable {G : Glb} {M : Mach} {W : WX} {X : Cx} {k : Nat} {a : Expr} {ca : E} {pos p p2 pos2 : Pos}
/-- sorted(xs), texts -/
theorem pf_srt (g : Good G k X) (hg : Gl X "sorted") (hm : X.mg "sorted" = none) (ha : PE X a (tE G M W ca)) (hs : starEach [a] X.env = [(false, eval a X.env)] := by rfl) (he : starEach [a] X.env = (false, eval a X.env) :: starEach [] X.env := by rfl) (hpl : (backTo pos (starEach [] X.env)).any (·.1) = false := by rfl) : PE X (.Call (.Name "sorted" p) [a] [] pos) (tF G M W (.srt ca)) :=
  (pe_callB cr_sortedS hg hm rfl (pa_one1 ha hs) (by decide) (by decide) he hpl).imp fun σ H Q ⟨ρ, η, S, s, r, h⟩ => ⟨ρ, η, S, s, r, by
    simp only [evf] at h
    refine (PR.bind h).mono fun ρ1 H1 x S1 st s1 h1 v hv => ?_
    unfold srtop at h1
    cases el : lstOf S1 x with
    | none => rw [el] at h1; exact h1.elim
    | some xs =>
      rw [el] at h1
      simp only [Option.bind] at h1
      cases es : allS xs with
      | none => rw [es] at h1; exact h1.elim
      | some zs =>
        rw [es] at h1
        simp only at h1
        by_cases h64 : zs.length < 64
        · rw [if_pos h64] at h1
          obtain ⟨b, vs, rfl, hb, hvs⟩ := lst_of s1 hv el
          have e := hvs.strs es
          subst e
          exact ⟨b, zs, rfl, .inl hb, h64, fun ys q py sy hq => okF_new s st s1 h1 hq fun ρ' st' => ⟨_, upd_same, by rw [sorted_is py sy]; exact VRs.map_str⟩⟩
        · rw [if_neg h64] at h1; exact h1.elim⟩
/-- sorted(set(xs)), texts -/
theorem pf_sset (g : Good G k X) (hg : Gl X "sorted") (hm : X.mg "sorted" = none) (hg2 : Gl X "set") (hm2 : X.mg "set" = none) (ha : PE X a (tE G M W ca)) (hs : starEach [a] X.env = [(false, eval a X.env)] := by rfl) (he : starEach [a] X.env = (false, eval a X.env) :: starEach [] X.env := by rfl) (hpl : (backTo pos2 (starEach [] X.env)).any (·.1) = false := by rfl)
    (hs2 : starEach [.Call (.Name "set" p2) [a] [] pos2] X.env = [(false, eval (.Call (.Name "set" p2) [a] [] pos2) X.env)] := by rfl) (he2 : starEach [.Call (.Name "set" p2) [a] [] pos2] X.env = (false, eval (.Call (.Name "set" p2) [a] [] pos2) X.env) :: starEach [] X.env := by rfl) (hpl2 : (backTo pos (starEach [] X.env)).any (·.1) = false := by rfl) :
    PE X (.Call (.Name "sorted" p) [.Call (.Name "set" p2) [a] [] pos2] [] pos) (tF G M W (.sset ca)) :=
  (pe_callB (cr_sortT g.calm) hg hm rfl (pa_cons (pe_callTy (cr_setT g.calm) hg2 hm2 rfl (pa_one1 ha hs) (by decide) (by decide) he hpl) pa_nil (by rw [hs2]; rfl)) (by decide) (by decide) he2 hpl2).imp fun σ H Q ⟨ρ, η, S, s, r, h⟩ => ⟨ρ, η, S, s, r, by
    simp only [evf] at h
    refine (PR.bind h).mono fun ρ1 H1 x S1 st s1 h1 v hv => ?_
    cases el : lstOf S1 x with
    | none => rw [el] at h1; exact h1.elim
    | some xs =>
      rw [el] at h1
      simp only [Option.bind] at h1
      cases es : allS xs with
      | none => rw [es] at h1; exact h1.elim
      | some zs =>
        rw [es] at h1
        simp only at h1
        by_cases h64 : zs.length < 64
        · rw [if_pos h64] at h1
          obtain ⟨b, vs, rfl, hb, hvs⟩ := lst_of s1 hv el
          have e := hvs.strs es
          subst e
          have hsc : (65 : Nat) < scanBound := by decide
          have hlen := addAll_len zs []
          simp only [List.length_nil, Nat.add_zero] at hlen
          refine ⟨b, zs, rfl, .inl hb, by omega, fun D hD => ⟨D, addAll zs [], rfl, upd_same, by omega, fun ys q py sy hq => ?_⟩⟩
          have st2 : Step ρ1 H1 ρ1 (upd H1 D (SetTO X.prog X.w D (addAll zs []))) := stepSame (same_new hD)
          exact okF_new s (st.trans st2) (s1.same (same_new hD)) (PR.step h1 st2) hq fun ρ' st' => ⟨_, upd_same, by rw [sorted_set_is py sy]; exact VRs.map_str⟩
        · rw [if_neg h64] at h1; exact h1.elim⟩
/-- sorted of a comprehension of two clauses -/
theorem pf_scomp2 {own vs1 : List Nat} {ce : E} {t t1 : Tg} {src src1 : Src} {ci ci1 : Es} (g : Good G k X) (hg : Gl X "sorted") (hm : X.mg "sorted" = none) (ha : PE X a (tSC G M W X.prog X.w own ce t src ci vs1 t1 src1 ci1)) (hs : starEach [a] X.env = (false, eval a X.env) :: starEach [] X.env := by rfl) (hpl : (backTo pos (starEach [] X.env)).any (·.1) = false := by rfl) :
    PE X (.Call (.Name "sorted" p) [a] [] pos) (tF G M W (.scomp2 own ce t src ci vs1 t1 src1 ci1)) :=
  (pe_callB (cr_sortT g.calm) hg hm rfl (pa_cons ha pa_nil (by rw [hs])) (by decide) (by decide) hs hpl).imp fun σ H Q ⟨ρ, η, S, s, r, h⟩ => ⟨ρ, η, S, s, r, by
    have h' : PR G W σ ρ H ((evS M src η S).bind fun p S1 => (compS (sc2step M own ce t ci vs1 t1 src1 ci1 η) p.1 p.2 S1).bind fun zs S2 => if zs.length < 64 then (.ok (.lst ((sortStr (dedupS zs)).map .str)) S2 : Res Ob) else .bad) (okF G H Q) := h
    refine PR.re2 h' fun ρ1 H1 p zs S1 st s1 h1 => ?_
    by_cases h64 : zs.length < 64
    · rw [if_pos h64] at h1
      have hlen := addAll_len zs []
      simp only [List.length_nil, Nat.add_zero] at hlen
      refine ⟨h64, fun D hD hDn hH => ⟨D, addAll zs [], rfl, hH, by omega, fun ys q py sy hq => ?_⟩⟩
      exact okF_new s st s1 h1 hq fun ρ' st' => ⟨_, upd_same, by rw [sorted_set_is py sy]; exact VRs.map_str⟩
    · rw [if_neg h64] at h1; exact h1.elim⟩
end
end Oz
set_option Elab.async false
set_option linter.all false
set_option maxRecDepth 100000
set_option maxHeartbeats 4000000
set_option autoImplicit false
/-! Oz: comparisons, built-ins, methods of lists, join, repetition, displays, isinstance. -/
namespace Oz
open PySem L2 PyProof.Rows

section
variable {G : Glb} {M : Mach} {W : WX} {X : Cx} {k : Nat} {a b : Expr} {ca cb : E} {p pos apos : Pos} {es : List Expr} {ces : Es}
theorem pe_cmpi (g : Good G k X) (op : CmpOp) (ha : PE X a (tE G M W ca)) (hb : PE X b (tE G M W cb)) (hm : behindInMarks op b = false) : PE X (.Compare a [op] [b] pos) (tE G M W (.cmp op ca cb)) :=
  (pe_cmpR (op_cmp g op) ha hb hm).imp fun σ H Q ⟨ρ, η, S, s, r, h⟩ => ⟨ρ, η, S, s, r, by
    simp only [ev] at h
    refine (PR.bind h).mono fun ρ1 H1 x S1 st1 s1 h1 v hv => ⟨ρ1, η, S1, s1, r.step st1, (PR.bind h1).mono fun ρ2 H2 y S2 st2 s2 h2 w hw => ?_⟩
    obtain ⟨z, e, h3⟩ := (PR.bind h2).ofO
    exact ⟨ρ2, S2, x, y, z, s2, hv.step st2, hw, e, (h3.here s2).here s2 _ (by simp only [VR])⟩⟩
theorem pt_cmpi (g : Good G k X) (op : CmpOp) (ha : PE X a (tE G M W ca)) (hb : PE X b (tE G M W cb)) (hm : behindInMarks op b = false) : PT X (.Compare a [op] [b] pos) (tQ G M W (.cmp op ca cb)) :=
  (pt_cmpR (op_cmp g op) ha hb hm).imp fun σ H Q ⟨ρ, η, S, s, r, h⟩ => ⟨ρ, η, S, s, r, by
    simp only [ev] at h
    refine (PR.bind h).mono fun ρ1 H1 x S1 st1 s1 h1 v hv => ⟨ρ1, η, S1, s1, r.step st1, (PR.bind h1).mono fun ρ2 H2 y S2 st2 s2 h2 w hw => ?_⟩
    obtain ⟨z, e, h3⟩ := (PR.bind h2).ofO
    obtain ⟨d, e2, q⟩ := (h3.here s2).here s2
    exact ⟨ρ2, S2, x, y, z, s2, hv.step st2, hw, e, _, rfl, by cases e2; exact q⟩⟩

/-! ### built-ins of one argument -/
def B1.nm : B1 → Str
  | .len => "len" | .all => "all" | .any => "any" | .tuple => "tuple" | .repr => "repr" | .str => "str" | .int => "int" | .sum => "sum"
theorem tB1 (f : B1) (σ : L2.St) (H : Hp) (Q : VK) (h : tE G M W (.b1 f ca) σ H Q) : tCB (rB1 G f) (tCons (tE G M W ca) tNil) σ H Q := by
  obtain ⟨ρ, η, S, s, r, h⟩ := h
  simp only [ev] at h
  refine ⟨ρ, η, S, s, r, (PR.bind h).mono fun ρ1 H1 x S1 st1 s1 h1 v hv => ?_⟩
  obtain ⟨z, e, h2⟩ := h1.ofO
  exact ⟨ρ1, S1, x, z, v, rfl, s1, hv, e, h2⟩
theorem pe_b1i (g : Good G k X) (f : B1) (hg : Gl X f.nm) (hm : X.mg f.nm = none) (ha : PE X a (tE G M W ca)) (hs : starEach [a] X.env = [(false, eval a X.env)] := by rfl) (he : starEach [a] X.env = (false, eval a X.env) :: starEach [] X.env := by rfl) (hpl : (backTo pos (starEach [] X.env)).any (·.1) = false := by rfl) :
    PE X (.Call (.Name f.nm p) [a] [] pos) (tE G M W (.b1 f ca)) := by
  have hA := pa_one1 (M := M) (W := W) ha hs
  cases f with
  | len => exact (pe_callB (id := "len") (cr_b1 g .len) hg hm (by decide +kernel) hA (by decide) (by decide) he hpl).imp (tB1 .len)
  | all => exact (pe_callB (id := "all") (cr_b1 g .all) hg hm (by decide +kernel) hA (by decide) (by decide) he hpl).imp (tB1 .all)
  | any => exact (pe_callB (id := "any") (cr_b1 g .any) hg hm (by decide +kernel) hA (by decide) (by decide) he hpl).imp (tB1 .any)
  | repr => exact (pe_callB (id := "repr") (cr_b1 g .repr) hg hm (by decide +kernel) hA (by decide) (by decide) he hpl).imp (tB1 .repr)
  | sum => exact (pe_callB (id := "sum") (cr_b1 g .sum) hg hm (by decide +kernel) hA (by decide) (by decide) he hpl).imp (tB1 .sum)
  | tuple => exact (pe_callTy (T := "tuple") (cr_b1 g .tuple) hg hm (by decide +kernel) hA (by decide) (by decide) he hpl).imp (tB1 .tuple)
  | str => exact (pe_callTy (T := "str") (cr_b1 g .str) hg hm (by decide +kernel) hA (by decide) (by decide) he hpl).imp (tB1 .str)
  | int => exact (pe_callTy (T := "int") (cr_b1 g .int) hg hm (by decide +kernel) hA (by decide) (by decide) he hpl).imp (tB1 .int)

/-! ### methods that change a list -/
def Mm.rule : Mm → V → List V → Hp → VK → Prop
  | .append => rAppend | .pop => rPop | .popAt => rPopAt | .clear => rClear
  | _ => fun _ _ _ _ => False
def Mm.nm : Mm → Str
  | .append => "append" | .pop => "pop" | .popAt => "pop" | .clear => "clear" | .extend => "extend" | .insert => "insert"
theorem VRs.dropLast {ρ : List Addr} {H : Hp} {xs : List Vl} {vs : List V} (h : VRs G ρ H xs vs) : VRs G ρ H xs.dropLast vs.dropLast := by
  rw [List.dropLast_eq_take, List.dropLast_eq_take, h.length]
  exact h.take _
theorem VRs.erase {ρ : List Addr} {H : Hp} : ∀ {xs : List Vl} {vs : List V} (i : Nat), VRs G ρ H xs vs → VRs G ρ H (xs.eraseIdx i) (vs.eraseIdx i)
  | [], vs, i, h => by simp only [VRs] at h; subst h; exact VRs.nil
  | x :: xs, vs, 0, h => by simp only [VRs] at h; obtain ⟨v, r, rfl, _, h2⟩ := h; exact h2
  | x :: xs, vs, i + 1, h => by simp only [VRs] at h; obtain ⟨v, r, rfl, h1, h2⟩ := h; exact VRs.cons h1 (VRs.erase i h2)
theorem mut_of {ρ : List Addr} {H : Hp} (m : Mm) {ys xs zs : List Vl} {v : Vl} {l : Addr} {vs as : List V} {Q : VK} (e : mutop m ys xs = some (v, zs)) (hl : H l = some (.lst vs)) (hy : VRs G ρ H ys vs) (hx : VRs G ρ H xs as)
    (q : ∀ w ws, VR G ρ H v w → VRs G ρ H zs ws → Q w (upd H l (.lst ws))) : m.rule (.ref l) as H Q := by
  unfold mutop at e
  split at e
  · rename_i y
    split at e
    · rename_i hz
      simp only [Option.some.injEq, Prod.mk.injEq] at e
      obtain ⟨rfl, rfl⟩ := e
      simp only [VRs] at hx
      obtain ⟨w, r, rfl, hw, rfl⟩ := hx
      exact ⟨l, vs, w, rfl, rfl, hl, by rw [← hy.length]; exact hz, q _ _ (by simp only [VR]) (hy.append (VRs.cons hw VRs.nil))⟩
    · cases e
  · split at e
    · rename_i y ey
      simp only [Option.some.injEq, Prod.mk.injEq] at e
      obtain ⟨rfl, rfl⟩ := e
      simp only [VRs] at hx
      subst hx
      obtain ⟨w, e1, e2⟩ := hy.get ey
      exact ⟨l, vs, w, rfl, rfl, hl, by rw [← hy.length]; exact e1, q _ _ e2 hy.dropLast⟩
    · cases e
  · rename_i i
    split at e
    · rename_i hi
      obtain ⟨n, e1, e2⟩ := Option.bind_eq_some_iff.mp e
      obtain ⟨y, e3, e4⟩ := Option.map_eq_some_iff.mp e2
      simp only [Prod.mk.injEq] at e4
      obtain ⟨rfl, rfl⟩ := e4
      simp only [VRs, VR] at hx
      obtain ⟨w, r, rfl, rfl, rfl⟩ := hx
      obtain ⟨w, g1, g2⟩ := hy.get e3
      exact ⟨l, vs, i, n, w, rfl, rfl, hl, hi.1, hi.2, by rw [← hy.length]; exact e1, g1, q _ _ g2 (hy.erase n)⟩
    · cases e
  · simp only [Option.some.injEq, Prod.mk.injEq] at e
    obtain ⟨rfl, rfl⟩ := e
    simp only [VRs] at hx
    subst hx
    exact ⟨l, vs, rfl, rfl, hl, q _ _ (by simp only [VR]) VRs.nil⟩
  · cases e
theorem lstAt_ref {S : Hs} {x : Vl} {r : Nat} (h : lstAt S x = some r) : x = .ref r ∧ ∃ ys, S[r]? = some (.lst ys) := by
  unfold lstAt at h
  split at h
  · split at h
    · rename_i ys e; cases h; exact ⟨rfl, ys, e⟩
    · cases h
  · cases h
theorem put_lst {ρ : List Addr} {H : Hp} {S : Hs} {r : Nat} {l : Addr} {zs : List Vl} {ws : List V} (s : Sim G ρ H S) (hr : ρ[r]? = some l) (hz : VRs G ρ H zs ws) : Step ρ H ρ (upd H l (.lst ws)) ∧ Sim G ρ (upd H l (.lst ws)) (S.set r (.lst zs)) := by
  have st : Step ρ H ρ (upd H l (.lst ws)) := ⟨List.prefix_refl _, fun b o hb hn => by
    rw [upd_ne fun e => hn (by subst e; exact List.mem_of_getElem? hr)]; exact hb, fun b hb => .inl hb⟩
  exact Sim.put s hr ⟨ws, upd_same, VRs.step st _ _ hz⟩
theorem tMut (m : Mm) (g : Good G k X) (σ : L2.St) (H : Hp) (Q : VK) (h : tE G M W (.mut m ca ces) σ H Q) : tBM X.K "list" m.rule (tE G M W ca) (tA G M W ces) σ H Q := by
  obtain ⟨ρ, η, S, s, r, h⟩ := h
  simp only [ev] at h
  refine ⟨ρ, η, S, s, r, (PR.bind h).mono fun ρ1 H1 x S1 st1 s1 h1 v hv => ?_⟩
  cases el : lstAt S1 x with
  | none => rw [el] at h1; exact h1.elim
  | some n =>
    rw [el] at h1
    obtain ⟨rfl, ys0, e0⟩ := lstAt_ref el
    obtain ⟨l, rfl, hl, vs0, hl0, _⟩ := s1.ref hv e0
    refine ⟨.inl ⟨rfl, vs0, SqL.of hl0⟩, ρ1, η, S1, s1, r.step st1, (PR.bind h1).mono fun ρ2 H2 xs S2 st2 s2 h2 as ha => ?_⟩
    split at h2
    · rename_i ys ey
      split at h2
      · rename_i v zs em
        obtain ⟨l', e', hl', vs, hv2, hvs⟩ := s2.ref (hv.step st2) ey
        cases e'
        refine mut_of m em hv2 hvs ha fun w ws hw hz => ?_
        obtain ⟨st3, s3⟩ := put_lst s2 hl' hz
        exact h2 ρ2 _ st3 s3 w (hw.step st3)
      · exact h2.elim
    · exact h2.elim
theorem tMut0 (m : Mm) (g : Good G k X) (σ : L2.St) (H : Hp) (Q : VK) (h : tE G M W (.mut m ca .nil) σ H Q) : tBM0 X.K "list" m.rule (tE G M W ca) σ H Q := by
  obtain ⟨ρ, η, S, s, r, h⟩ := h
  simp only [ev] at h
  refine ⟨ρ, η, S, s, r, (PR.bind h).mono fun ρ1 H1 x S1 st1 s1 h1 v hv => ?_⟩
  cases el : lstAt S1 x with
  | none => rw [el] at h1; exact h1.elim
  | some n =>
    rw [el] at h1
    obtain ⟨rfl, ys0, e0⟩ := lstAt_ref el
    obtain ⟨l, rfl, hl, vs0, hl0, hvs0⟩ := s1.ref hv e0
    refine ⟨.inl ⟨rfl, vs0, SqL.of hl0⟩, ?_⟩
    simp only [evs, Res.bind] at h1
    rw [e0] at h1
    simp only at h1
    split at h1
    · rename_i v zs em
      refine mut_of m em hl0 hvs0 VRs.nil fun w ws hw hz => ?_
      obtain ⟨st3, s3⟩ := put_lst s1 hl hz
      exact h1 ρ1 _ st3 s3 w (hw.step st3)
    · exact h1.elim
section
variable {e : Expr}
theorem pe_muti (g : Good G k X) (m : Mm) (hm : m = .append ∨ m = .popAt) (ha : PE X a (tE G M W ca)) (hes : PA X (e :: es) (tA G M W ces)) (hbase : attributeBase a m.nm X.env (eval a X.env) = eval a X.env := by rfl)
    (hfew : ((backTo pos (starEach (e :: es) X.env)).all (fun x => !x.1) && (backToKw pos (keywordEach [] X.env)).all (fun x => x.1.isSome)
      && decide ((e :: es).length + ([] : List Keyword).length + (if ([] : List Keyword).isEmpty then 0 else 1) < 30)) = true := by rfl)
    (hline : (apos.endLine == pos.line) = true := by rfl) (hs : starEach (e :: es) X.env = (false, eval e X.env) :: starEach es X.env := by rfl) (hplain : (backTo pos (starEach es X.env)).any (·.1) = false := by rfl) :
    PE X (.Call (.Attribute a m.nm apos) (e :: es) [] pos) (tE G M W (.mut m ca ces)) := by
  rcases hm with rfl | rfl
  · exact (pe_bm F.plainAttrs_list F.slot_list_append F.type_list_append mt_append ha hes hbase hfew hline hs hplain).imp (tMut .append g)
  · exact (pe_bm F.plainAttrs_list F.slot_list_pop F.type_list_pop mt_popAt ha hes hbase hfew hline hs hplain).imp (tMut .popAt g)
theorem pe_mut0i (g : Good G k X) (m : Mm) (hm : m = .pop ∨ m = .clear) (ha : PE X a (tE G M W ca)) (hbase : attributeBase a m.nm X.env (eval a X.env) = eval a X.env := by rfl) (hline : (apos.endLine == pos.line) = true := by rfl) :
    PE X (.Call (.Attribute a m.nm apos) [] [] pos) (tE G M W (.mut m ca .nil)) := by
  rcases hm with rfl | rfl
  · exact (pe_bm0 F.plainAttrs_list F.slot_list_pop F.type_list_pop mt_pop ha hbase hline).imp (tMut0 .pop g)
  · exact (pe_bm0 F.plainAttrs_list F.slot_list_clear F.type_list_clear mt_clear ha hbase hline).imp (tMut0 .clear g)
/-- z.join(xs) -/
theorem pe_joini (g : Good G k X) (ha : PE X a (tE G M W ca)) (hb : PE X b (tE G M W cb)) (hs : starEach [b] X.env = [(false, eval b X.env)] := by rfl) (hbase : attributeBase a "join" X.env (eval a X.env) = eval a X.env := by rfl) (hline : (apos.endLine == pos.line) = true := by rfl) :
    PE X (.Call (.Attribute a "join" apos) [b] [] pos) (tE G M W (.tm .join ca cb)) := (pe_join ha hb hs hbase hline).imp fun σ H Q ⟨ρ, η, S, s, r, h⟩ => ⟨ρ, η, S, s, r, by
  simp only [ev] at h
  refine (PR.bind h).mono fun ρ1 H1 x S1 st1 s1 h1 v hv => ?_
  cases x with
  | str z =>
    simp only [VR] at hv
    subst hv
    refine ⟨⟨z, rfl⟩, ρ1, η, S1, s1, r.step st1, (PR.bind h1).mono fun ρ2 H2 y S2 st2 s2 h2 w hw => ?_⟩
    obtain ⟨q, e, h3⟩ := h2.ofO
    unfold tmop at e
    simp only at e
    cases es : seqOf S2 y with
    | none => rw [es] at e; cases e
    | some xs =>
      rw [es] at e
      simp only [Option.bind] at e
      cases ea : allS xs with
      | none => rw [ea] at e; cases e
      | some zs =>
        rw [ea] at e
        simp only at e
        split at e
        · rename_i hz
          cases e
          obtain ⟨p, vs, rfl, h4, h5⟩ := seq_of s2 hw es
          have e6 := h5.strs ea
          subst e6
          exact ⟨z, p, zs, rfl, rfl, by rw [g.K]; exact h4, hz, h3.here s2 _ (by simp only [VR])⟩
        · cases e
  | _ => exact h1.elim⟩
end
/-- xs * n -/
theorem VRs.rep {ρ : List Addr} {H : Hp} {xs : List Vl} {vs : List V} (h : VRs G ρ H xs vs) : ∀ n : Nat, VRs G ρ H (List.replicate n xs).flatten (List.replicate n vs).flatten
  | 0 => VRs.nil
  | n + 1 => by rw [List.replicate_succ, List.replicate_succ, List.flatten_cons, List.flatten_cons]; exact h.append (VRs.rep h n)
theorem pf_rep (ha : PE X a (tE G M W ca)) (hb : PE X b (tE G M W cb)) : PE X (.BinOp a .Mult b pos) (tF G M W (.rep ca cb)) :=
  (pe_op op_rep ha hb).imp fun σ H Q ⟨ρ, η, S, s, r, h⟩ => ⟨ρ, η, S, s, r, by
    simp only [evf] at h
    refine (PR.bind h).mono fun ρ1 H1 x S1 st1 s1 h1 v hv => ⟨ρ1, η, S1, s1, r.step st1, (PR.bind h1).mono fun ρ2 H2 y S2 st2 s2 h2 w hw => ?_⟩
    split at h2
    · rename_i n xs i el ex
      split at h2
      · rename_i hz
        obtain ⟨rfl, ys, ey⟩ := lstAt_ref el
        simp only [lstOf, ey, Option.some.injEq] at ex
        subst ex
        obtain ⟨l, rfl, hl, vs, hl2, hvs⟩ := s2.ref (hv.step st2) ey
        simp only [VR] at hw
        subst hw
        exact ⟨l, i, vs, rfl, rfl, hl2, by omega, hz.2.1, by rw [← hvs.length]; exact hz.2.2, fun p hp => okF_new s (st1.trans st2) s2 h2 hp fun ρ' st' => ⟨_, upd_same, VRs.step st' _ _ (hvs.rep _)⟩⟩
      · exact h2.elim
    · exact h2.elim⟩
end
end Oz
set_option Elab.async false
set_option linter.all false
set_option maxRecDepth 100000
set_option maxHeartbeats 4000000
set_option autoImplicit false
/-! Oz: own methods, own len, own ==, classes that are called. -/
namespace Oz
open PySem L2 PyProof.Rows

section
variable {G : Glb} {k n : Nat} {X : Cx} {M : Mach} {W : WX} {f : Addr} {fd : FuncData} {ps : List Str} {ds : List Value} {q c m : Str} {a b e : Expr} {es : List Expr} {ca cb : E} {ces : Es} {p pos apos : Pos} {dxs : List Vl} {dvs : List V}
theorem hasM_of {ρ : List Addr} {H : Hp} {S : Hs} {x : Vl} {v : V} (s : Sim G ρ H S) (hv : VR G ρ H x v) (h : hasM S x c m = true) : ∃ a dx fs, v = .ref a ∧ H a = some (.ins (G.cl c) dx fs) ∧ fs.lookup m = none := by
  unfold hasM at h
  split at h
  · rename_i d ns vs ei
    rw [Bool.and_eq_true] at h
    have h1 : d = c := of_decide_eq_true h.1
    subst h1
    obtain ⟨a, dx, fs, rfl, h2, h3, _⟩ := ins_of s hv ei
    refine ⟨a, dx, fs, rfl, h2, ?_⟩
    have h4 : m ∉ ns := fun z => by
      have h5 := h.2
      rw [List.contains_iff_mem.mpr z] at h5
      cases h5
    rw [← h3] at h4
    exact List.lookup_eq_none_iff.mpr fun p hp => bne_iff_ne.mpr fun z => h4 (List.mem_map.mpr ⟨p, hp, z.symm⟩)
  · cases h
/-! ### o.m(..) -/
def tMc (X : Cx) (k n : Nat) (G : Glb) (M : Mach) (c m : Str) (W : WX) (ca : E) (ces : Es) (dxs : List Vl) : TE := fun σ H Q => ∃ ρ η S, Sim G ρ H S ∧ ER G ρ H η σ ∧ PR G W σ ρ H (ev M ca η S) fun ρ1 H1 x S1 => hasM S1 x c m = true ∧ PR G W σ ρ1 H1 (evs M ces η S1) fun ρ2 H2 xs S2 => xs.length + 1 + dxs.length = n ∧ PR G W σ ρ2 H2 (M.cal (dot c m) (x :: (xs ++ dxs)) S2) (okR G H2 Q)
theorem pe_mclE {pl : Sem Bool} (g : Good G (k + 1) X) (F : FnG X.prog X.w X.K X.mg X.base k f fd ps (spI G M n (dot c m))) (hC : Cls X.K (G.cl c)) (hm : Meth X.K (G.cl c) m f) (hb : Binds X.K fd ps ds) (hd : Vals dvs ds) (hc : Csts G dxs dvs) (tk : Takes X W)
    (ha : PE X a (tE G M W ca)) (hes : PA X (e :: es) (tA G M W ces)) (hst : starEach (e :: es) X.env = (false, eval e X.env) :: starEach es X.env := by rfl) (hpl : (backTo pos (starEach es X.env)).any (·.1) = false := by rfl)
    (ht : eval (.Call (.Attribute a m apos) (e :: es) [] pos) X.env = (do
      let ov ← eval a X.env
      standAt apos.atName
      let (f, first) ← holding [ov] (getMethod ov m pl)
      callWith pos f first (backTo pos (starEach (e :: es) X.env)) (backToKw pos (keywordEach [] X.env))) := by rfl) :
    PE X (.Call (.Attribute a m apos) (e :: es) [] pos) (tMc X k n G M c m W ca ces dxs) := by
  refine ⟨fun pins s σ H Q I ⟨ρ, η, S, s0, r, h⟩ => ?_⟩
  have hr : Room k X.A := g.room.mono (Nat.le_succ _)
  refine PySem.W.methodCall_KW (pl := pl) (thn (ha.run pins s σ H (fun v H1 => ∃ x ρ1 S1, Step ρ H ρ1 H1 ∧ Sim G ρ1 H1 S1 ∧ VR G ρ1 H1 x v ∧ hasM S1 x c m = true ∧ PR G W σ ρ1 H1 (evs M ces η S1) fun ρ2 H2 xs S2 => xs.length + 1 + dxs.length = n ∧ PR G W σ ρ2 H2 (M.cal (dot c m) (x :: (xs ++ dxs)) S2) (okR G H2 Q)) I ⟨ρ, η, S, s0, r, h.mono fun ρ1 H1 x S1 st1 s1 h1 v hv => ⟨x, ρ1, S1, st1, s1, hv, h1⟩⟩) fun u s1 ⟨v, H1, I1, rv, x, ρ1, S1, st1, sm1, hv, hM, hp⟩ => ?_) ht
  obtain ⟨a', dx, fs, rfl, ea, l⟩ := hasM_of sm1 hv hM
  obtain rfl : u = Value.ref a' := rv
  refine getmeth_ok I1 ea hC hm l ?_
  refine PySem.W.callWith_K (first := [.ref a']) (h₀ := X.base) I.ok.mod.kin hm.kp (thn (hes.run pos pins s1 σ H1 (fun vs H2 => ∃ xs ρ2 S2, Step ρ1 H1 ρ2 H2 ∧ Sim G ρ2 H2 S2 ∧ VRs G ρ2 H2 xs vs ∧ xs.length + 1 + dxs.length = n ∧ PR G W σ ρ2 H2 (M.cal (dot c m) (x :: (xs ++ dxs)) S2) (okR G H2 Q)) I1 ⟨ρ1, η, S1, sm1, r.step st1, hp.mono fun ρ2 H2 xs S2 st2 s2 h2 vs hv2 => ⟨xs, ρ2, S2, st2, s2, hv2, h2⟩⟩) fun us s2 ⟨vs, H2, I2, rvs, xs, ρ2, S2, st2, sm2, hvs, hl, hp2⟩ => ⟨I2.kIn, ?_⟩) hst hpl
  refine run_g (us := .ref a' :: us) (vs := .ref a' :: vs) F hr g.grd hb hd tk I2 (.cons rfl rvs) ⟨?_, ρ2, S2, x :: (xs ++ dxs), sm2, VRs.cons (hv.step st2) (hvs.append (hc _ _)), PR.exc_sig hp2⟩
  rw [List.length_append, List.length_cons, ← hvs.length, ← (hc ρ2 H2).length]; exact hl
theorem pe_mcl0 {pl : Sem Bool} (g : Good G (k + 1) X) (F : FnG X.prog X.w X.K X.mg X.base k f fd ps (spI G M n (dot c m))) (hC : Cls X.K (G.cl c)) (hm : Meth X.K (G.cl c) m f) (hb : Binds X.K fd ps ds) (hd : Vals dvs ds) (hc : Csts G dxs dvs) (tk : Takes X W)
    (ha : PE X a (tE G M W ca))
    (ht : eval (.Call (.Attribute a m apos) [] [] pos) X.env = (do
      let ov ← eval a X.env
      standAt apos.atName
      let (f, first) ← holding [ov] (getMethod ov m pl)
      callWith pos f first (backTo pos (starEach [] X.env)) (backToKw pos (keywordEach [] X.env))) := by rfl) :
    PE X (.Call (.Attribute a m apos) [] [] pos) (tMc X k n G M c m W ca .nil dxs) := by
  refine ⟨fun pins s σ H Q I ⟨ρ, η, S, s0, r, h⟩ => ?_⟩
  have hr : Room k X.A := g.room.mono (Nat.le_succ _)
  refine PySem.W.methodCall_KW (pl := pl) (thn (ha.run pins s σ H (fun v H1 => ∃ x ρ1 S1, Step ρ H ρ1 H1 ∧ Sim G ρ1 H1 S1 ∧ VR G ρ1 H1 x v ∧ hasM S1 x c m = true ∧ PR G W σ ρ1 H1 (evs M .nil η S1) fun ρ2 H2 xs S2 => xs.length + 1 + dxs.length = n ∧ PR G W σ ρ2 H2 (M.cal (dot c m) (x :: (xs ++ dxs)) S2) (okR G H2 Q)) I ⟨ρ, η, S, s0, r, h.mono fun ρ1 H1 x S1 st1 s1 h1 v hv => ⟨x, ρ1, S1, st1, s1, hv, h1⟩⟩) fun u s1 ⟨v, H1, I1, rv, x, ρ1, S1, st1, sm1, hv, hM, hp⟩ => ?_) ht
  obtain ⟨a', dx, fs, rfl, ea, l⟩ := hasM_of sm1 hv hM
  obtain rfl : u = Value.ref a' := rv
  simp only [evs] at hp
  obtain ⟨hl, hp2⟩ := hp.here sm1
  refine getmeth_ok I1 ea hC hm l ?_
  refine PySem.W.callWith_K0 (first := [.ref a']) I1.kIn hm.kp (run_g (us := [.ref a']) (vs := [.ref a']) F hr g.grd hb hd tk I1 (.cons rfl .nil) ⟨?_, ρ1, S1, x :: dxs, sm1, VRs.cons hv (hc _ _), PR.exc_sig hp2⟩)
  simp only [List.length_nil] at hl
  rw [List.length_append, ← (hc ρ1 H1).length]
  simp only [List.length_cons, List.length_nil]
  omega
theorem tMc_val {σ : L2.St} {H : Hp} {Q : VK} (hn : ces.len + 1 + dxs.length = n) (h : tE G M W (.mcl c m ca (ces.app dxs)) σ H Q) : tMc X k n G M c m W ca ces dxs σ H Q := by
  obtain ⟨ρ, η, S, s0, r, h⟩ := h
  simp only [ev] at h
  refine ⟨ρ, η, S, s0, r, (PR.bind h).mono fun ρ1 H1 x S1 st1 s1 h1 => ?_⟩
  split at h1
  · rename_i hM
    refine ⟨hM, ?_⟩
    rw [evs_app] at h1
    cases e : evs M ces η S1 with
    | ok xs S2 =>
      rw [e] at h1
      simp only [Res.bind] at h1
      exact fun ρ2 H2 st s => ⟨by rw [evs_len _ _ _ _ _ e]; exact hn, PR.callV s1 st s (PR.step h1 st)⟩
    | exc x S2 => rw [e] at h1; exact h1
    | bad => rw [e] at h1; exact h1
  · exact h1.elim
theorem tMc_frs {σ : L2.St} {H : Hp} {Q : VK} (hn : ces.len + 1 + dxs.length = n) (h : tF G M W (.mcl c m ca (ces.app dxs)) σ H Q) : tMc X k n G M c m W ca ces dxs σ H Q := by
  obtain ⟨ρ, η, S, s0, r, h⟩ := h
  simp only [evf] at h
  refine ⟨ρ, η, S, s0, r, (PR.bind h).mono fun ρ1 H1 x S1 st1 s1 h1 => ?_⟩
  split at h1
  · rename_i hM
    refine ⟨hM, ?_⟩
    rw [evs_app] at h1
    cases e : evs M ces η S1 with
    | ok xs S2 =>
      rw [e] at h1
      simp only [Res.bind] at h1
      exact fun ρ2 H2 st s => ⟨by rw [evs_len _ _ _ _ _ e]; exact hn, PR.callF s0 (st1.trans st) s (PR.step h1 st)⟩
    | exc x S2 => rw [e] at h1; exact h1
    | bad => rw [e] at h1; exact h1
  · exact h1.elim

/-! ### a call from within a built-in -/
theorem run_in {A : Around} {pins : List (Addr × Obj)} {σ : L2.St} {H : Hp} {s : Shared} {Q : VK} {us : List Value} {vs : List V} {sp : Sp} {E' : Value → Shared → Prop} (F : FnG X.prog X.w X.K X.mg X.base k f fd ps sp) (hr : Room k A) (hg : A.guards = some []) (hfr : A.frames = X.A.frames) (hb : Binds X.K fd ps [])
    (I : Inv X pins σ H s) (r : Vals vs us) (h : sp vs H Q (fun _ _ _ => False)) : wpAny (model X.prog X.w) A (call (.ref f) us) (EP X pins σ Q) E' s := by
  have len : us.length = ps.length := r.length.symm.trans (F.len _ _ _ _ h)
  have e0 : Env0 X.prog X.w X.K X.mg X.base A X.stack s H := by
    have e := I.env0
    exact ⟨hfr.trans e.frames, e.mod, e.bs, e.bsz, e.funs, e.frf, e.hok, e.bare⟩
  have hb' := hb s us I.kIn (by simpa using len)
  rw [List.append_nil] at hb'
  refine wpAny_call (codeAny_mono (F.run A X.stack s H ⟨us, []⟩ us vs Q _ hr hg e0 hb' r h) ?_)
  intro r' s' hq
  match r', hq with
  | .error e, hq => obtain ⟨_, _, _, _, _, _, _, _, _, _, _, _, hE⟩ := hq; exact hE.elim
  | .ok (.ret u), hq => exact I.after hq
  | .ok .next, hq => exact hq.elim
  | .ok .brk, hq => exact hq.elim
  | .ok .cont, hq => exact hq.elim
theorem noX_ok {α : Type} {ρ : List Addr} {H : Hp} {σ : L2.St} {r : Res α} {ok : List Addr → Hp → α → Hs → Prop} (h : PR G W σ ρ H (noX r) ok) : PR G (fun _ _ _ _ => False) [] ρ H r ok := by
  cases r with
  | ok a S => exact h
  | exc x S => exact h.elim
  | bad => exact h
theorem calV_ok {ρ : List Addr} {H : Hp} {S : Hs} {σ : L2.St} {W' : WX} {xs : List Vl} {ok : List Addr → Hp → Vl → Hs → Prop} {Q : VK} (s0 : Sim G ρ H S) (h : PR G W' σ ρ H (calV M q xs S) ok) (hQ : ∀ ρ' H' x S' v, Step ρ H ρ' H' → Sim G ρ' H' S' → ok ρ' H' x S' → VR G ρ' H' x v → Q v H') : PR G W' σ ρ H (M.cal q xs S) (okR G H Q) :=
  PR.callV s0 (Step.refl _ _) s0 (h.mono fun ρ' H' x S' st s' h' v hv => hQ ρ' H' x S' v st s' h' hv)
/-! ### len(o) -/
def rLenO (G : Glb) (M : Mach) (c : Str) : List V → Hp → VK → Prop := fun xs H Q => ∃ ρ S x v, xs = [v] ∧ Sim G ρ H S ∧ VR G ρ H x v ∧ hasM S x c "__len__" = true ∧ PR G (fun _ _ _ _ => False) [] ρ H (calV M (dot c "__len__") [x] S) fun _ H' z _ => ∃ n, z = .int n ∧ 0 ≤ n ∧ n < 2 ^ 63 ∧ Q (.int n) H'
theorem cr_lenO (g : Good G (k + 1) X) (F : FnG X.prog X.w X.K X.mg X.base k f fd ps (spI G M 1 (dot c "__len__"))) (hs : PySem.W.findIn X.K (.ref (G.cl c)) "__len__" = some (some (.ref f))) (hf : PySem.W.isFn X.K (.ref f) = true) (hb : Binds X.K fd ps []) : CallR X (.builtin "len") (rLenO G M c) := by
  intro pins s σ H xs us Q I r h
  obtain ⟨ρ, S, x, v, rfl, s0, hv, hM, hp⟩ := h
  obtain ⟨a', dx, fs, rfl, ea, l⟩ := hasM_of s0 hv hM
  rw [Vals.ref1 r]
  obtain ⟨mA, J, _⟩ := ins_get I.hok ea
  obtain ⟨od, J, _⟩ := J.look
  obtain ⟨m', hF⟩ := I.fr
  refine PySem.W.len_K hF I.ok.mod.kin J hs hf (wpAny_mono (run_in (vs := [.ref a']) (E' := X.xe) (A := X.A.in1) (Q := fun z H' => ∃ n, z = .int n ∧ 0 ≤ n ∧ n < 2 ^ 63 ∧ Q (.int n) H') F g.room.in1 g.grd rfl hb I (.cons rfl .nil) ⟨rfl, ρ, S, [x], s0, VRs.cons hv VRs.nil, ?_⟩) (fun u s1 ⟨z, H1, I1, rz, n, ez, h0, h1, q⟩ => ?_) fun _ _ z => z)
  · exact calV_ok s0 hp fun ρ' H' x S' v st s' ⟨n, e, h0, h1, q⟩ hv => by
      subst e
      simp only [VR] at hv
      exact ⟨n, hv, h0, h1, q⟩
  · subst ez
    obtain ⟨t, rfl⟩ := rz
    exact ⟨⟨h0, h1⟩, .int n, H1, I1.tok _, ⟨_, rfl⟩, q⟩
theorem pe_olen (g : Good G (k + 1) X) (F : FnG X.prog X.w X.K X.mg X.base k f fd ps (spI G M 1 (dot c "__len__"))) (hs : PySem.W.findIn X.K (.ref (G.cl c)) "__len__" = some (some (.ref f))) (hf : PySem.W.isFn X.K (.ref f) = true) (hb : Binds X.K fd ps []) (hg : Gl X "len") (hm : X.mg "len" = none) (ha : PE X a (tE G M W ca)) (hs1 : starEach [a] X.env = [(false, eval a X.env)] := by rfl) (he : starEach [a] X.env = (false, eval a X.env) :: starEach [] X.env := by rfl) (hpl : (backTo pos (starEach [] X.env)).any (·.1) = false := by rfl) :
    PE X (.Call (.Name "len" p) [a] [] pos) (tE G M W (.olen c ca)) := (pe_callB (cr_lenO g F hs hf hb) hg hm (by decide +kernel) (pa_one1 ha hs1) (by decide) (by decide) he hpl).imp fun σ H Q ⟨ρ, η, S, s, r, h⟩ => ⟨ρ, η, S, s, r, by
  simp only [ev] at h
  refine (PR.bind h).mono fun ρ1 H1 x S1 st1 s1 h1 v hv => ?_
  split at h1
  · rename_i hM
    refine ⟨ρ1, S1, x, v, rfl, s1, hv, hM, noX_ok ((PR.bind h1).mono fun ρ2 H2 z S2 st2 s2 h2 => ?_)⟩
    split at h2
    · split at h2
      · rename_i hn
        exact ⟨_, rfl, hn.1, hn.2, h2.here s2 _ (by simp only [VR])⟩
      · exact h2.elim
    · exact h2.elim
  · exact h1.elim⟩
/-! ### o == p, o != p -/
theorem looks_ty {Mo : Model} {h : Heap} {y : Addr} {o : Obj} (ho : h.get? y = some o) : PySem.W.Looks Mo h (typeOf (.ref y)) o.cls := (PySem.W.Looks.ld ho).andThen .now
theorem eqY_looks {Mo : Model} {pins : List (Addr × Obj)} {σ : L2.St} {s : Shared} {ρ : List Addr} {H : Hp} {S : Hs} {y : Vl} {w : V} {u : Value} (g : Good G k X) (I : Inv X pins σ H s) (s0 : Sim G ρ H S) (hw : VR G ρ H y w) (ru : RelV w u) (h : eqY S c y = true) :
    PySem.W.Looks Mo s.heap (typeOf u) (.ref (G.cl c)) ∨ PySem.W.Looks Mo s.heap (typeOf u) (.type "list") := by
  unfold eqY at h
  split at h
  · rename_i d ns vs ei
    have h1 : d = c := of_decide_eq_true h
    subst h1
    obtain ⟨a, dx, fs, rfl, h2, _⟩ := ins_of s0 hw ei
    cases ru
    obtain ⟨mA, J, _⟩ := ins_get I.hok h2
    obtain ⟨od, J, _⟩ := J.look
    exact .inl J.type
  · rename_i ei
    obtain ⟨xs, ex⟩ := Option.isSome_iff_exists.mp h
    obtain ⟨a, vs, rfl, h1, _⟩ := lst_of s0 hw ex
    cases ru
    obtain ⟨its, _, ⟨o, n, ho, hcl, _⟩, _⟩ := I.list (a := a) (xs := vs) (.inl h1)
    exact .inr (by rw [← hcl]; exact looks_ty ho)
/-- what == and != of instances ask of the class -/
structure EqC (K : PySem.W.Frag) (C f : Addr) : Prop where
  eq : PySem.W.findIn K (.ref C) "__eq__" = some (some (.ref f))
  fn : PySem.W.isFn K (.ref f) = true
  ne : PySem.W.findIn K (.ref C) "__ne__" = some (some (.builtin "object.__ne__"))
  ob : PySem.W.mroIn K C (.type "object") = some true
  nf : PySem.W.notFirst K C (.type "list") = true
def rOeq (G : Glb) (M : Mach) (c : Str) (ng : Bool) : R2 := fun x y H Q => ∃ ρ S a b, Sim G ρ H S ∧ VR G ρ H a x ∧ VR G ρ H b y ∧ hasM S a c "__eq__" = true ∧ eqY S c b = true ∧ PR G (fun _ _ _ _ => False) [] ρ H (calV M (dot c "__eq__") [a, b] S) fun _ H' z _ => ∃ d, z = .bl d ∧ Q (.bl (if ng then !d else d)) H'
theorem eq_call {A : Around} {pins : List (Addr × Obj)} {σ : L2.St} {H : Hp} {s : Shared} {Q : VK} {E' : Value → Shared → Prop} {ρ : List Addr} {S : Hs} {x y : Vl} {v w : V} {u1 u2 : Value} {ng : Bool} (F : FnG X.prog X.w X.K X.mg X.base k f fd ps (spI G M 2 (dot c "__eq__"))) (hr : Room k A) (hg : A.guards = some []) (hfr : A.frames = X.A.frames) (hb : Binds X.K fd ps []) (I : Inv X pins σ H s) (s0 : Sim G ρ H S) (hv : VR G ρ H x v) (hw : VR G ρ H y w) (r1 : RelV v u1) (r2 : RelV w u2)
    (hp : PR G (fun _ _ _ _ => False) [] ρ H (calV M (dot c "__eq__") [x, y] S) fun _ H' z _ => ∃ d, z = .bl d ∧ Q (.bl (if ng then !d else d)) H') : wpAny (model X.prog X.w) A (call (.ref f) [u1, u2]) (fun z s' => ∃ d H', z = .bool d ∧ Inv X pins σ H' s' ∧ Q (.bl (if ng then !d else d)) H') E' s := by
  refine wpAny_mono (run_in (vs := [v, w]) (E' := E') (Q := fun z H' => ∃ d, z = .bl d ∧ Q (.bl (if ng then !d else d)) H') F hr hg hfr hb I (.cons r1 (.cons r2 .nil)) ⟨rfl, ρ, S, [x, y], s0, VRs.cons hv (VRs.cons hw VRs.nil), ?_⟩) (fun u s1 ⟨z, H1, I1, rz, d, ez, q⟩ => ?_) fun _ _ z => z
  · exact calV_ok s0 hp fun ρ' H' x S' v st s' ⟨d, e, q⟩ hv => by
      subst e
      simp only [VR] at hv
      exact ⟨d, hv, q⟩
  · subst ez
    cases rz
    exact ⟨d, H1, rfl, I1, q⟩
theorem op_oeq (g : Good G (k + 3) X) (F : FnG X.prog X.w X.K X.mg X.base k f fd ps (spI G M 2 (dot c "__eq__"))) (ec : EqC X.K (G.cl c) f) (hb : Binds X.K fd ps []) : OpR X (compareOp .Eq) (rOeq G M c false) := by
  intro pins s σ H x y v u Q I rx ry ⟨ρ, S, a, b, s0, hva, hvb, hM, hY, hp⟩
  obtain ⟨a', dx, fs, rfl, ea, l⟩ := hasM_of s0 hva hM
  obtain rfl : v = Value.ref a' := rx
  obtain ⟨mA, J, _⟩ := ins_get I.hok ea
  obtain ⟨od, J, _⟩ := J.look
  obtain ⟨m', hF⟩ := I.fr
  have hr : Room k X.A := g.room.mono (by omega)
  have body : wpAny (model X.prog X.w) X.A (call (.ref f) [.ref a', u]) (PySem.W.CmpBack (EP X pins σ Q)) X.xe s := wpAny_mono (eq_call (E' := X.xe) (ng := false) F hr g.grd rfl hb I s0 hva hvb rfl ry hp) (fun z s' ⟨d, H', e, I', q⟩ => by
    subst e
    exact ⟨.bl d, H', I', rfl, q⟩) fun _ _ z => z
  show wpAny _ _ (richCompare .Eq (.ref a') u) _ _ _
  rcases eqY_looks (Mo := model X.prog X.w) g I s0 hvb ry hY with lk | lk
  · exact PySem.W.cmp_K (op := .Eq) (tb := .ref (G.cl c)) hr.units0 hF I.ok.mod.kin J lk (by simp [PySem.W.notFirst]) ec.eq ec.fn body
  · exact PySem.W.cmp_K (op := .Eq) (tb := .type "list") hr.units0 hF I.ok.mod.kin J lk ec.nf ec.eq ec.fn body
end
section
variable {prog : Program} {w : World} {A : Around} {E : Value → Shared → Prop} {s : Shared} {K : PySem.W.Frag} {x C L f : Addr} {h₀ : Heap} {m : Str → Option Value} {ox : Obj} {od : Option Obj} {b : Value}
theorem ifBound_ne {Mo : Model} {args : List Value} {Q : Option Value → Shared → Prop} (X : K.In s.heap) (I : PySem.W.InstAt s.heap x ox C od) (hs : PySem.W.findIn K (.ref C) "__ne__" = some (some (.builtin "object.__ne__")))
    (h : wpAny Mo A (call (.builtin "object.__ne__") (.ref x :: args)) (fun v => Q (some v)) E s) : wpAny Mo A (callSpecialIfBound? (.ref x) "__ne__" args) Q E s := by
  have hb : wpAny Mo A (call (.builtin "object.__ne__") ([.ref x] ++ args) >>= fun v => pure (some v)) Q E s := wpAny_bind (wpAny_mono h (fun v s' h' => wpAny_pure h') fun _ _ z => z)
  simp only [callSpecialIfBound?, bindSpecialIfBound?]
  refine wpAny_holding (wpAny_bind (wpAny_bind (wpAny_bind (I.type.here ((PySem.W.looks_findIn X hs).here (wpAny_bind (wpAny_askSetting (wpAny_ite ?_))))))))
  split
  · exact wpAny_bind (wpAny_of_eq (F.cmp_object.ne.bind _) (wpAny_pure (by exact hb)))
  · exact wpAny_tryCatch (wpAny_bind (wpAny_of_eq (F.cmp_object.ne.bind _) (wpAny_pure (by exact hb))))
theorem entry_neK {Q : PySem.Fin → Shared → Prop} (X : K.In s.heap) (I : PySem.W.InstAt s.heap x ox C od) (he : PySem.W.findIn K (.ref C) "__eq__" = some (some (.ref f))) (hf : PySem.W.isFn K (.ref f) = true) (hu : A.units < cLine)
    (h : wpAny (model prog w) A (call (.ref f) [.ref x, b]) (fun v s' => ∃ d, v = .bool d ∧ Q (.done (.ret (.bool (!d)))) s') E s) : wpAny (model prog w) A (Builtin.«object.__ne__» ⟨[.ref x, b], []⟩) Q E s := by
  unfold Builtin.«object.__ne__»
  repeat (first
    | with_reducible refine wpAny_cRoomFor hu ?_
    | (refine wpAny_bind (m := callSpecialIfBound? (.ref x) (Str.ofString "__eq__") [b]) (PySem.W.ifBound_K X I he hf (wpAny_mono h (fun r s' hr => by
          obtain ⟨d, rfl, q⟩ := hr
          repeat (first | exact q | exact wpAny_pure q | exact wpAny_truthy_bool q | (refine wpAny_bind (m := truthy (.bool _)) (wpAny_truthy_bool ?_)) | wp_step)) fun _ _ z => z)))
    | wp_step)
theorem ne_K {tb : Value} {Q : Value → Shared → Prop} (hu : A.units + 1 < cLine) (Fr0 : Fr h₀ L s.heap m) (X₀ : K.In h₀) (I : PySem.W.InstAt s.heap x ox C od) (hb : PySem.W.Looks (model prog w) s.heap (typeOf b) tb) (hn : PySem.W.notFirst K C tb = true) (hs : PySem.W.findIn K (.ref C) "__ne__" = some (some (.builtin "object.__ne__")))
    (he : PySem.W.findIn K (.ref C) "__eq__" = some (some (.ref f))) (hf : PySem.W.isFn K (.ref f) = true) (ho : PySem.W.mroIn K C (.type "object") = some true)
    (h : wpAny (model prog w) A.in1 (call (.ref f) [.ref x, b]) (fun v s' => ∃ d, v = .bool d ∧ Q (.bool (!d)) s') E s) : wpAny (model prog w) A (richCompare .NotEq (.ref x) b) Q E s := by
  have X := X₀.keeps Fr0.keep
  have one : wpAny (model prog w) A (tryCompare (.ref x) "__ne__" b) (fun r s' => ∃ v, r = some v ∧ Q v s') E s := by
    unfold tryCompare
    refine wpAny_bind (ifBound_ne X I hs (wpAny_call (codeAny_call_builtin F.cmp_object.ne.plain F.cmpEntry_ne (PySem.W.check_slot F.cmpKind_ne F.cmpSplit_ne (I.type.andThen (PySem.W.looks_mroIn X ho)) (F.cmpArgs_ne _ _) (entry_neK (A := A.in1) X I he hf (by show A.units + 1 < cLine; exact hu) (wpAny_mono h (fun v s' hv => ?_) fun _ _ z => z))))))
    obtain ⟨d, rfl, q⟩ := hv
    first
      | exact ⟨d, rfl, ⟨_, rfl, wpAny_pure ⟨_, rfl, q⟩⟩⟩
      | exact ⟨d, rfl, wpAny_pure ⟨_, rfl, q⟩⟩
  unfold richCompare
  simp only [oneThing_ref]
  refine wpAny_holding (wpAny_bind (wpAny_cRoomFor (by omega) ?_))
  refine wpAny_bind (I.type.here (wpAny_bind (hb.here ?_)))
  have go : ∀ {Q' : Option Value → Shared → Prop}, (∀ v s', Q v s' → Q' (some v) s') → wpAny (model prog w) A (tryCompare (.ref x) "__ne__" b) Q' E s := fun k => wpAny_mono one (fun r s' ⟨v, e, q⟩ => by subst e; exact k v s' q) fun _ _ z => z
  split
  · rename_i ne
    have e : PySem.W.subIn K tb (.ref C) = some false := (Bool.or_eq_true_iff.mp hn).elim (fun z => by rw [beq_iff_eq.mp z] at ne; simp at ne) fun z => beq_iff_eq.mp z
    refine wpAny_bind ((PySem.W.looks_subIn X e).here ?_)
    simp only [Bool.false_eq_true, if_false]
    exact wpAny_bind (go fun v s' q => wpAny_pure q)
  · refine wpAny_bind (wpAny_pure ?_)
    simp only [Bool.false_eq_true, if_false]
    exact wpAny_bind (go fun v s' q => wpAny_pure q)
end
section
variable {G : Glb} {k n : Nat} {X : Cx} {M : Mach} {W : WX} {f : Addr} {fd : FuncData} {ps : List Str} {c : Str} {a b : Expr} {ca cb : E} {pos : Pos}
theorem op_one (g : Good G (k + 3) X) (F : FnG X.prog X.w X.K X.mg X.base k f fd ps (spI G M 2 (dot c "__eq__"))) (ec : EqC X.K (G.cl c) f) (hb : Binds X.K fd ps []) : OpR X (compareOp .NotEq) (rOeq G M c true) := by
  intro pins s σ H x y v u Q I rx ry ⟨ρ, S, a, b, s0, hva, hvb, hM, hY, hp⟩
  obtain ⟨a', dx, fs, rfl, ea, l⟩ := hasM_of s0 hva hM
  obtain rfl : v = Value.ref a' := rx
  obtain ⟨mA, J, _⟩ := ins_get I.hok ea
  obtain ⟨od, J, _⟩ := J.look
  obtain ⟨m', hF⟩ := I.fr
  have hr : Room k X.A.in1 := (g.room.mono (by omega : k + 1 ≤ k + 3)).in1
  have body : wpAny (model X.prog X.w) X.A.in1 (call (.ref f) [.ref a', u]) (fun z s' => ∃ d, z = .bool d ∧ EP X pins σ Q (.bool (!d)) s') X.xe s := wpAny_mono (eq_call (E' := X.xe) (ng := true) F hr g.grd rfl hb I s0 hva hvb rfl ry hp) (fun z s' ⟨d, H', e, I', q⟩ => ⟨d, e, .bl (!d), H', I', rfl, q⟩) fun _ _ z => z
  show wpAny _ _ (richCompare .NotEq (.ref a') u) _ _ _
  rcases eqY_looks (Mo := model X.prog X.w) g I s0 hvb ry hY with lk | lk
  · exact ne_K g.u1 hF I.ok.mod.kin J lk (by simp [PySem.W.notFirst]) ec.ne ec.eq ec.fn ec.ob body
  · exact ne_K g.u1 hF I.ok.mod.kin J lk ec.nf ec.ne ec.eq ec.fn ec.ob body
theorem tOeq (ng : Bool) {σ : L2.St} {H : Hp} {Q : VK} (h : tE G M W (.oeq c ng ca cb) σ H Q) : tOp (rOeq G M c ng) (tE G M W ca) (tE G M W cb) σ H Q := by
  obtain ⟨ρ, η, S, s, r, h⟩ := h
  simp only [ev] at h
  refine ⟨ρ, η, S, s, r, (PR.bind h).mono fun ρ1 H1 x S1 st1 s1 h1 v hv => ⟨ρ1, η, S1, s1, r.step st1, (PR.bind h1).mono fun ρ2 H2 y S2 st2 s2 h2 w hw => ?_⟩⟩
  split at h2
  · rename_i hc
    rw [Bool.and_eq_true] at hc
    refine ⟨ρ2, S2, x, y, s2, hv.step st2, hw, hc.1, hc.2, noX_ok ((PR.bind h2).mono fun ρ3 H3 z S3 st3 s3 h3 => ?_)⟩
    split at h3
    · exact ⟨_, rfl, h3.here s3 _ (by simp only [VR])⟩
    · exact h3.elim
  · exact h2.elim
theorem tOeqT (ng : Bool) {σ : L2.St} {H : Hp} {Q : Bool → Hp → Prop} (h : tQ G M W (.oeq c ng ca cb) σ H Q) : tTest (tOp (rOeq G M c ng) (tE G M W ca) (tE G M W cb)) σ H Q := by
  refine tOeq ng (Q := fun x H' => ∃ d, x = .bl d ∧ Q d H') ?_
  obtain ⟨ρ, η, S, s, r, h⟩ := h
  exact ⟨ρ, η, S, s, r, h.mono fun ρ1 H1 x S1 st1 s1 ⟨d, e, q⟩ v hv => by
    subst e
    simp only [VR] at hv
    exact ⟨d, hv, q⟩⟩
theorem pe_oeqi (g : Good G (k + 3) X) (F : FnG X.prog X.w X.K X.mg X.base k f fd ps (spI G M 2 (dot c "__eq__"))) (ec : EqC X.K (G.cl c) f) (hb : Binds X.K fd ps []) (ha : PE X a (tE G M W ca)) (hb2 : PE X b (tE G M W cb)) (hm : behindInMarks .Eq b = false) : PE X (.Compare a [.Eq] [b] pos) (tE G M W (.oeq c false ca cb)) :=
  (pe_cmpR (op_oeq g F ec hb) ha hb2 hm).imp fun _ _ _ h => tOeq false h
theorem pt_oeqi (g : Good G (k + 3) X) (F : FnG X.prog X.w X.K X.mg X.base k f fd ps (spI G M 2 (dot c "__eq__"))) (ec : EqC X.K (G.cl c) f) (hb : Binds X.K fd ps []) (ha : PE X a (tE G M W ca)) (hb2 : PE X b (tE G M W cb)) (hm : behindInMarks .Eq b = false) : PT X (.Compare a [.Eq] [b] pos) (tQ G M W (.oeq c false ca cb)) :=
  (pt_cmpR (op_oeq g F ec hb) ha hb2 hm).imp fun _ _ _ h => tOeqT false h
theorem pe_onei (g : Good G (k + 3) X) (F : FnG X.prog X.w X.K X.mg X.base k f fd ps (spI G M 2 (dot c "__eq__"))) (ec : EqC X.K (G.cl c) f) (hb : Binds X.K fd ps []) (ha : PE X a (tE G M W ca)) (hb2 : PE X b (tE G M W cb)) (hm : behindInMarks .NotEq b = false) : PE X (.Compare a [.NotEq] [b] pos) (tE G M W (.oeq c true ca cb)) :=
  (pe_cmpR (op_one g F ec hb) ha hb2 hm).imp fun _ _ _ h => tOeq true h
theorem pt_onei (g : Good G (k + 3) X) (F : FnG X.prog X.w X.K X.mg X.base k f fd ps (spI G M 2 (dot c "__eq__"))) (ec : EqC X.K (G.cl c) f) (hb : Binds X.K fd ps []) (ha : PE X a (tE G M W ca)) (hb2 : PE X b (tE G M W cb)) (hm : behindInMarks .NotEq b = false) : PT X (.Compare a [.NotEq] [b] pos) (tQ G M W (.oeq c true ca cb)) :=
  (pt_cmpR (op_one g F ec hb) ha hb2 hm).imp fun _ _ _ h => tOeqT true h
end
end Oz
set_option Elab.async false
set_option linter.all false
set_option maxRecDepth 100000
set_option maxHeartbeats 4000000
set_option autoImplicit false
/-! Oz: classes that are called, isinstance, displays. -/
namespace Oz
open PySem L2 PyProof.Rows

section
variable {G : Glb} {k n : Nat} {X : Cx} {M : Mach} {W : WX} {f : Addr} {fd : FuncData} {ps ks : List Str} {q c m x : Str} {a b e : Expr} {es : List Expr} {ca cb : E} {ces kes : Es} {p pos apos kpos : Pos} {dxs : List Vl} {dvs : List V} {mv : List Value} {kws : List Keyword} {nm : Option Str}
def Es.cat : Es → Es → Es
  | .nil, b => b
  | .cons e a, b => .cons e (a.cat b)
theorem evs_cat : ∀ (a b : Es) (η : Sg) (S : Hs), evs M (a.cat b) η S = (evs M a η S).bind fun xs S1 => (evs M b η S1).bind fun ys S2 => .ok (xs ++ ys) S2
  | .nil, b, η, S => by
    simp only [Es.cat, evs, Res.bind, List.nil_append]
    cases evs M b η S <;> rfl
  | .cons e a, b, η, S => by
    simp only [Es.cat, evs]
    cases ev M e η S with
    | ok x S1 =>
      simp only [Res.bind]
      rw [evs_cat a b η S1]
      cases evs M a η S1 with
      | ok xs S2 => simp only [Res.bind]; cases evs M b η S2 <;> rfl
      | exc x S2 => rfl
      | bad => rfl
    | exc x S1 => rfl
    | bad => rfl
theorem _root_.L2.PK.imp {X : Cx} {kws : List Keyword} {t t' : TA} (h : PK X kws t) (k : ∀ σ H Q, t' σ H Q → t σ H Q) : PK X kws t' := ⟨fun pos pins s σ H Q I q => h.run pos pins s σ H Q I (k σ H Q q)⟩
theorem pk_n : PK X [] (tA G M W .nil) := pk_nil.imp fun σ H Q ⟨ρ, η, S, s, r, h⟩ => by
  simp only [evs] at h
  exact h.here s _ VRs.nil
theorem pk_c (ha : PE X a (tE G M W ca)) (hr : PK X kws (tA G M W ces)) : PK X (⟨nm, a, kpos⟩ :: kws) (tA G M W (.cons ca ces)) := (pk_cons ha hr).imp fun σ H Q ⟨ρ, η, S, s, r, h⟩ => ⟨ρ, η, S, s, r, by
  simp only [evs] at h
  refine (PR.bind h).mono fun ρ1 H1 x S1 st1 s1 h1 v hv => ⟨ρ1, η, S1, s1, r.step st1, ?_⟩
  exact PR.mono (PR.bind h1) fun ρ2 H2 xs S2 st2 s2 h2 vs hvs => (h2.here s2) _ (VRs.cons (hv.step st2) hvs)⟩
theorem run_mkK {C : Addr} {sp : Sp} {pins : List (Addr × Obj)} {σ : L2.St} {H : Hp} {s : Shared} {Q : VK} {us ws : List Value} {vs zs : List V} (mk : Mk X.K C f) (F : FnG X.prog X.w X.K X.mg X.base k f fd ps sp) (hr : Room (k + 1) X.A) (hg : X.A.guards = some []) (hb : KBn X.K fd ps (n + 1) ks (fun us ws => us ++ ws ++ mv) (fun vs zs => vs ++ zs ++ dvs)) (tk : Takes X W)
    (I : Inv X pins σ H s) (r : Vals vs us) (rz : Vals zs ws) (l1 : vs.length = n) (l2 : zs.length = ks.length)
    (h : ∀ x dx, H x = none → H dx = none → dx ≠ x → sp (.ref x :: (vs ++ zs ++ dvs)) (upd (upd H dx (.own x)) x (.ins C dx [])) (fun v H2 => v = .non ∧ Q (.ref x) H2) (fun c d H' => W c d σ H')) :
    wpAny (model X.prog X.w) X.A (call (.ref C) us (ks.zip ws)) (EP X pins σ Q) X.xe s := by
  have q0 := h (s.heap.objs.size + 1) s.heap.objs.size (I.hok.fresh (Nat.le_succ _)) (I.hok.fresh (Nat.le_refl _)) (Nat.ne_of_lt (Nat.lt_succ_self _))
  have J := Inv.made (C := C) I
  have r1 : Vals (V.ref (s.heap.objs.size + 1) :: vs) (Value.ref (s.heap.objs.size + 1) :: us) := .cons rfl r
  have rr := hb.rel r1 rz
  have n1 : (Value.ref (s.heap.objs.size + 1) :: us).length = n + 1 := by rw [List.length_cons, ← r.length, l1]
  refine wpAny_call (make_map (f := f) I.kIn mk.makes mk.init (beq_iff_eq.mp mk.fn) (codeAny_mono (F.run _ X.stack _ _ ⟨Value.ref (s.heap.objs.size + 1) :: us, ks.zip ws⟩ _ _ _ _ (hr.make C us (ks.zip ws)) (guards_make hg)
    (J.env0.make C us (ks.zip ws)) (hb.to _ (Value.ref (s.heap.objs.size + 1) :: us) ws J.kIn n1 (rz.length.symm.trans l2)) rr q0) ?_))
  intro r' s' hq
  match r', hq with
  | .error e, hq => exact raised (σ := σ) tk J hq
  | .ok (.ret u), hq =>
    obtain ⟨v, H', J3, rv, ev, q3⟩ := J.after hq
    subst ev
    exact ⟨rv, V.ref (s.heap.objs.size + 1), H', J3, rfl, q3⟩
  | .ok .next, hq => exact hq.elim
  | .ok .brk, hq => exact hq.elim
  | .ok .cont, hq => exact hq.elim
theorem newR_ok {ρ ρ0 : List Addr} {H H0 : Hp} {S S0 : Hs} {σ : L2.St} {Q : VK} {r : Res Rv} {y dx : Addr} (s0 : Sim G ρ0 H0 S0) (st0 : Step ρ0 H0 ρ H) (s : Sim G ρ H S) (hy : H y = none) (hdx : H dx = none) (ne : dx ≠ y)
    (h : PR G W σ ρ H (newR S r) (okF G H0 Q)) : PR G (fun cls d _ H' => W cls d σ H') [] (ρ ++ [y]) (upd (upd H dx (.own y)) y (.ins (G.cl c) dx [])) r (okR G (upd (upd H dx (.own y)) y (.ins (G.cl c) dx [])) fun v H2 => v = .non ∧ Q (.ref y) H2) := by
  generalize hHn : upd (upd H dx (.own y)) y (.ins (G.cl c) dx []) = Hn
  have keep : ∀ a o, H a = some o → Hn a = some o := fun a o e => by
    rw [← hHn, upd_ne (fun z => by subst z; rw [hy] at e; cases e), upd_ne (fun z => by subst z; rw [hdx] at e; cases e)]
    exact e
  have yρ : y ∉ ρ := s.free hy
  have cutS : ∀ {H2 : Hp}, Step (ρ ++ [y]) Hn (ρ ++ [y]) H2 → Step ρ H ρ H2 := fun {H2} st => ⟨List.prefix_refl _, fun a o e na => st.keep a o (keep a o e) (fun z => (List.mem_append.mp z).elim na fun z => (by rw [List.mem_singleton.mp z, hy] at e; cases e)), fun a ha => Or.inl ha⟩
  cases r with
  | bad => exact h
  | exc x' T =>
    simp only [newR] at h
    split at h
    · rename_i hc
      refine fun ρ2 H2 st s2 => ?_
      have e2 : ρ2 = ρ ++ [y] := pre_eq st.pre (by rw [s2.len, hc.1, List.length_append, s.len]; rfl)
      subst e2
      have hT : T ≠ [] := fun z => by rw [z] at hc; simp at hc
      have eT : T.dropLast ++ [T.getLast hT] = T := List.dropLast_concat_getLast hT
      have ld : T.dropLast.length = S.length := by rw [List.length_dropLast, hc.1]; rfl
      have sc : Sim G ρ H2 T.dropLast := Sim.cut (τ := [y]) (T := [T.getLast hT]) (by rw [eT]; exact s2) (by rw [ld]; exact s.len) fun r o e => by
        rw [ld]; exact List.all_eq_true.mp hc.2.1 o (List.mem_of_getElem? e)
      have q := h ρ H2 (cutS st) sc
      have hx := hc.2.2
      unfold XW at q ⊢
      unfold Xc.lim at hx
      split at q
      · exact q
      · rename_i ns vs e
        exact fun d fs h1 h2 h3 h4 => q d fs h1 (fun z => h2 (List.mem_append_left _ z)) h3 (VRs.less _ _ h4 (by rw [s.len]; have z := hx; rw [e] at z; exact z))
    · exact h.elim
  | ok rv T =>
    cases rv with
    | frs o => exact h.elim
    | val v =>
      cases v with
      | non =>
        simp only [newR] at h
        split at h
        · rename_i o eo
          split at h
          · rename_i hc
            refine fun ρ2 H2 st s2 => ?_
            have e2 : ρ2 = ρ ++ [y] := pre_eq st.pre (by rw [s2.len, hc.1, List.length_append, s.len]; rfl)
            subst e2
            have hT : T ≠ [] := fun z => by rw [z] at eo; cases eo
            have eT : T.dropLast ++ [o] = T := by
              rw [List.getLast?_eq_getLast hT] at eo
              rw [← Option.some.inj eo]
              exact List.dropLast_concat_getLast hT
            have ld : T.dropLast.length = S.length := by rw [List.length_dropLast, hc.1]; rfl
            have all := List.all_eq_true.mp hc.2
            have s2' : Sim G (ρ ++ [y]) H2 (T.dropLast ++ [o]) := by rw [eT]; exact s2
            have sc : Sim G ρ H2 T.dropLast := Sim.cut (τ := [y]) (T := [o]) s2' (by rw [ld]; exact s.len) fun r u e => by
              rw [ld]; exact all u (by rw [← eT]; exact List.mem_append_left _ (List.mem_of_getElem? e))
            have q := h ρ H2 (cutS st) sc
            have lo : o.lim ρ.length = true := by rw [s.len]; exact all o (by rw [← eT]; simp)
            have hr : (ρ ++ [y])[T.dropLast.length]? = some y := by rw [ld, ← s.len]; simp
            intro v hv
            simp only [VR] at hv
            exact ⟨hv, q y (none_of s0 s st0 hy) yρ (OR.less (s2'.at_ T.dropLast.length o y (by simp) hr) lo) s2'⟩
          · exact h.elim
        · exact h.elim
      | _ => exact h.elim
def tNw (G : Glb) (M : Mach) (c : Str) (W : WX) (n m : Nat) (ces kes : Es) (dxs : List Vl) : TE := fun σ H Q => ∃ ρ η S, Sim G ρ H S ∧ ER G ρ H η σ ∧ PR G W σ ρ H (evs M ces η S) fun ρ1 H1 xs S1 => xs.length = n ∧ PR G W σ ρ1 H1 (evs M kes η S1) fun ρ2 H2 ys S2 => ys.length = m ∧
  PR G W σ ρ2 H2 (newR S2 (M.cal (dot c "__init__") (.ref S2.length :: (xs ++ ys ++ dxs)) (S2 ++ [.ins c [] []]))) (okF G H Q)
theorem tNw_of {σ : L2.St} {H : Hp} {Q : VK} (hn : ces.len = n) (hk : kes.len = ks.length) (h : tF G M W (.new c ((ces.cat kes).app dxs)) σ H Q) : tNw G M c W n ks.length ces kes dxs σ H Q := by
  obtain ⟨ρ, η, S, s0, r, h⟩ := h
  simp only [evf] at h
  rw [evs_app, evs_cat] at h
  refine ⟨ρ, η, S, s0, r, ?_⟩
  cases e1 : evs M ces η S with
  | ok xs S1 =>
    rw [e1] at h
    simp only [Res.bind] at h
    refine fun ρ1 H1 st s => ⟨by rw [evs_len _ _ _ _ _ e1]; exact hn, ?_⟩
    have h := PR.step h st
    cases e2 : evs M kes η S1 with
    | ok ys S2 =>
      rw [e2] at h
      exact fun ρ2 H2 st2 s2 => ⟨by rw [evs_len _ _ _ _ _ e2]; exact hk, PR.step h st2⟩
    | exc x S2 => rw [e2] at h; exact h
    | bad => rw [e2] at h; exact h
  | exc x S1 => rw [e1] at h; exact h
  | bad => rw [e1] at h; exact h
/-- the parts of a new instance's start -/
theorem new_start {ρ : List Addr} {H : Hp} {S : Hs} {y dx : Addr} (s : Sim G ρ H S) (hy : H y = none) (hdx : H dx = none) (ne : dx ≠ y) : Step ρ H (ρ ++ [y]) (upd (upd H dx (.own y)) y (.ins (G.cl c) dx [])) ∧ Sim G (ρ ++ [y]) (upd (upd H dx (.own y)) y (.ins (G.cl c) dx [])) (S ++ [.ins c [] []]) := by
  have sm : Same H (upd H dx (.own y)) := same_new hdx
  have hy2 : (upd H dx (.own y)) y = none := by rw [upd_ne (Ne.symm ne)]; exact hy
  have s1 := s.same sm
  have st1 : Step ρ H ρ (upd H dx (.own y)) := stepSame sm
  have s2 := s1.new (u := .ins (G.cl c) dx []) (o := .ins c [] []) hy2 ⟨dx, [], upd_same, rfl, VRs.nil⟩
  exact ⟨st1.trans ((stepSame (same_new hy2)).one hy2), s2⟩
theorem new_sp {ρ ρ0 : List Addr} {H H0 : Hp} {S S0 : Hs} {σ : L2.St} {Q : VK} {xs : List Vl} {vs : List V} {y dx : Addr} (s0 : Sim G ρ0 H0 S0) (st0 : Step ρ0 H0 ρ H) (s : Sim G ρ H S) (hy : H y = none) (hdx : H dx = none) (ne : dx ≠ y) (hv : VRs G ρ H xs vs) (hl : xs.length + 1 = n)
    (h : PR G W σ ρ H (newR S (M.cal (dot c "__init__") (.ref S.length :: xs) (S ++ [.ins c [] []]))) (okF G H0 Q)) : spI G M n (dot c "__init__") (.ref y :: vs) (upd (upd H dx (.own y)) y (.ins (G.cl c) dx [])) (fun v H2 => v = .non ∧ Q (.ref y) H2) (fun c d H' => W c d σ H') := by
  obtain ⟨st, sn⟩ := new_start (c := c) s hy hdx ne
  refine ⟨by rw [List.length_cons, ← hv.length]; exact hl, ρ ++ [y], S ++ [.ins c [] []], .ref S.length :: xs, sn, VRs.cons ?_ (hv.step st), newR_ok s0 st0 s hy hdx ne h⟩
  simp only [VR]
  exact ⟨y, rfl, by rw [← s.len]; simp⟩
theorem pf_newK (g : Good G (k + 1) X) (F : FnG X.prog X.w X.K X.mg X.base k f fd ps (spI G M (n + 1 + ks.length + dxs.length) (dot c "__init__"))) (mk : Mk X.K (G.cl c) f) (hg : Gl X x) (hm : X.mg x = some (.ref (G.cl c))) (hb : KBn X.K fd ps (n + 1) ks (fun us ws => us ++ ws ++ mv) (fun vs zs => vs ++ zs ++ dvs)) (hc : Csts G dxs dvs) (tk : Takes X W)
    (ha : PA X (e :: es) (tA G M W ces)) (hkw : PK X kws (tA G M W kes)) (hn : ces.len = n) (hk : kes.len = ks.length) (hall : (backToKw pos (keywordEach kws X.env)).all (·.1.isSome) = true := by rfl) (hks : (backToKw pos (keywordEach kws X.env)).filterMap (·.1) = ks := by rfl) (hdb : (x == ("__debug__" : Str)) = false := by decide)
    (he : starEach (e :: es) X.env = (false, eval e X.env) :: starEach es X.env := by rfl) (hpl : ((backTo pos (starEach (e :: es) X.env)).any (·.1) || (backToKw pos (keywordEach kws X.env)).any (·.1.isNone)) = false := by rfl) :
    PE X (.Call (.Name x p) (e :: es) kws pos) (tF G M W (.new c ((ces.cat kes).app dxs))) := by
  refine ⟨fun pins s σ H Q I h0 => ?_⟩
  obtain ⟨ρ, η, S, s0, r, h⟩ := tNw_of (ks := ks) hn hk h0
  refine wpAny_Call_Name_kw (ld_glob I hg hm ?_ hdb)
  refine PySem.W.callWith_KW (h₀ := X.base) I.ok.mod.kin mk.kp hall (thn (ha.run pos pins s σ H (fun vs H1 => ∃ xs ρ1 S1, Step ρ H ρ1 H1 ∧ Sim G ρ1 H1 S1 ∧ VRs G ρ1 H1 xs vs ∧ xs.length = n ∧ PR G W σ ρ1 H1 (evs M kes η S1) fun ρ2 H2 ys S2 => ys.length = ks.length ∧
    PR G W σ ρ2 H2 (newR S2 (M.cal (dot c "__init__") (.ref S2.length :: (xs ++ ys ++ dxs)) (S2 ++ [.ins c [] []]))) (okF G H Q)) I ⟨ρ, η, S, s0, r, h.mono fun ρ1 H1 xs S1 st1 s1 h1 vs hv => ⟨xs, ρ1, S1, st1, s1, hv, h1⟩⟩) fun us s1 ⟨vs, H1, I1, rv, xs, ρ1, S1, st1, sm1, hv, hl, hp⟩ => ?_) hpl he
  refine thn (hkw.run pos pins s1 σ H1 (fun zs H2 => ∃ ys ρ2 S2, Step ρ1 H1 ρ2 H2 ∧ Sim G ρ2 H2 S2 ∧ VRs G ρ2 H2 ys zs ∧ ys.length = ks.length ∧ PR G W σ ρ2 H2 (newR S2 (M.cal (dot c "__init__") (.ref S2.length :: (xs ++ ys ++ dxs)) (S2 ++ [.ins c [] []]))) (okF G H Q)) I1 ⟨ρ1, η, S1, sm1, r.step st1, hp.mono fun ρ2 H2 ys S2 st2 s2 h2 vs hv => ⟨ys, ρ2, S2, st2, s2, hv, h2⟩⟩) fun ws s2 ⟨zs, H2, I2, rz, ys, ρ2, S2, st2, sm2, hz, hl2, hp2⟩ => ⟨I2.kIn, ?_⟩
  rw [hks]
  refine run_mkK mk F g.room g.grd hb tk I2 rv rz (by rw [← hv.length]; exact hl) (by rw [← hz.length]; exact hl2) fun y dx hy hdx ne => ?_
  exact new_sp s0 (st1.trans st2) sm2 hy hdx ne (((hv.step st2).append hz).append (hc _ _)) (by simp only [List.length_append]; omega) hp2
theorem pf_new (g : Good G (k + 1) X) (F : FnG X.prog X.w X.K X.mg X.base k f fd ps (spI G M (n + 1 + dxs.length) (dot c "__init__"))) (mk : Mk X.K (G.cl c) f) (hg : Gl X x) (hm : X.mg x = some (.ref (G.cl c))) (hb : KBn X.K fd ps (n + 1) [] (fun us ws => us ++ ws ++ mv) (fun vs zs => vs ++ zs ++ dvs)) (hc : Csts G dxs dvs) (tk : Takes X W)
    (ha : PA X (e :: es) (tA G M W ces)) (hn : ces.len = n) (hdb : (x == ("__debug__" : Str)) = false := by decide) (he : starEach (e :: es) X.env = (false, eval e X.env) :: starEach es X.env := by rfl) (hpl : (backTo pos (starEach es X.env)).any (·.1) = false := by rfl) :
    PE X (.Call (.Name x p) (e :: es) [] pos) (tF G M W (.new c (ces.app dxs))) := by
  refine ⟨fun pins s σ H Q I h0 => ?_⟩
  have ecat : ces.cat .nil = ces := by
    have : ∀ c : Es, c.cat .nil = c := fun c => by
      induction c using Es.rec (motive_1 := fun _ => True) (motive_2 := fun _ => True) (motive_3 := fun _ => True) (motive_5 := fun _ => True) <;> first | trivial | rfl | (simp only [Es.cat]; rename_i ih; rw [ih])
    exact this ces
  obtain ⟨ρ, η, S, s0, r, h⟩ := tNw_of (ks := []) (kes := .nil) hn rfl (by rw [ecat]; exact h0)
  refine wpAny_Call_Name_kw (ld_glob I hg hm ?_ hdb)
  refine PySem.W.callWith_K (h₀ := X.base) I.ok.mod.kin mk.kp (thn (ha.run pos pins s σ H (fun vs H1 => ∃ xs ρ1 S1, Step ρ H ρ1 H1 ∧ Sim G ρ1 H1 S1 ∧ VRs G ρ1 H1 xs vs ∧ xs.length = n ∧ PR G W σ ρ1 H1 (evs M .nil η S1) fun ρ2 H2 ys S2 => ys.length = 0 ∧
    PR G W σ ρ2 H2 (newR S2 (M.cal (dot c "__init__") (.ref S2.length :: (xs ++ ys ++ dxs)) (S2 ++ [.ins c [] []]))) (okF G H Q)) I ⟨ρ, η, S, s0, r, h.mono fun ρ1 H1 xs S1 st1 s1 h1 vs hv => ⟨xs, ρ1, S1, st1, s1, hv, h1⟩⟩) fun us s1 ⟨vs, H1, I1, rv, xs, ρ1, S1, st1, sm1, hv, hl, hp⟩ => ⟨I1.kIn, ?_⟩) he hpl
  simp only [evs] at hp
  obtain ⟨_, hp2⟩ := hp.here sm1
  rw [List.append_nil] at hp2
  refine run_mkK (ks := []) (ws := []) (zs := []) mk F g.room g.grd hb tk I1 rv .nil (by rw [← hv.length]; exact hl) rfl fun y dx hy hdx ne => ?_
  rw [List.append_nil]
  exact new_sp s0 st1 sm1 hy hdx ne (hv.append (hc _ _)) (by simp only [List.length_append]; omega) hp2
end
/-! ### isinstance -/
/-- what the classes have that stand behind instances -/
structure ClsAll (K : PySem.W.Frag) (C : Addr) : Prop where
  cls : Cls K C
  ha : PySem.W.findIn K (.ref C) "__class__" = some (some (.builtin "object.__class__"))
  hn : PySem.W.specialIn K (.builtin "object.__class__") "__get__" = some (some (.builtin "getset_descriptor.__get__"))
  htk : PySem.W.takesIn K (.builtin "object.__class__") = some true
  hm : PySem.W.mroIn K C (.type "object") = some true
def tyT (G : Glb) (S : Hs) : Vl → Value
  | .non => .type "NoneType" | .bl _ => .type "bool" | .int _ => .type "int" | .str _ => .type "str"
  | .tup _ => .type "tuple" | .lst _ => .type "list" | .dct _ _ => .type "dict" | .obj c _ _ => .ref (G.cl c)
  | .ref r => match S[r]? with
    | some (.lst _) => .type "list"
    | some (.dct _ _) => .type "dict"
    | some (.ins c _ _) => .ref (G.cl c)
    | none => .none
section
variable {G : Glb} {k n : Nat} {X : Cx} {M : Mach} {W : WX} {f : Addr} {c : Str} {a b e : Expr} {es : List Expr} {ca cb : E} {ces kes : Es} {p pos : Pos}
theorem ty_of {ρ : List Addr} {H : Hp} {S : Hs} {x : Vl} {v : V} (hC : ∀ c, ClsAll G.K (G.cl c)) (s : Sim G ρ H S) (h : VR G ρ H x v) : TyX G.K H v (tyT G S x) := by
  have ins : ∀ {a C dx : Addr} {fs : List (Str × V)}, (∃ c, C = G.cl c) → H a = some (.ins C dx fs) → TyX G.K H (.ref a) (.ref C) := fun ⟨c, e⟩ h => by
    subst e
    exact .base (.ins h (hC c).cls (hC c).ha (hC c).hn (hC c).htk (hC c).hm)
  cases x with
  | non => simp only [VR] at h; subst h; exact .base .non
  | bl d => simp only [VR] at h; subst h; exact .base (.bl d)
  | int d => simp only [VR] at h; subst h; exact .base (.int d)
  | str d => simp only [VR] at h; subst h; exact .base (.str d)
  | tup xs =>
    simp only [VR] at h
    obtain ⟨p, vs, rfl, h1, _⟩ := h
    rcases h1 with ⟨h1 | ⟨o, h1⟩, _⟩ | (h1 | ⟨o, h1⟩) | ⟨o, its, n, h1, h2, _⟩
    · exact .base (.tup h1)
    · exact .fTuple h1
    · cases h1
    · cases h1
    · exact .kTuple h1 h2
  | lst xs =>
    simp only [VR] at h
    obtain ⟨p, vs, rfl, ⟨h1 | ⟨o, h1⟩, _⟩, _⟩ := h
    · exact .base (.lst h1)
    · exact .base (.frz h1)
  | dct ks xs =>
    simp only [VR] at h
    obtain ⟨p, kvs, rfl, h1, _⟩ := h
    exact .base (.dK h1)
  | obj c ns xs =>
    simp only [VR] at h
    obtain ⟨p, dx, fs, rfl, h1, _⟩ := h
    exact ins ⟨c, rfl⟩ h1
  | ref r =>
    have h0 := h
    simp only [VR] at h
    obtain ⟨p, rfl, hr⟩ := h
    have hl : r < S.length := by rw [← s.len]; exact lt_of_get hr
    have eo : S[r]? = some S[r] := List.getElem?_eq_getElem hl
    obtain ⟨p', e, _, ho⟩ := s.ref h0 eo
    cases e
    unfold tyT
    simp only [eo]
    generalize S[r] = o at ho
    cases o with
    | lst xs => obtain ⟨vs, h1, _⟩ := ho; exact .base (.lst h1)
    | dct ks xs => obtain ⟨vs, h1, _⟩ := ho; exact .base (.dK h1)
    | ins c ns xs => obtain ⟨dx, vs, h1, _⟩ := ho; exact ins ⟨c, rfl⟩ h1
/-- answers for the built-in kinds of values: d for a dict, no for the others -/
structure IsT (K : PySem.W.Frag) (u : Value) (d : Bool) : Prop where
  non : PySem.W.kitOne K (.type "NoneType") u = some false
  bl : PySem.W.kitOne K (.type "bool") u = some false
  int : PySem.W.kitOne K (.type "int") u = some false
  str : PySem.W.kitOne K (.type "str") u = some false
  tup : PySem.W.kitOne K (.type "tuple") u = some false
  lst : PySem.W.kitOne K (.type "list") u = some false
  dct : PySem.W.kitOne K (.type "dict") u = some d
theorem isD_ans {S : Hs} {x : Vl} {u : Value} (it : IsT G.K u true) (hi : ∀ c, PySem.W.kitOne G.K (.ref (G.cl c)) u = some false) (hr : ∀ r, x = .ref r → r < S.length) : PySem.W.kitOne G.K (tyT G S x) u = some (dctOf S x).isSome := by
  cases x with
  | non => exact it.non
  | bl d => exact it.bl
  | int d => exact it.int
  | str d => exact it.str
  | tup xs => exact it.tup
  | lst xs => exact it.lst
  | dct ks xs => exact it.dct
  | obj c ns xs => exact hi c
  | ref r =>
    obtain ⟨o, eo⟩ : ∃ o, S[r]? = some o := ⟨S[r]'(hr r rfl), List.getElem?_eq_getElem _⟩
    unfold tyT dctOf
    simp only [eo]
    cases o with
    | lst xs => exact it.lst
    | dct ks xs => exact it.dct
    | ins c ns xs => exact hi c
theorem isC_ans {S : Hs} {x : Vl} {u : Value} (it : IsT G.K u false) (hr : ∀ r, x = .ref r → r < S.length) (h : insOf S x = none) : PySem.W.kitOne G.K (tyT G S x) u = some false := by
  cases x with
  | non => exact it.non
  | bl d => exact it.bl
  | int d => exact it.int
  | str d => exact it.str
  | tup xs => exact it.tup
  | lst xs => exact it.lst
  | dct ks xs => exact it.dct
  | obj c ns xs => simp [insOf] at h
  | ref r =>
    obtain ⟨o, eo⟩ : ∃ o, S[r]? = some o := ⟨S[r]'(hr r rfl), List.getElem?_eq_getElem _⟩
    unfold insOf at h
    unfold tyT
    simp only [eo] at h ⊢
    cases o with
    | lst xs => exact it.lst
    | dct ks xs => exact it.dct
    | ins c ns xs => simp at h
theorem ref_lt {ρ : List Addr} {H : Hp} {S : Hs} {x : Vl} {v : V} (s : Sim G ρ H S) (h : VR G ρ H x v) : ∀ r, x = .ref r → r < S.length := fun r e => by
  subst e
  simp only [VR] at h
  obtain ⟨p, _, hr⟩ := h
  rw [← s.len]; exact lt_of_get hr
theorem pe_isDi (g : Good G k X) (hC : ∀ c, ClsAll G.K (G.cl c)) (it : IsT G.K (.type "dict") true) (hi : ∀ c, PySem.W.kitOne G.K (.ref (G.cl c)) (.type "dict") = some false) (hg : Gl X "isinstance") (hm : X.mg "isinstance" = none) (ha : PE X a (tE G M W ca)) (hb : PE X b (L2.tC (.ty "dict")))
    (hs : starEach [a, b] X.env = (false, eval a X.env) :: starEach [b] X.env := by rfl) (hs2 : starEach [b] X.env = (false, eval b X.env) :: starEach [] X.env := by rfl) (hpl : (backTo pos (starEach [b] X.env)).any (·.1) = false := by rfl) :
    PE X (.Call (.Name "isinstance" p) [a, b] [] pos) (tE G M W (.isD ca)) := (pe_callB call_isi hg hm (by decide +kernel) (pa_cons ha (pa_cons hb pa_nil hs2) hs) (by decide) (by decide) hs hpl).imp fun σ H Q ⟨ρ, η, S, s, r, h⟩ => ⟨ρ, η, S, s, r, by
  simp only [ev] at h
  refine (PR.bind h).mono fun ρ1 H1 x S1 st1 s1 h1 v hv => ?_
  refine ⟨v, .ty "dict", _, .type "dict", _, rfl, .ty "dict", by rw [g.K]; exact ty_of hC s1 hv, by rw [g.K]; exact isD_ans it hi (ref_lt s1 hv), h1.here s1 _ (by simp only [VR])⟩⟩
theorem pe_isCi (g : Good G k X) (hC : ∀ c, ClsAll G.K (G.cl c)) (it : IsT G.K (.ref (G.cl c)) false) (hi : PySem.W.kitOne G.K (.ref (G.cl c)) (.ref (G.cl c)) = some true) (hg : Gl X "isinstance") (hm : X.mg "isinstance" = none) (ha : PE X a (tE G M W ca)) (hb : PE X b (L2.tC (.ref (G.cl c))))
    (hs : starEach [a, b] X.env = (false, eval a X.env) :: starEach [b] X.env := by rfl) (hs2 : starEach [b] X.env = (false, eval b X.env) :: starEach [] X.env := by rfl) (hpl : (backTo pos (starEach [b] X.env)).any (·.1) = false := by rfl) :
    PE X (.Call (.Name "isinstance" p) [a, b] [] pos) (tE G M W (.isC c ca)) := (pe_callB call_isi hg hm (by decide +kernel) (pa_cons ha (pa_cons hb pa_nil hs2) hs) (by decide) (by decide) hs hpl).imp fun σ H Q ⟨ρ, η, S, s, r, h⟩ => ⟨ρ, η, S, s, r, by
  simp only [ev] at h
  refine (PR.bind h).mono fun ρ1 H1 x S1 st1 s1 h1 v hv => ?_
  split at h1
  · rename_i d ns vs ei
    split at h1
    · rename_i ed
      subst ed
      obtain ⟨a', dx, fs, rfl, h2, _⟩ := ins_of s1 hv ei
      refine ⟨_, .ref (G.cl c), .ref (G.cl c), .ref (G.cl c), true, rfl, .own _, by rw [g.K]; exact .base (.ins h2 (hC c).cls (hC c).ha (hC c).hn (hC c).htk (hC c).hm), by rw [g.K]; exact hi, h1.here s1 _ (by simp only [VR])⟩
    · exact h1.elim
  · rename_i ei
    exact ⟨v, .ref (G.cl c), _, .ref (G.cl c), false, rfl, .own _, by rw [g.K]; exact ty_of hC s1 hv, by rw [g.K]; exact isC_ans it (ref_lt s1 hv) ei, h1.here s1 _ (by simp only [VR])⟩⟩
end
end Oz
set_option Elab.async false
set_option linter.all false
set_option maxRecDepth 100000
set_option maxHeartbeats 4000000
set_option autoImplicit false
/-! Oz: a, *b = .. ; displays of dicts. -/
namespace Oz
open PySem L2 PyProof.Rows

/-! ### a, .., *b = x -/
section
variable {P : Program} {w : World} {A : Around} {E : Value → Shared → Prop} {I : Addr} {fp wr : List Addr} {GG : Array GenState → Array GenState → Prop} {n : Nat} {Pv : Nat → Value → Prop} {St : Nat → Shared → Prop}
theorem walks_from (W : WalksS P w A I fp wr GG n Pv St) (i0 : Nat) (h : i0 ≤ n) : WalksS P w A I fp wr GG (n - i0) (fun i => Pv (i0 + i)) (fun i => St (i0 + i)) where
  sub := W.sub
  grefl := W.grefl
  gtrans := W.gtrans
  frame := fun i => W.frame (i0 + i)
  item := fun i s Q E hi st hQ => W.item (i0 + i) s Q E (by omega) st hQ
  done := fun s Q E st hQ => W.done s Q E (by rw [show n = i0 + (n - i0) by omega]; exact st) hQ
  self := fun i => W.self (i0 + i)
theorem draw_from (W : WalksS P w A I fp wr GG n Pv St) : ∀ (m i : Nat) (s : Shared) (Q : List Value → Shared → Prop), i + m ≤ n → St i s → (∀ us s', us.length = m → (∀ j, j < m → ∃ u, us[j]? = some u ∧ Pv (i + j) u) → St (i + m) s' → Moved wr GG s s' → Q us s') → wpAny (model P w) A (draw (.ref I) m) Q E s
  | 0, i, s, Q, _, st, hQ => by
    show wpAny _ _ (pure []) Q E s
    exact wpAny_pure (hQ [] s rfl (fun j hj => absurd hj (Nat.not_lt_zero j)) st (Moved.refl W.grefl))
  | m + 1, i, s, Q, hl, st, hQ => by
    show wpAny _ _ (pyNext (.ref I) >>= _) Q E s
    refine wpAny_bind (W.item i s _ _ (by omega) st fun v s1 hv st1 mv1 => ?_)
    refine wpAny_bind (wpAny_holding (draw_from W m (i + 1) s1 _ (by omega) st1 fun us s2 hus hp st2 mv2 => wpAny_pure (hQ _ _ (by simp [hus]) (fun j hj => ?_) (by rw [show i + (m + 1) = i + 1 + m by omega]; exact st2) (Moved.trans W.gtrans mv1 mv2))))
    cases j with
    | zero => exact ⟨v, rfl, hv⟩
    | succ j =>
      obtain ⟨u, h1, h2⟩ := hp j (by omega)
      exact ⟨u, by simpa using h1, by rw [show i + (j + 1) = i + 1 + j by omega]; exact h2⟩
/-- what stands at the places: the items themselves -/
theorem items_at {its : Array Value} {us : List Value} {i m : Nat} (hm : i + m ≤ its.size) (hl : us.length = m) (h : ∀ j, j < m → ∃ u, us[j]? = some u ∧ its[i + j]? = some u) : us = (its.toList.drop i).take m := by
  apply List.ext_getElem?
  intro j
  by_cases hj : j < m
  · obtain ⟨u, h1, h2⟩ := h j hj
    rw [h1, List.getElem?_take, if_pos hj, List.getElem?_drop, Array.getElem?_toList, h2]
  · rw [List.getElem?_eq_none (by omega), List.getElem?_take, if_neg hj]
/-- from an iterator that goes through its -/
theorem unpack_rest {s : Shared} {its : Array Value} {m : Nat} {T : String} {Q : List Value → Shared → Prop} (hT : T = "list_iterator" ∨ T = "tuple_iterator") (W : WalksS P w A.in1 I fp wr (fun a b => b = a) its.size (fun i v => its[i]? = some v) St) (hTy : ∀ i s, St i s → s.TypeIs (.ref I) T) (hst : St 0 s) (hlive : ∀ i s, St i s → ∀ b ∈ fp, b < s.heap.objs.size) (hI : I ∈ fp) (hm : m ≤ its.size) (hz : its.size ≤ sizeLine)
    (hQ : ∀ (s' : Shared) (l : Addr) (h' : Heap), Moved wr (fun a b => b = a) s s' → s'.heap.get? l = none → (∀ b o, s'.heap.get? b = some o → h'.get? b = some o) → s'.heap.objs.size ≤ l → h'.get? l = some { cls := .type "list", data := .seq (its.toList.drop m).toArray } → Q (its.toList.take m ++ [.ref l]) { s' with heap := h' }) :
    wpAny (model P w) A (do
      let first ← holding [.ref I] (draw (.ref I) m)
      if first.length < m then
        rule "unpack.star.too-few-before"
        raiseError "ValueError" s!"not enough values to unpack (expected at least {(m + 1) - 1}, got {first.length})"
      let rest ← holding first (collect (.ref I))
      let after := (m + 1) - 1 - m
      if rest.length < after then
        rule "unpack.star.too-few"
        raiseError "ValueError" s!"not enough values to unpack (expected at least {(m + 1) - 1}, got {m + rest.length})"
      let mid := rest.length - after
      return first ++ [← newList (rest.take mid)] ++ rest.drop mid) Q E s := by
  refine wpAny_bind (wpAny_holding (draw_from W.of_in1 m 0 s _ (by omega) hst fun us s1 hus hp st1 mv1 => ?_))
  have e1 : us = its.toList.take m := by
    have := items_at (i := 0) (by omega) hus (fun j hj => hp j hj)
    rwa [List.drop_zero] at this
  rw [if_neg (by omega)]
  have W2 := walks_from W m hm
  rw [Nat.zero_add] at st1
  have hT4 : T = "str_ascii_iterator" ∨ T = "str_iterator" ∨ T = "list_iterator" ∨ T = "tuple_iterator" := hT.elim (fun z => .inr (.inr (.inl z))) fun z => .inr (.inr (.inr z))
  refine wpAny_bind (wpAny_holding (wpAny_collect_iter hT4 W2 (fun i s st => hTy _ _ st) (by simpa using st1) (hlive _ _ st1) hI (fun s2 acc mv2 ha => ?_) (by omega)))
  have e2 : acc.toList = its.toList.drop m := by
    apply List.ext_getElem?
    intro j
    by_cases hj : j < acc.size
    · have q := ha.2 j acc[j] (Array.getElem?_eq_getElem hj)
      rw [Array.getElem?_toList, Array.getElem?_eq_getElem hj, List.getElem?_drop, Array.getElem?_toList]
      exact q.symm
    · have e := ha.1
      rw [List.getElem?_eq_none (by simp; omega), List.getElem?_eq_none (by simp; omega)]
  have e3 : m + 1 - 1 - m = 0 := by omega
  simp only [e3, Nat.not_lt_zero, if_false, Nat.sub_zero, List.take_length, List.drop_length, List.append_nil]
  rw [e2]
  refine wpAny_bind (wpAny_newList ?_ (by simp; omega))
  rw [e1]
  exact wpAny_pure (hQ s2 s2.heap.objs.size _ (Moved.trans W.gtrans mv1 mv2) (Heap.get?_none_of_le (Nat.le_refl _)) (fun b o e => Heap.get?_push_of_some _ e) (Nat.le_refl _) (Heap.get?_push_size _ rfl))
/-- what unpacking leaves -/
abbrev RestQ (s : Shared) (its : Array Value) (m : Nat) (Q : List Value → Shared → Prop) : Prop := ∀ (s' : Shared) (l : Addr) (h' : Heap), (∀ b o, s.heap.get? b = some o → s'.heap.get? b = some o) → s'.gens = s.gens → s'.os = s.os → (∀ b o, s'.heap.get? b = some o → h'.get? b = some o) → s'.heap.objs.size ≤ l → h'.get? l = some { cls := .type "list", data := .seq (its.toList.drop m).toArray } → Q (its.toList.take m ++ [.ref l]) { s' with heap := h' }
theorem unpack_list {s : Shared} {a : Addr} {its : Array Value} {m : Nat} {Q : List Value → Shared → Prop} (hh : A.handled = none) (hl : s.heap.IsList a its) (hm : m ≤ its.size) (hz : its.size ≤ sizeLine) (hQ : RestQ s its m Q) : wpAny (model P w) A (unpackItems (.ref a) (m + 1) (some m)) Q E s := by
  obtain ⟨o, ho, _⟩ := id hl
  have la : a < s.heap.objs.size := Heap.lt_size ho
  unfold unpackItems notIterableAtAll
  refine wpAny_bind (wpAny_bind (wpAny_specialOf hl.typeIs slot_list_iter.lookup (wpAny_pure ?_)))
  simp only [Bool.false_eq_true, if_false]
  refine wpAny_bind (wpAny_holding (wpAny_pyIter_list hl ?_))
  refine unpack_rest (fp := [s.heap.objs.size, a]) (wr := [s.heap.objs.size]) (T := "list_iterator") (.inl rfl) (Walks.list (A := A.in1) hh s.heap.objs.size a (Nat.ne_of_lt la) its).toS (fun i s st => let ⟨o, ho, hc, _⟩ := st.1; ⟨o, ho, hc⟩) ⟨⟨_, Heap.get?_push_size _ rfl, rfl, rfl⟩, hl.push _⟩ (fun i s2 st b hb => ?_) (by simp) hm hz fun s' l h' mv hn k hle hg => ?_
  · have e : b = s.heap.objs.size ∨ b = a := by simpa using hb
    rcases e with e | e
    · obtain ⟨o, ho, _⟩ := st.1; rw [e]; exact Heap.lt_size ho
    · obtain ⟨o, ho, _⟩ := st.2; rw [e]; exact Heap.lt_size ho
  · exact hQ s' l h' (fun b o e => mv.heap b o (by simp; exact Nat.ne_of_lt (Heap.lt_size e)) (Heap.get?_push_of_some _ e)) mv.gens mv.os k hle hg
theorem unpack_tup {s : Shared} {a : Addr} {its : Array Value} {m : Nat} {Q : List Value → Shared → Prop} (hh : A.handled = none) (hl : IsTup s.heap a its) (hm : m ≤ its.size) (hz : its.size ≤ sizeLine) (hQ : RestQ s its m Q) : wpAny (model P w) A (unpackItems (.ref a) (m + 1) (some m)) Q E s := by
  have ht : s.heap.IsTuple a its := hl
  obtain ⟨o, ho, _⟩ := id ht
  have la : a < s.heap.objs.size := Heap.lt_size ho
  unfold unpackItems notIterableAtAll
  refine wpAny_bind (wpAny_bind (wpAny_specialOf ht.typeIs slot_tuple_iter.lookup (wpAny_pure ?_)))
  simp only [Bool.false_eq_true, if_false]
  refine wpAny_bind (wpAny_holding (wpAny_pyIter_tuple ht ?_))
  refine unpack_rest (fp := [s.heap.objs.size, a]) (wr := [s.heap.objs.size]) (T := "tuple_iterator") (.inr rfl) (Walks.tuple (A := A.in1) hh s.heap.objs.size a (Nat.ne_of_lt la) its).toS (fun i s st => let ⟨o, ho, hc, _⟩ := st.1; ⟨o, ho, hc⟩) ⟨⟨_, Heap.get?_push_size _ rfl, rfl, rfl⟩, ht.push _⟩ (fun i s2 st b hb => ?_) (by simp) hm hz fun s' l h' mv hn k hle hg => ?_
  · have e : b = s.heap.objs.size ∨ b = a := by simpa using hb
    rcases e with e | e
    · obtain ⟨o, ho, _⟩ := st.1; rw [e]; exact Heap.lt_size ho
    · obtain ⟨o, ho, _⟩ := st.2; rw [e]; exact Heap.lt_size ho
  · exact hQ s' l h' (fun b o e => mv.heap b o (by simp; exact Nat.ne_of_lt (Heap.lt_size e)) (Heap.get?_push_of_some _ e)) mv.gens mv.os k hle hg
end
section
variable {G : Glb} {k : Nat} {X : Cx} {M : Mach} {W : WX} {pos p : Pos} {e : Expr} {ce : E}
/-- names, then a name that takes the rest -/
def nmTgs : List Nat → Tgs
  | [] => .nil
  | i :: is => .cons (.nm i) (nmTgs is)
theorem bindN_Ts : ∀ {is : List Nat} {i : Nat} {xs ys : List Vl} {η η1 : Sg}, bindN is xs η = some (η1, ys) → is.length ≤ xs.length ∧ ys = xs.drop is.length ∧ bindTs (nmTgs (is ++ [i])) (xs.take is.length ++ [.lst ys]) η = some (η1.set i (some (.lst ys)))
  | [], i, xs, ys, η, η1, h => by
    simp only [bindN, Option.some.injEq, Prod.mk.injEq] at h
    obtain ⟨rfl, rfl⟩ := h
    exact ⟨Nat.zero_le _, rfl, by simp [nmTgs, bindTs, bindT]⟩
  | i0 :: is, i, [], ys, η, η1, h => by simp [bindN] at h
  | i0 :: is, i, x :: xs, ys, η, η1, h => by
    simp only [bindN] at h
    obtain ⟨h1, h2, h3⟩ := bindN_Ts (i := i) h
    refine ⟨by simpa using h1, by simpa using h2, ?_⟩
    simp only [List.length_cons, List.take_succ_cons, List.cons_append, nmTgs, bindTs, bindT]
    exact h3
theorem pgs_star (g : Good G k X) (i : Nat) {x : Str} {px : Pos} (hi : X.N[i]? = some x) (hx : X.env.scope.names.lookup x = some .local) (ha : (assignEach [.Starred (.Name x px) p] X.env).map (·.2) = [assign (.Name x px) X.env] := by rfl) : PGs X [.Starred (.Name x px) p] (tGs G (.cons (.nm i) .nil)) := by
  refine ⟨fun pins s σ H vs us Q I r ⟨ρ, S, η, xs, η1, s0, re, hv, hb, q⟩ => ?_⟩
  have h1 := (pgs_c (pg_nm (pos := px) g i hi (.inl hx) (.inr hx)) pgs_n).run pins s σ H vs us Q I r ⟨ρ, S, η, xs, η1, s0, re, hv, hb, q⟩
  rw [ha]
  exact h1
theorem ps_stari (g : Good G k X) {is : List Nat} {i kk : Nat} {pt : Pos} {ts : List Expr} (he : PE X e (tE G M W ce)) (hts : PGs X ts (tGs G (nmTgs (is ++ [i]))))
    (hl : (assignEach ts X.env).length = is.length + 1 := by rfl) (hn : (assignEach ts X.env).findIdx? (·.1) = some is.length := by rfl)
    (hs : swapsWithSole [.Tuple ts kk pt] e pos.line X.env = pure false := by rfl) (hw : swappedStores [.Tuple ts kk pt] e X.env = pure none := by rfl)
    (h1 : (assignEach [.Tuple ts kk pt] X.env).map (·.2) = [assign (.Tuple ts kk pt) X.env] := by rfl) :
    PS X (.Assign [.Tuple ts kk pt] e pos) (tC G M W (.star is i ce)) := by
  refine (ps_asg (g := fun v σ H Q => ∃ ρ S η x xs η1 ys, Sim G ρ H S ∧ ER G ρ H η σ ∧ VR G ρ H x v ∧ seqOf S x = some xs ∧ bindN is xs η = some (η1, ys) ∧ ∀ ρ' H' σ', Step ρ H ρ' H' → Sim G ρ' H' S → ER G ρ' H' (η1.set i (some (.lst ys))) σ' → Q σ' H') he ⟨?_⟩ hs hw h1).imp fun D σ H ⟨ρ, η, S, s, r, h⟩ => ⟨ρ, η, S, s, r, ?_⟩
  · intro pins s σ H v u Q I r ⟨ρ, S, η, y, xs, η1, ys, s0, re, hv, hsq, hb, hQ⟩
    obtain ⟨b1, rfl, b3⟩ := bindN_Ts (i := i) hb
    obtain ⟨a, vs, rfl, hq, hvs⟩ := seq_of s0 hv hsq
    cases r
    rw [PyProof.Rows.assign_Tuple]
    refine wpAny_bind (wpAny_standAt ?_)
    unfold unpack
    rw [hn, hl]
    have main : ∀ (its : List Value), Vals vs its → its.length ≤ sizeLine → RestQ s its.toArray is.length (fun us s' => wpAny (model X.prog X.w) X.A (assignInOrder (List.map (·.2) (assignEach ts X.env)) us) (fun _ s' => ∃ σ' H', Inv X pins σ' H' s' ∧ Q σ' H') X.xe s') := fun its rv hz s' l h' k1 kg ko k2 hle hg => by
      have I' : Inv X pins σ H s' := I.call' (ch := []) ko (Un.kept k1) (I.hok.kept k1) (by rw [kg]; exact I.bare) (fun _ z => nomatch z)
      have hn1 : H l = none := I'.hok.fresh hle
      have rd : Vals (vs.drop is.length) (its.drop is.length) := rv.drop _
      have I2 : Inv X pins σ (upd H l (.lst (vs.drop is.length))) { s' with heap := h' } := I'.laid (t' := s'.toks) k2 hle ⟨by rw [List.length_drop, rv.length]; omega, its.drop is.length, 0, rd, by simpa using hg⟩
      have sm : Same H (upd H l (.lst (vs.drop is.length))) := same_new hn1
      have st : Step ρ H ρ (upd H l (.lst (vs.drop is.length))) := stepSame sm
      have rt : Vals (vs.take is.length ++ [V.ref l]) (its.take is.length ++ [Value.ref l]) := (rv.take _).append (.cons rfl .nil)
      have eit : its.toArray.toList = its := by simp
      rw [eit]
      refine hts.run pins _ σ _ _ _ Q I2 rt ⟨ρ, S, η, _, _, s0.same sm, re.step st, (VRs.step st _ _ (hvs.take _)).append (VRs.cons (x := .lst (xs.drop is.length)) ?_ VRs.nil), b3, fun σ' _ er => hQ ρ _ σ' st (s0.same sm) er⟩
      simp only [VR]
      exact ⟨l, vs.drop is.length, rfl, ⟨.inl upd_same, s0.free hn1⟩, VRs.step st _ _ (hvs.drop _)⟩
    rcases hq with hq | hq
    · obtain ⟨its, rv, pl, hz⟩ := I.list (by rw [g.K]; exact hq)
      exact wpAny_bind (wpAny_holding (unpack_list (I.ok.hd g.calm) pl.isList (by simp [← rv.length, ← hvs.length]; exact b1) (by simp [← rv.length]; exact hz) (main its rv (by rw [← rv.length]; exact hz))))
    · obtain ⟨its, rv, pl, hz⟩ := I.tuple (by rw [g.K]; exact hq)
      exact wpAny_bind (wpAny_holding (unpack_tup (I.ok.hd g.calm) pl (by simp [← rv.length, ← hvs.length]; exact b1) (by simp [← rv.length]; exact hz) (main its rv (by rw [← rv.length]; exact hz))))
  · simp only [exc1] at h
    refine (PQ.out s r h).mono fun ρ1 H1 x S1 st s1 h1 v hv => ?_
    split at h1
    · rename_i xs ex
      split at h1
      · rename_i η1 ys eb
        exact ⟨ρ1, S1, η, x, xs, η1, ys, s1, r.step st, hv, ex, eb, fun ρ' H' σ' st' s' r' => h1 ρ' H' σ' st' s' r'⟩
      · exact h1.elim
    · exact h1.elim
/-! ### {k: v, ..} -/
section
variable {G : Glb} {k : Nat} {X : Cx} {M : Mach} {W : WX} {pos : Pos}
def disT (G : Glb) (M : Mach) (W : WX) : List Str → Es → List (TE × TE)
  | z :: zs, .cons e es => (L2.tC (.str z), tE G M W e) :: disT G M W zs es
  | _, _ => []
theorem disT_run : ∀ (zs : List Str) (es : Es) (ρ : List Addr) (η : Sg) (S : Hs) (σ : L2.St) (H : Hp) (Q : List (V × V) → Hp → Prop), zs.length = es.len → Sim G ρ H S → ER G ρ H η σ →
    PR G W σ ρ H (evs M es η S) (fun ρ' H' xs S' => ∀ vs, VRs G ρ' H' xs vs → Q ((zs.map V.str).zip vs) H') → tPairs (disT G M W zs es) σ H Q
  | [], .nil, ρ, η, S, σ, H, Q, _, s, _, h => by
    simp only [evs] at h
    exact h.here s [] VRs.nil
  | [], .cons _ _, _, _, _, _, _, _, hl, _, _, _ => by simp [Es.len] at hl
  | _ :: _, .nil, _, _, _, _, _, _, hl, _, _, _ => by simp [Es.len] at hl
  | z :: zs, .cons e es, ρ, η, S, σ, H, Q, hl, s, r, h => by
    simp only [evs] at h
    refine ⟨ρ, η, S, s, r, (PR.bind h).mono fun ρ1 H1 x S1 st1 s1 h1 v hv => ?_⟩
    refine disT_run zs es ρ1 η S1 σ H1 _ (by simpa [Es.len] using hl) s1 (r.step st1) ((PR.bind h1).mono fun ρ2 H2 xs S2 st2 s2 h2 vs hvs => ?_)
    exact (h2.here s2) _ (VRs.cons (hv.step st2) hvs)
theorem put_new {κ : Type} [DecidableEq κ] {kvs : List (κ × V)} {j : κ} {v : V} (h : j ∉ kvs.map (·.1)) : putK kvs j v = kvs ++ [(j, v)] := by
  unfold putK
  rw [if_neg]
  intro z
  obtain ⟨p, hp, e⟩ := List.any_eq_true.mp z
  exact h (List.mem_map.mpr ⟨p, hp, of_decide_eq_true e⟩)
theorem merge_new : ∀ (more kvs : List (Key × V)), (kvs.map (·.1) ++ more.map (·.1)).Nodup → mergeK kvs more = kvs ++ more
  | [], kvs, _ => by simp [mergeK]
  | p :: more, kvs, h => by
    have hp : p.1 ∉ kvs.map (·.1) := fun z => (List.nodup_append.mp h).2.2 p.1 z p.1 (by simp) rfl
    show mergeK (putK kvs p.1 p.2) more = _
    rw [put_new hp, merge_new more _ (by simpa using h)]
    simp
theorem pf_dsp (g : Good G k X) {zs : List Str} {ces : Es} {keys : List (Option Expr)} {values : List Expr} (h : PPs X pos keys values (disT G M W zs ces)) (hz : zs.length = ces.len) (hall : keys.all (·.isSome) = true) (hl : keys.length = values.length) (h0 : keys ≠ []) (h15 : keys.length ≤ 15) : PE X (.Dict keys values pos) (tF G M W (.dsp zs ces)) := (pe_disp h hall hl h0 h15).imp fun σ H Q ⟨ρ, η, S, s, r, h⟩ p hp => by
  simp only [evf] at h
  have sn : Sim G (ρ ++ [p]) (upd H p (.dK [])) (S ++ [.dct [] []]) := s.new hp ⟨[], upd_same, rfl, VRs.nil⟩
  have stn : Step ρ H (ρ ++ [p]) (upd H p (.dK [])) := (stepSame (same_new hp)).one hp
  refine disT_run zs ces (ρ ++ [p]) η (S ++ [.dct [] []]) σ _ _ hz sn (r.step stn) ?_
  cases e : evs M ces η (S ++ [.dct [] []]) with
  | bad => rw [e] at h; exact h.elim
  | exc x T => rw [e] at h; exact h.elim
  | ok xs T =>
    rw [e] at h
    simp only at h
    split at h
    · rename_i hc
      obtain ⟨rfl, hlim, hnd, hlen, h15'⟩ := hc
      refine fun ρ2 H2 st2 s2 vs hvs => ?_
      have e2 : ρ2 = ρ ++ [p] := pre_eq st2.pre (by rw [s2.len, sn.len])
      subst e2
      have rp : (ρ ++ [p])[S.length]? = some p := by rw [← s.len]; simp
      obtain ⟨kvs0, g1, g2, _⟩ := s2.at_ S.length (.dct [] []) p (by simp) rp
      have g3 : kvs0 = [] := List.map_eq_nil_iff.mp g2
      subst g3
      have lv : (zs.map (Sum.inr : Str → Key)).length = vs.length := by rw [List.length_map, hlen, hvs.length]
      refine ⟨g1, (zs.map (Sum.inr : Str → Key)).zip vs, ?_, ?_, ?_⟩
      · rw [List.zip_map_left, List.zip_map_left, List.map_map]
        exact List.map_congr_left fun q _ => rfl
      · rw [List.length_zip, List.length_map]; omega
      · have em : mergeK [] ((zs.map (Sum.inr : Str → Key)).zip vs) = (zs.map (Sum.inr : Str → Key)).zip vs := merge_new _ [] (by
          rw [List.map_nil, List.nil_append, List.map_fst_zip (by omega)]
          exact List.Pairwise.map _ (fun a b ne z => ne (Sum.inr.inj z)) hnd)
        rw [em]
        have pρ : p ∉ ρ := s.free hp
        obtain ⟨st3, s3⟩ := Sim.put (ho := .dK ((zs.map (Sum.inr : Str → Key)).zip vs)) (o2 := .dct (zs.map Sum.inr) xs) s2 rp (by
          have st' : Step (ρ ++ [p]) H2 (ρ ++ [p]) (upd H2 p (.dK ((zs.map (Sum.inr : Str → Key)).zip vs))) := ⟨List.prefix_refl _, fun b o hb hn => by
            rw [upd_ne fun z => hn (by subst z; simp)]; exact hb, fun b hb => .inl hb⟩
          exact ⟨_, upd_same, List.map_fst_zip (by omega), by rw [List.map_snd_zip (by omega)]; exact VRs.step st' _ _ hvs⟩)
        have eS : (S ++ [Ob.dct [] []]).set S.length (.dct (zs.map Sum.inr) xs) = S ++ [.dct (zs.map Sum.inr) xs] := by simp
        rw [eS] at s3
        have sc : Sim G ρ (upd H2 p (.dK ((zs.map (Sum.inr : Str → Key)).zip vs))) S := s3.cut s.len s.lims
        have stc : Step ρ H ρ (upd H2 p (.dK ((zs.map (Sum.inr : Str → Key)).zip vs))) := ⟨List.prefix_refl _, fun a o hh na => by
          have nap : a ≠ p := fun z => by subst z; rw [hp] at hh; cases hh
          rw [upd_ne nap]
          exact st2.keep a o (by rw [upd_ne nap]; exact hh) (by simp [na, nap]), fun a ha => .inl ha⟩
        have fin := h ρ _ stc sc
        refine fin p hp pρ (OR.less (τ := [p]) (s3.at_ S.length (.dct (zs.map Sum.inr) xs) p (by simp) rp) ?_) s3
        rw [s.len]; exact hlim
    · exact h.elim
end
end
end Oz
set_option Elab.async false
set_option linter.all false
set_option maxRecDepth 100000
set_option maxHeartbeats 4000000
set_option autoImplicit false
/-! Oz: defs. -/
namespace Oz
open PySem L2 PyProof.Rows

/-! ### what a def hands back -/
mutual
def Vl.mapO (f : Nat → Option Vl) : Vl → Option Vl
  | .tup xs => (mapOs f xs).map .tup
  | .lst xs => (mapOs f xs).map .lst
  | .dct ks xs => (mapOs f xs).map (.dct ks)
  | .obj c ns xs => (mapOs f xs).map (.obj c ns)
  | .ref r => f r
  | .non => some .non | .bl b => some (.bl b) | .int i => some (.int i) | .str s => some (.str s)
def mapOs (f : Nat → Option Vl) : List Vl → Option (List Vl)
  | [] => some []
  | x :: xs => (Vl.mapO f x).bind fun y => (mapOs f xs).map fun ys => y :: ys
end
def Ob.mapO (f : Nat → Option Vl) : Ob → Option Ob
  | .lst xs => (mapOs f xs).map .lst
  | .dct ks xs => (mapOs f xs).map (.dct ks)
  | .ins c ns xs => (mapOs f xs).map (.ins c ns)
/-- what stands behind new references, told whole; r0 alone not -/
def fI (n r0 : Nat) (T : Hs) : Nat → Nat → Option Vl
  | 0, r => if r < n then some (.ref r) else none
  | k + 1, r => if r < n then some (.ref r) else if r = r0 then none else match T[r]? with
    | some o => (o.mapO (fI n r0 T k)).map Ob.inl
    | none => none
def depI : Nat := 6
/-- the answer, where all that is new is left behind -/
def finV (n : Nat) (T : Hs) : Vl → Res Rv
  | .ref r => if r < n then .ok (.val (.ref r)) (T.take n) else match T[r]? with
    | some o => match o.mapO (fI n r T depI) with
      | some o' => .ok (.frs o') (T.take n)
      | none => .bad
    | none => .bad
  | v => match v.mapO (fI n T.length T depI) with
    | some v' => .ok (.val v') (T.take n)
    | none => .bad
def finR (n : Nat) (r : Rv) (T : Hs) : Res Rv := if (T.take n).all (Ob.lim n) = true then (match r with
    | .val v => finV n T v
    | .frs o => finV n (T ++ [o]) (.ref T.length))
  else .ok r T
def finX (n : Nat) (x : Xc) (T : Hs) : Res Rv := if (T.take n).all (Ob.lim n) = true ∧ x.lim n = true then .exc x (T.take n) else .exc x T
structure Dfn where
  np : Nat
  nn : Nat
  body : Cs
noncomputable def calD (M : Mach) (d : Dfn) (xs : List Vl) (S : Hs) : Res Rv := if xs.length = d.np then match exec M d.body (xs.map some ++ List.replicate (d.nn - xs.length) none) S with
  | .ret r T => finR S.length r T
  | .nx _ T => finR S.length (.val .non) T
  | .exc x _ T => finX S.length x T
  | _ => .bad
  else .bad
/-! ### why that is so -/
section
variable {G : Glb} {ρ ρ' ρ'' : List Addr} {H : Hp} {S T : Hs} {n r0 : Nat}
mutual
theorem mapO_ok {f : Nat → Option Vl} (hs : ∀ a, a ∈ ρ'' → a ∈ ρ') (hf : ∀ r w y, VR G ρ' H (.ref r) w → f r = some y → VR G ρ'' H y w ∧ y.lim n = true) : ∀ (x : Vl) (w : V) (y : Vl), VR G ρ' H x w → x.mapO f = some y → VR G ρ'' H y w ∧ y.lim n = true
  | .non, w, y, h, e | .bl _, w, y, h, e | .int _, w, y, h, e | .str _, w, y, h, e => by
    simp only [Vl.mapO, Option.some.injEq] at e
    subst e
    simp only [VR] at h ⊢
    exact ⟨h, by simp [Vl.lim]⟩
  | .tup xs, w, y, h, e => by
    simp only [Vl.mapO] at e
    obtain ⟨ys, e1, rfl⟩ := Option.map_eq_some_iff.mp e
    simp only [VR] at h ⊢
    obtain ⟨a, vs, rfl, h1, h2⟩ := h
    obtain ⟨i1, i2⟩ := mapOs_ok hs hf xs vs ys h2 e1
    exact ⟨⟨a, vs, rfl, h1.imp (fun q => ⟨q.1, fun z => q.2 (hs a z)⟩) id, i1⟩, by simp only [Vl.lim]; exact i2⟩
  | .lst xs, w, y, h, e => by
    simp only [Vl.mapO] at e
    obtain ⟨ys, e1, rfl⟩ := Option.map_eq_some_iff.mp e
    simp only [VR] at h ⊢
    obtain ⟨a, vs, rfl, h1, h2⟩ := h
    obtain ⟨i1, i2⟩ := mapOs_ok hs hf xs vs ys h2 e1
    exact ⟨⟨a, vs, rfl, ⟨h1.1, fun z => h1.2 (hs a z)⟩, i1⟩, by simp only [Vl.lim]; exact i2⟩
  | .dct ks xs, w, y, h, e => by
    simp only [Vl.mapO] at e
    obtain ⟨ys, e1, rfl⟩ := Option.map_eq_some_iff.mp e
    simp only [VR] at h ⊢
    obtain ⟨a, vs, rfl, h1, hn, hk, h2⟩ := h
    obtain ⟨i1, i2⟩ := mapOs_ok hs hf xs _ ys h2 e1
    exact ⟨⟨a, vs, rfl, h1, fun z => hn (hs a z), hk, i1⟩, by simp only [Vl.lim]; exact i2⟩
  | .obj c ns xs, w, y, h, e => by
    simp only [Vl.mapO] at e
    obtain ⟨ys, e1, rfl⟩ := Option.map_eq_some_iff.mp e
    simp only [VR] at h ⊢
    obtain ⟨a, dx, vs, rfl, h1, hn, hk, h2⟩ := h
    obtain ⟨i1, i2⟩ := mapOs_ok hs hf xs _ ys h2 e1
    exact ⟨⟨a, dx, vs, rfl, h1, fun z => hn (hs a z), hk, i1⟩, by simp only [Vl.lim]; exact i2⟩
  | .ref r, w, y, h, e => by
    simp only [Vl.mapO] at e
    exact hf r w y h e
theorem mapOs_ok {f : Nat → Option Vl} (hs : ∀ a, a ∈ ρ'' → a ∈ ρ') (hf : ∀ r w y, VR G ρ' H (.ref r) w → f r = some y → VR G ρ'' H y w ∧ y.lim n = true) : ∀ (xs : List Vl) (ws : List V) (ys : List Vl), VRs G ρ' H xs ws → mapOs f xs = some ys → VRs G ρ'' H ys ws ∧ limAll n ys = true
  | [], ws, ys, h, e => by
    simp only [mapOs, Option.some.injEq] at e
    subst e
    simp only [VRs] at h ⊢
    exact ⟨h, by simp [limAll]⟩
  | x :: xs, ws, ys, h, e => by
    simp only [mapOs] at e
    obtain ⟨y, e1, e2⟩ := Option.bind_eq_some_iff.mp e
    obtain ⟨zs, e3, rfl⟩ := Option.map_eq_some_iff.mp e2
    simp only [VRs] at h ⊢
    obtain ⟨w, r, rfl, h1, h2⟩ := h
    obtain ⟨i1, i2⟩ := mapO_ok hs hf x w y h1 e1
    obtain ⟨j1, j2⟩ := mapOs_ok hs hf xs r zs h2 e3
    exact ⟨⟨w, r, rfl, i1, j1⟩, by simp only [limAll, i2, j2, Bool.and_self]⟩
end
theorem obO_ok {f : Nat → Option Vl} (hs : ∀ a, a ∈ ρ'' → a ∈ ρ') (hf : ∀ r w y, VR G ρ' H (.ref r) w → f r = some y → VR G ρ'' H y w ∧ y.lim n = true) {o o' : Ob} {a : Addr} (h : OR G ρ' H a o) (e : o.mapO f = some o') : OR G ρ'' H a o' ∧ o'.lim n = true := by
  cases o with
  | lst xs =>
    obtain ⟨ys, e1, rfl⟩ := Option.map_eq_some_iff.mp (show (mapOs f xs).map _ = some o' from e)
    obtain ⟨vs, h1, h2⟩ := h
    obtain ⟨i1, i2⟩ := mapOs_ok hs hf xs vs ys h2 e1
    exact ⟨⟨vs, h1, i1⟩, i2⟩
  | dct ks xs =>
    obtain ⟨ys, e1, rfl⟩ := Option.map_eq_some_iff.mp (show (mapOs f xs).map _ = some o' from e)
    obtain ⟨vs, h1, hk, h2⟩ := h
    obtain ⟨i1, i2⟩ := mapOs_ok hs hf xs _ ys h2 e1
    exact ⟨⟨vs, h1, hk, i1⟩, i2⟩
  | ins c ns xs =>
    obtain ⟨ys, e1, rfl⟩ := Option.map_eq_some_iff.mp (show (mapOs f xs).map _ = some o' from e)
    obtain ⟨dx, vs, h1, hk, h2⟩ := h
    obtain ⟨i1, i2⟩ := mapOs_ok hs hf xs _ ys h2 e1
    exact ⟨⟨dx, vs, h1, hk, i1⟩, i2⟩
/-- the telling of new references is right: ρ'' holds the old ones and at most what stands at r0 -/
theorem fI_ok (s : Sim G ρ' H T) (hp : ρ'.take n = ρ''.take n) (hs : ∀ a, a ∈ ρ'' → a ∈ ρ') (hn : n ≤ ρ''.length) (h0 : ∀ r a, ρ'[r]? = some a → n ≤ r → r ≠ r0 → a ∉ ρ'') : ∀ (k r : Nat) (w : V) (y : Vl), VR G ρ' H (.ref r) w → fI n r0 T k r = some y → VR G ρ'' H y w ∧ y.lim n = true
  | 0, r, w, y, h, e => by
    unfold fI at e
    split at e
    · rename_i hr
      cases e
      simp only [VR] at h ⊢
      obtain ⟨a, rfl, ha⟩ := h
      refine ⟨⟨a, rfl, ?_⟩, by simp [Vl.lim, hr]⟩
      rw [← List.getElem?_take_of_lt (l := ρ'') hr, ← hp, List.getElem?_take_of_lt hr]
      exact ha
    · cases e
  | k + 1, r, w, y, h, e => by
    unfold fI at e
    split at e
    · rename_i hr
      cases e
      simp only [VR] at h ⊢
      obtain ⟨a, rfl, ha⟩ := h
      refine ⟨⟨a, rfl, ?_⟩, by simp [Vl.lim, hr]⟩
      rw [← List.getElem?_take_of_lt (l := ρ'') hr, ← hp, List.getElem?_take_of_lt hr]
      exact ha
    · rename_i hr
      split at e
      · cases e
      · rename_i hr0
        split at e
        · rename_i o eo
          obtain ⟨o', e1, rfl⟩ := Option.map_eq_some_iff.mp e
          obtain ⟨a, rfl, ha, ho⟩ := s.ref h eo
          obtain ⟨i1, i2⟩ := obO_ok hs (fI_ok s hp hs hn h0 k) ho e1
          have na := h0 r a ha (by omega) hr0
          refine ⟨i1.inl na, ?_⟩
          cases o' <;> exact i2
        · cases e
-- from more references to fewer, for values that know only old ones
mutual
theorem VR.sub (hp : ρ'.take n = ρ''.take n) (hs : ∀ a, a ∈ ρ'' → a ∈ ρ') : ∀ (x : Vl) (v : V), VR G ρ' H x v → x.lim n = true → VR G ρ'' H x v
  | .non, _, h, _ | .bl _, _, h, _ | .int _, _, h, _ | .str _, _, h, _ => by simpa only [VR] using h
  | .tup xs, v, h, l => by
    simp only [VR] at h ⊢
    simp only [Vl.lim] at l
    obtain ⟨a, vs, e, h1, h2⟩ := h
    exact ⟨a, vs, e, h1.imp (fun q => ⟨q.1, fun z => q.2 (hs a z)⟩) id, VRs.sub hp hs xs vs h2 l⟩
  | .lst xs, v, h, l => by
    simp only [VR] at h ⊢
    simp only [Vl.lim] at l
    obtain ⟨a, vs, e, h1, h2⟩ := h
    exact ⟨a, vs, e, ⟨h1.1, fun z => h1.2 (hs a z)⟩, VRs.sub hp hs xs vs h2 l⟩
  | .dct ks xs, v, h, l => by
    simp only [VR] at h ⊢
    simp only [Vl.lim] at l
    obtain ⟨a, vs, e, h1, hn, h2, h3⟩ := h
    exact ⟨a, vs, e, h1, fun z => hn (hs a z), h2, VRs.sub hp hs xs _ h3 l⟩
  | .obj c ns xs, v, h, l => by
    simp only [VR] at h ⊢
    simp only [Vl.lim] at l
    obtain ⟨a, dx, vs, e, h1, hn, h2, h3⟩ := h
    exact ⟨a, dx, vs, e, h1, fun z => hn (hs a z), h2, VRs.sub hp hs xs _ h3 l⟩
  | .ref r, v, h, l => by
    simp only [VR] at h ⊢
    simp only [Vl.lim, decide_eq_true_eq] at l
    obtain ⟨a, e, h1⟩ := h
    exact ⟨a, e, by rw [← List.getElem?_take_of_lt (l := ρ'') l, ← hp, List.getElem?_take_of_lt l]; exact h1⟩
theorem VRs.sub (hp : ρ'.take n = ρ''.take n) (hs : ∀ a, a ∈ ρ'' → a ∈ ρ') : ∀ (xs : List Vl) (vs : List V), VRs G ρ' H xs vs → limAll n xs = true → VRs G ρ'' H xs vs
  | [], _, h, _ => by simpa only [VRs] using h
  | x :: xs, vs, h, l => by
    simp only [VRs] at h ⊢
    simp only [limAll, Bool.and_eq_true] at l
    obtain ⟨v, r, e, h1, h2⟩ := h
    exact ⟨v, r, e, VR.sub hp hs x v h1 l.1, VRs.sub hp hs xs r h2 l.2⟩
end
theorem OR.sub (hp : ρ'.take n = ρ''.take n) (hs : ∀ a, a ∈ ρ'' → a ∈ ρ') {a : Addr} {o : Ob} (h : OR G ρ' H a o) (l : o.lim n = true) : OR G ρ'' H a o := by
  cases o with
  | lst xs => obtain ⟨vs, h1, h2⟩ := h; exact ⟨vs, h1, VRs.sub hp hs _ _ h2 l⟩
  | dct ks xs => obtain ⟨vs, h1, h2, h3⟩ := h; exact ⟨vs, h1, h2, VRs.sub hp hs _ _ h3 l⟩
  | ins c ns xs => obtain ⟨dx, vs, h1, h2, h3⟩ := h; exact ⟨dx, vs, h1, h2, VRs.sub hp hs _ _ h3 l⟩
end
section
variable {G : Glb} {ρ ρ' : List Addr} {H H' : Hp} {S T : Hs} {Q : VK}
/-- where all that is new is left behind -/
theorem finV_ok {W : WX} {σ : L2.St} (s : Sim G ρ H S) (st : Step ρ H ρ' H') (s' : Sim G ρ' H' T) (hl : (T.take S.length).all (Ob.lim S.length) = true) (v : Vl) (w : V) (hv : VR G ρ' H' v w)
    (h : PR G W σ ρ H (finV S.length T v) (okR G H Q)) : Q w H' := by
  obtain ⟨τ, rfl⟩ := st.pre
  have hsl := s.len
  have all := List.all_eq_true.mp hl
  have hT : S.length ≤ T.length := by rw [← hsl, ← s'.len, List.length_append]; omega
  have lt : (T.take S.length).length = S.length := by rw [List.length_take]; omega
  have eT : T.take S.length ++ T.drop S.length = T := List.take_append_drop _ _
  have sc : Sim G ρ H' (T.take S.length) := Sim.cut (τ := τ) (T := T.drop S.length) (by rw [eT]; exact s') (by rw [lt]; exact hsl) fun r o e => by rw [lt]; exact all o (List.mem_of_getElem? e)
  have stc : Step ρ H ρ H' := ⟨List.prefix_refl _, st.keep, fun a ha => .inl ha⟩
  -- a value that is no reference
  have val : ∀ v', v.mapO (fI S.length T.length T depI) = some v' → finV S.length T v = .ok (.val v') (T.take S.length) → Q w H' := fun v' e1 e2 => by
    rw [e2] at h
    have q := h ρ H' stc sc
    refine q w (mapO_ok (ρ'' := ρ) (n := S.length) (fun a ha => List.mem_append_left _ ha) (fI_ok s' (by rw [List.take_append_of_le_length (by omega)]) (fun a ha => List.mem_append_left _ ha) (by omega) (fun r a ha hr _ => ?_) depI) v w v' hv e1).1
    intro ha2
    obtain ⟨i, hi⟩ := List.getElem?_of_mem ha2
    have hi2 : (ρ ++ τ)[i]? = some a := by rw [List.getElem?_append_left (lt_of_get hi)]; exact hi
    have := (List.getElem?_inj (lt_of_get hi2) s'.nd).mp (hi2.trans ha.symm)
    have := lt_of_get hi
    omega
  cases v with
  | ref r =>
    by_cases hr : r < S.length
    · have e : finV S.length T (.ref r) = .ok (.val (.ref r)) (T.take S.length) := by
        show (if r < S.length then (.ok (.val (.ref r)) (T.take S.length) : Res Rv) else _) = _
        rw [if_pos hr]
      rw [e] at h
      exact h ρ H' stc sc w (VR.less _ _ hv (by simp [Vl.lim, hsl, hr]))
    · have e : finV S.length T (.ref r) = match T[r]? with
          | some o => match o.mapO (fI S.length r T depI) with
            | some o' => .ok (.frs o') (T.take S.length)
            | none => .bad
          | none => .bad := by
        show (if r < S.length then (.ok (.val (.ref r)) (T.take S.length) : Res Rv) else _) = _
        rw [if_neg hr]
      rw [e] at h
      split at h
      · rename_i o eo
        split at h
        · rename_i o' e1
          obtain ⟨a, rfl, ha, ho⟩ := s'.ref hv eo
          have aρ : a ∉ ρ := fun z => by
            obtain ⟨i, hi⟩ := List.getElem?_of_mem z
            have hi2 : (ρ ++ τ)[i]? = some a := by rw [List.getElem?_append_left (lt_of_get hi)]; exact hi
            have := (List.getElem?_inj (lt_of_get hi2) s'.nd).mp (hi2.trans ha.symm)
            have := lt_of_get hi
            omega
          have aτ : a ∈ ρ ++ τ := List.mem_of_getElem? ha
          have hs2 : ∀ b, b ∈ ρ ++ [a] → b ∈ ρ ++ τ := fun b hb => (List.mem_append.mp hb).elim (fun z => List.mem_append_left _ z) fun z => by rw [List.mem_singleton.mp z]; exact aτ
          have hp2 : (ρ ++ τ).take S.length = (ρ ++ [a]).take S.length := by rw [List.take_append_of_le_length (by omega), List.take_append_of_le_length (by omega)]
          obtain ⟨i1, i2⟩ := obO_ok (ρ'' := ρ ++ [a]) (n := S.length) hs2 (fI_ok (r0 := r) s' hp2 hs2 (by simp; omega) (fun r' b hb hr' hne z => by
            rcases List.mem_append.mp z with z | z
            · obtain ⟨i, hi⟩ := List.getElem?_of_mem z
              have hi2 : (ρ ++ τ)[i]? = some b := by rw [List.getElem?_append_left (lt_of_get hi)]; exact hi
              have := (List.getElem?_inj (lt_of_get hi2) s'.nd).mp (hi2.trans hb.symm)
              have := lt_of_get hi
              omega
            · rw [List.mem_singleton.mp z] at hb
              exact hne ((List.getElem?_inj (lt_of_get hb) s'.nd).mp (hb.trans ha.symm))) depI) ho e1
          have q := h ρ H' stc sc
          have hH : H a = none := (st.new a aτ).elim (fun z => (aρ z).elim) id
          refine q a hH aρ (OR.less (τ := [a]) i1 (by rw [hsl]; exact i2)) ⟨by rw [List.length_append, List.length_append, lt, hsl]; rfl, ?_, fun r' u b hr' hb => ?_⟩
          · rw [List.nodup_append]
            exact ⟨s.nd, by simp, fun x hx y hy => by rw [List.mem_singleton.mp hy]; exact fun z => aρ (z ▸ hx)⟩
          · by_cases h1 : r' < S.length
            · rw [List.getElem?_append_left (by omega)] at hr'
              rw [List.getElem?_append_left (by omega)] at hb
              have hr2 : T[r']? = some u := by rw [List.getElem?_take_of_lt h1] at hr'; exact hr'
              have hb2 : (ρ ++ τ)[r']? = some b := by rw [List.getElem?_append_left (by omega)]; exact hb
              exact OR.sub hp2 hs2 (s'.at_ r' u b hr2 hb2) (all u (List.mem_of_getElem? hr'))
            · have h2 : r' = S.length := by
                have := lt_of_get hr'
                rw [List.length_append, lt] at this
                simp at this
                omega
              subst h2
              have e3 : u = o' := by
                rw [List.getElem?_append_right (by omega), lt] at hr'
                simpa using hr'.symm
              have e4 : b = a := by
                rw [List.getElem?_append_right (by omega), hsl] at hb
                simpa using hb.symm
              subst e3 e4
              exact i1
        · exact h.elim
      · exact h.elim
  | non => exact val .non rfl rfl
  | bl b => exact val (.bl b) rfl rfl
  | int b => exact val (.int b) rfl rfl
  | str b => exact val (.str b) rfl rfl
  | tup xs =>
    cases e : (Vl.tup xs).mapO (fI S.length T.length T depI) with
    | some v' => exact val v' e (by unfold finV; simp only [e])
    | none => rw [show finV S.length T (.tup xs) = .bad by unfold finV; simp only [e]] at h; exact h.elim
  | lst xs =>
    cases e : (Vl.lst xs).mapO (fI S.length T.length T depI) with
    | some v' => exact val v' e (by unfold finV; simp only [e])
    | none => rw [show finV S.length T (.lst xs) = .bad by unfold finV; simp only [e]] at h; exact h.elim
  | dct ks xs =>
    cases e : (Vl.dct ks xs).mapO (fI S.length T.length T depI) with
    | some v' => exact val v' e (by unfold finV; simp only [e])
    | none => rw [show finV S.length T (.dct ks xs) = .bad by unfold finV; simp only [e]] at h; exact h.elim
  | obj c ns xs =>
    cases e : (Vl.obj c ns xs).mapO (fI S.length T.length T depI) with
    | some v' => exact val v' e (by unfold finV; simp only [e])
    | none => rw [show finV S.length T (.obj c ns xs) = .bad by unfold finV; simp only [e]] at h; exact h.elim
theorem fin_PQ {M : Mach} {d : Dfn} {xs : List Vl} {E : XK} (s : Sim G ρ H S) (hl : xs.length = d.np) (h : PR G (fun cls d _ H' => E cls d H') [] ρ H (calD M d xs S) (okR G H Q)) :
    PQ G (fun cls d _ H' => E cls d H') ρ H { nx := fun _ H' => Q .non H', rt := Q } (exec M d.body (xs.map some ++ List.replicate (d.nn - xs.length) none) S) := by
  unfold calD at h
  rw [if_pos hl] at h
  have nT : ∀ {ρ' : List Addr} {H' : Hp} {T : Hs}, Step ρ H ρ' H' → Sim G ρ' H' T → S.length ≤ T.length := fun st s' => by
    obtain ⟨τ, e⟩ := st.pre
    rw [← s.len, ← s'.len, ← e, List.length_append]; omega
  cases eo : exec M d.body (xs.map some ++ List.replicate (d.nn - xs.length) none) S with
  | bad => rw [eo] at h; exact h.elim
  | brk η T => rw [eo] at h; exact h.elim
  | cnt η T => rw [eo] at h; exact h.elim
  | nx η T =>
    rw [eo] at h
    simp only [finR] at h
    refine fun ρ' H' σ' st s' _ => ?_
    split at h
    · rename_i hc
      exact finV_ok s st s' hc .non .non (by simp only [VR]) h
    · exact h ρ' H' st s' .non (by simp only [VR])
  | ret r T =>
    rw [eo] at h
    simp only [finR] at h
    refine fun ρ' H' st s' => ?_
    split at h
    · rename_i hc
      cases r with
      | val v => exact fun w hw => finV_ok s st s' hc v w hw h
      | frs o =>
        refine fun p hp hn ho hs => ?_
        have hle := nT st s'
        refine finV_ok (T := T ++ [o]) s (st.one hp) hs (by rw [List.take_append_of_le_length hle]; exact hc) (.ref T.length) (.ref p) ?_ h
        simp only [VR]
        exact ⟨p, rfl, by rw [← s'.len]; simp⟩
    · exact h ρ' H' st s'
  | exc x η T =>
    rw [eo] at h
    simp only [finX] at h
    refine fun ρ' H' σ' st s' _ => ?_
    split at h
    · rename_i hc
      have hle := nT st s'
      obtain ⟨τ, rfl⟩ := st.pre
      have lt : (T.take S.length).length = S.length := by rw [List.length_take]; omega
      have eT : T.take S.length ++ T.drop S.length = T := List.take_append_drop _ _
      have all := List.all_eq_true.mp hc.1
      have sc : Sim G ρ H' (T.take S.length) := Sim.cut (τ := τ) (T := T.drop S.length) (by rw [eT]; exact s') (by rw [lt]; exact s.len) fun r o e => by rw [lt]; exact all o (List.mem_of_getElem? e)
      have q := h ρ H' ⟨List.prefix_refl _, st.keep, fun a ha => .inl ha⟩ sc
      have hx := hc.2
      unfold XW at q ⊢
      unfold Xc.lim at hx
      split at q
      · exact q
      · rename_i ns vs e
        exact fun d fs h1 h2 h3 h4 => q d fs h1 (fun z => h2 (List.mem_append_left _ z)) h3 (VRs.less _ _ h4 (by rw [s.len]; have z := hx; rw [e] at z; exact z))
    · have q := h ρ' H' st s'
      unfold XW at q ⊢
      exact q
end
/-! ### a def -/
section
variable {G : Glb} {P : Program} {w : World} {K : PySem.W.Frag} {mg : Str → Option Value} {base : Heap}
theorem start_ER {ρ : List Addr} {H : Hp} {xs : List Vl} {vs : List V} {N : List Str} {nn : Nat} (hn : nn = N.length) (h : VRs G ρ H xs vs) : ER G ρ H (xs.map some ++ List.replicate (nn - xs.length) none) (L2.start N vs) where
  len := by unfold L2.start; simp [h.length, hn]
  at_ := fun i x e => by
    unfold L2.start
    by_cases hi : i < xs.length
    · rw [List.getElem?_append_left (by simpa using hi)] at e
      rw [List.getElem?_append_left (by simp [← h.length]; exact hi)]
      rw [List.getElem?_map] at e ⊢
      cases ex : xs[i]? with
      | none => rw [ex] at e; cases e
      | some y =>
        rw [ex] at e
        obtain ⟨v, e1, e2⟩ := h.get ex
        simp only [Option.map_some, Option.some.injEq] at e
        subst e
        exact ⟨v, by rw [e1]; rfl, e2⟩
    · rw [List.getElem?_append_right (by simp; omega)] at e
      rw [List.getElem?_replicate] at e
      split at e <;> simp at e
theorem g_of {k : Nat} {f : Addr} {x qual q : Str} {params : Arguments} {body : List Stmt} {scope : Scope} {dvs : List V} {kws : List (Str × V)} {fd : FuncData} {N ps : List Str} {M M' : Mach} {d : Dfn} (F : FunD K x qual params body scope dvs kws f fd) (Sc : FnScope N ps scope)
    (hM : ∀ xs S, M.cal q xs S = calD M' d xs S) (hnp : d.np = ps.length) (hnn : d.nn = N.length)
    (hbody : ∀ (cdv : Value) (A : Around) (outer : List Env) (s : Shared) (H : Hp) (E : XK), Room k (A.deeper (envOfC qual scope s.heap.objs.size f cdv)) → A.guards = some [] → PSs (cxOf (L2.CX P w) P w K mg base N qual scope f cdv A outer s H E) body (tCs G M' (fun cls d _ H' => E cls d H') d.body)) :
    FnG P w K mg base (k + 1) f fd ps (spI G M d.np q) := by
  obtain ⟨oc, od, dV, kV, doc, pm, an, cdv, ct, osl, rfl, lk, hcd, _, _⟩ := F.ex
  refine ⟨fun vs H Q E h => h.1.trans hnp, fun A outer s H args us vs Q E hr hgd e0 hb r hsp => ?_⟩
  obtain ⟨hl1, ρ, S, xs, sim, hxs, hp⟩ := hsp
  rw [hM] at hp
  have pl : vs.length = ps.length := hl1.trans hnp
  have topIn : K.In s.heap := e0.mod.kin.keeps fun b o e => (e0.bs b o e).1
  have noLim : s.heap.NoLimit := e0.mod.nolimit.keeps fun b o e => (e0.bs b o e).1
  refine codeAny_call_function hr.depth (topIn _ _ lk) rfl Sc.co Sc.gen rfl (PySem.W.codeRec_of topIn hcd) (hb _ _ _ _ (wpAny_newFunctionEnv_cells Sc.kind (fun ⟨n, v⟩ hy => (Sc.par n (List.of_mem_zip hy).1).imp id fun z => ⟨z, PySem.W.cellsFrom_some _ _ _ (.inl z)⟩) fun env he s1 x => ?_))
  subst he
  refine ⟨noLim.keeps x.toInCall.keep, codeAny_func ?_⟩
  have start0 : Inv (cxOf (L2.CX P w) P w K mg base N qual scope f cdv A outer s H E) [] (L2.start N vs) H s1 := inv_start Sc hr.hd e0 pl r x
  have run0 := (hbody cdv A outer s H E (hr.deeper _) hgd).run [] s1 (L2.start N vs) H { nx := fun _ H' => Q .non H', rt := Q } start0 ⟨ρ, _, S, sim, start_ER hnn hxs, fin_PQ sim (hxs.length.trans hl1) hp⟩
  refine wpAny_mono run0 (fun fl s' hs => ?_) fun _ _ z => z
  cases fl with
  | ret u => obtain ⟨v, σ', H', J, rv, z⟩ := hs; exact ⟨v, H', J.os, J.bare, J.base, J.hok, rv, z⟩
  | next => obtain ⟨σ', H', J, z⟩ := hs; exact ⟨.non, H', J.os, J.bare, J.base, J.hok, rfl, z⟩
  | brk => obtain ⟨_, _, _, z⟩ := hs; exact z.elim
  | cont => obtain ⟨_, _, _, z⟩ := hs; exact z.elim
end
end Oz
set_option Elab.async false
set_option linter.all false
set_option maxRecDepth 100000
set_option maxHeartbeats 4000000
/-! Oz: levels of machines, rules in short, the end of a law. -/
namespace Oz
open PySem L2 PyProof.Rows

/-! ### machines by levels -/
noncomputable def mach (kd : Str → Option (List (Str × Vl))) (ds : Str → Option Dfn) (fu : Nat) : Nat → Mach
  | 0 => ⟨fun _ _ _ => .bad, kd, fu⟩
  | n + 1 => ⟨fun q xs S => match ds q with
    | some d => calD (mach kd ds fu n) d xs S
    | none => .bad, kd, fu⟩
theorem mach_cal {kd : Str → Option (List (Str × Vl))} {ds : Str → Option Dfn} {fu n : Nat} {q : Str} {d : Dfn} (h : ds q = some d) (xs : List Vl) (S : Hs) : (mach kd ds fu (n + 1)).cal q xs S = calD (mach kd ds fu n) d xs S := by
  simp only [mach, h]
theorem mach_kd {kd : Str → Option (List (Str × Vl))} {ds : Str → Option Dfn} {fu n : Nat} : (mach kd ds fu n).kd = kd := by cases n <;> rfl
theorem mach_fuel {kd : Str → Option (List (Str × Vl))} {ds : Str → Option Dfn} {fu n : Nat} : (mach kd ds fu n).fuel = fu := by cases n <;> rfl
theorem Good.le {G : Glb} {j k : Nat} {X : Cx} (g : Good G k X) (h : j ≤ k) : Good G j X := ⟨g.K, g.nd, g.calm, g.room.mono h, g.grd⟩
theorem takesF {X : Cx} : Takes X WF := fun u s' ⟨_, _, _, _, _, _, _, _, _, _, _, _, _, _, _, _, w⟩ => w.elim
theorem Es.app_nil : ∀ es : Es, es.app [] = es
  | .nil => by simp only [Es.app]
  | .cons e es => by simp only [Es.app, Es.app_nil es]

section
variable {P : Program} {w : World} {K : PySem.W.Frag} {mg : Str → Option Value} {base : Heap} {G : Glb} {M : Mach} {W : WX} {X : Cx} {k n : Nat} {x q c m : Str} {a b e : Expr} {es : List Expr} {ca cb : E} {ces cs kes : Es} {p pos apos : Pos} {dxs : List Vl} {ks : List Str} {kws : List Keyword}
/-! ### what may be called -/
structure Cal (P : Program) (w : World) (K : PySem.W.Frag) (mg : Str → Option Value) (base : Heap) (G : Glb) (M : Mach) (k : Nat) (x q : Str) (n : Nat) : Prop where
  ex : ∃ (f : Addr) (fd : FuncData) (ps : List Str), FnG P w K mg base k f fd ps (spI G M n q) ∧ mg x = some (.ref f) ∧ PySem.W.keepIn K (.ref f) = true ∧ Binds K fd ps []
structure Met (P : Program) (w : World) (K : PySem.W.Frag) (mg : Str → Option Value) (base : Heap) (G : Glb) (M : Mach) (k : Nat) (c m : Str) (n : Nat) : Prop where
  ex : ∃ (f : Addr) (fd : FuncData) (ps : List Str), FnG P w K mg base k f fd ps (spI G M n (dot c m)) ∧ Cls K (G.cl c) ∧ Meth K (G.cl c) m f ∧ Binds K fd ps []
structure Mak (P : Program) (w : World) (K : PySem.W.Frag) (mg : Str → Option Value) (base : Heap) (G : Glb) (M : Mach) (k : Nat) (x c : Str) (n : Nat) (ks : List Str) (dxs : List Vl) : Prop where
  ex : ∃ (f : Addr) (fd : FuncData) (ps : List Str) (mv : List Value) (dvs : List V), FnG P w K mg base k f fd ps (spI G M (n + 1 + ks.length + dxs.length) (dot c "__init__")) ∧ Mk K (G.cl c) f ∧ mg x = some (.ref (G.cl c)) ∧ KBn K fd ps (n + 1) ks (fun us ws => us ++ ws ++ mv) (fun vs zs => vs ++ zs ++ dvs) ∧ Csts G dxs dvs
structure EqM (P : Program) (w : World) (K : PySem.W.Frag) (mg : Str → Option Value) (base : Heap) (G : Glb) (M : Mach) (k : Nat) (c : Str) : Prop where
  ex : ∃ (f : Addr) (fd : FuncData) (ps : List Str), FnG P w K mg base k f fd ps (spI G M 2 (dot c "__eq__")) ∧ EqC K (G.cl c) f ∧ Binds K fd ps []
structure LnM (P : Program) (w : World) (K : PySem.W.Frag) (mg : Str → Option Value) (base : Heap) (G : Glb) (M : Mach) (k : Nat) (c : Str) : Prop where
  ex : ∃ (f : Addr) (fd : FuncData) (ps : List Str), FnG P w K mg base k f fd ps (spI G M 1 (dot c "__len__")) ∧ PySem.W.findIn K (.ref (G.cl c)) "__len__" = some (some (.ref f)) ∧ PySem.W.isFn K (.ref f) = true ∧ Binds K fd ps []

/-! ### rules in short -/
theorem xv (i : Nat) (hN : X.N[i]? = some x := by rfl) (hv : Vis X.env.scope x := by first | exact Or.inl rfl | exact Or.inr (Or.inl rfl) | exact Or.inr (Or.inr rfl)) (hd : (x == ("__debug__" : Str)) = false := by decide) (hcd : (x == ("__classdict__" : Str)) = false := by decide) : PE X (.Name x pos) (tE G M W (.var i)) := pe_vari hN hv hd hcd
theorem xint {i : Int} {j : Nat} : PE X (.Constant (.int i) j pos) (tE G M W (.cst (.int i))) := pe_csti pe_int fun _ _ => by simp only [VR]
theorem xstr {z : Str} {j : Nat} : PE X (.Constant (.str z) j pos) (tE G M W (.cst (.str z))) := pe_csti pe_str fun _ _ => by simp only [VR]
theorem xbool {z : Bool} {j : Nat} : PE X (.Constant (.bool z) j pos) (tE G M W (.cst (.bl z))) := pe_csti pe_bl fun _ _ => by simp only [VR]
theorem xnon {j : Nat} : PE X (.Constant .none j pos) (tE G M W (.cst .non)) := pe_csti pe_non fun _ _ => by simp only [VR]
theorem xgl {u : Value} {v : V} {z : Vl} (hm : X.mg x = some u) (r : RelV v u) (hz : ∀ ρ H, VR G ρ H z v) (hg : Gl X x := by rfl) (hd : (x == ("__debug__" : Str)) = false := by decide) : PE X (.Name x pos) (tE G M W (.cst z)) := pe_csti (pe_glob hg hm r hd) hz
theorem xone {op : BoolOp} (h : PE X a (tE G M W ca)) : PE X (.BoolOp op [a] pos) (tE G M W ca) := pe_one h
theorem gn (g : Good G k X) (i : Nat) (hi : X.N[i]? = some x := by rfl) (hx : Loc X.env.scope x := by first | exact Or.inl rfl | exact Or.inr rfl) (hf : X.fn x = true ∨ X.env.scope.names.lookup x = some .local := by first | exact .inl rfl | exact .inr rfl | assumption) : PG X (.Name x pos) (tG G (.nm i)) := pg_nm g i hi hx hf
theorem pa1 (ha : PE X a (tE G M W ca)) (hs : starEach [a] X.env = (false, eval a X.env) :: starEach [] X.env := by rfl) : PA X [a] (tA G M W (.cons ca .nil)) := pa_consi ha pa_nili hs
theorem pac (ha : PE X a (tE G M W ca)) (hr : PA X es (tA G M W ces)) (hs : starEach (a :: es) X.env = (false, eval a X.env) :: starEach es X.env := by rfl) : PA X (a :: es) (tA G M W (.cons ca ces)) := pa_consi ha hr hs
/-- calls of own defs -/
theorem cv (g : Good G (k + 1) X) (c : Cal X.prog X.w X.K X.mg X.base G M k x q n) (tk : Takes X W) (ha : PA X (e :: es) (tA G M W ces)) (hn : ces.len = n := by rfl) (hg : Gl X x := by rfl) (hdb : (x == ("__debug__" : Str)) = false := by decide) (he : starEach (e :: es) X.env = (false, eval e X.env) :: starEach es X.env := by rfl) (hpl : (backTo pos (starEach es X.env)).any (·.1) = false := by rfl) : PE X (.Call (.Name x p) (e :: es) [] pos) (tE G M W (.call q ces)) := by
  obtain ⟨f, fd, ps, F, hm, hk, hb⟩ := c.ex
  refine (pe_callE g F hg hm hk (dxs := []) (dvs := []) hb .nil (fun _ _ => VRs.nil) tk ha hdb he hpl).imp fun σ H Q h => tCl_val (fun η S xs S1 h => ?_) (by rw [Es.app_nil]; exact h)
  rw [evs_len _ _ _ _ _ h, hn]; rfl
theorem cf (g : Good G (k + 1) X) (c : Cal X.prog X.w X.K X.mg X.base G M k x q n) (tk : Takes X W) (ha : PA X (e :: es) (tA G M W ces)) (hn : ces.len = n := by rfl) (hg : Gl X x := by rfl) (hdb : (x == ("__debug__" : Str)) = false := by decide) (he : starEach (e :: es) X.env = (false, eval e X.env) :: starEach es X.env := by rfl) (hpl : (backTo pos (starEach es X.env)).any (·.1) = false := by rfl) : PE X (.Call (.Name x p) (e :: es) [] pos) (tF G M W (.call q ces)) := by
  obtain ⟨f, fd, ps, F, hm, hk, hb⟩ := c.ex
  refine (pe_callE g F hg hm hk (dxs := []) (dvs := []) hb .nil (fun _ _ => VRs.nil) tk ha hdb he hpl).imp fun σ H Q h => tCl_frs (fun η S xs S1 h => ?_) (by rw [Es.app_nil]; exact h)
  rw [evs_len _ _ _ _ _ h, hn]; rfl
theorem cv0 (g : Good G (k + 1) X) (c : Cal X.prog X.w X.K X.mg X.base G M k x q 0) (tk : Takes X W) (hg : Gl X x := by rfl) (hdb : (x == ("__debug__" : Str)) = false := by decide) : PE X (.Call (.Name x p) [] [] pos) (tE G M W (.call q .nil)) := by
  obtain ⟨f, fd, ps, F, hm, hk, hb⟩ := c.ex
  refine (pe_call0 g F hg hm hk (dxs := []) (dvs := []) hb .nil (fun _ _ => VRs.nil) tk hdb).imp fun σ H Q h => tCl_val (fun η S xs S1 h => ?_) (by rw [Es.app_nil]; exact h)
  rw [evs_len _ _ _ _ _ h]; rfl
theorem cf0 (g : Good G (k + 1) X) (c : Cal X.prog X.w X.K X.mg X.base G M k x q 0) (tk : Takes X W) (hg : Gl X x := by rfl) (hdb : (x == ("__debug__" : Str)) = false := by decide) : PE X (.Call (.Name x p) [] [] pos) (tF G M W (.call q .nil)) := by
  obtain ⟨f, fd, ps, F, hm, hk, hb⟩ := c.ex
  refine (pe_call0 g F hg hm hk (dxs := []) (dvs := []) hb .nil (fun _ _ => VRs.nil) tk hdb).imp fun σ H Q h => tCl_frs (fun η S xs S1 h => ?_) (by rw [Es.app_nil]; exact h)
  rw [evs_len _ _ _ _ _ h]; rfl
/-- methods without arguments -/
theorem mv0 {pl : Sem Bool} (g : Good G (k + 1) X) (cm : Met X.prog X.w X.K X.mg X.base G M k c m 1) (tk : Takes X W) (ha : PE X a (tE G M W ca))
    (ht : eval (.Call (.Attribute a m apos) [] [] pos) X.env = (do
      let ov ← eval a X.env
      standAt apos.atName
      let (f, first) ← holding [ov] (getMethod ov m pl)
      callWith pos f first (backTo pos (starEach [] X.env)) (backToKw pos (keywordEach [] X.env))) := by rfl) : PE X (.Call (.Attribute a m apos) [] [] pos) (tE G M W (.mcl c m ca .nil)) := by
  obtain ⟨f, fd, ps, F, hC, hm, hb⟩ := cm.ex
  exact (pe_mcl0 g F hC hm hb (dxs := []) (dvs := []) .nil (fun _ _ => VRs.nil) tk ha ht).imp fun σ H Q h => tMc_val rfl (by rw [Es.app_nil]; exact h)
theorem mf0 {pl : Sem Bool} (g : Good G (k + 1) X) (cm : Met X.prog X.w X.K X.mg X.base G M k c m 1) (tk : Takes X W) (ha : PE X a (tE G M W ca))
    (ht : eval (.Call (.Attribute a m apos) [] [] pos) X.env = (do
      let ov ← eval a X.env
      standAt apos.atName
      let (f, first) ← holding [ov] (getMethod ov m pl)
      callWith pos f first (backTo pos (starEach [] X.env)) (backToKw pos (keywordEach [] X.env))) := by rfl) : PE X (.Call (.Attribute a m apos) [] [] pos) (tF G M W (.mcl c m ca .nil)) := by
  obtain ⟨f, fd, ps, F, hC, hm, hb⟩ := cm.ex
  exact (pe_mcl0 g F hC hm hb (dxs := []) (dvs := []) .nil (fun _ _ => VRs.nil) tk ha ht).imp fun σ H Q h => tMc_frs rfl (by rw [Es.app_nil]; exact h)
/-- a class called -/
theorem nw (g : Good G (k + 1) X) (cm : Mak X.prog X.w X.K X.mg X.base G M k x c n [] dxs) (tk : Takes X W) (ha : PA X (e :: es) (tA G M W ces)) (hn : ces.len = n := by rfl) (hcs : cs = ces.app dxs := by simp only [Es.app, Es.cat] <;> rfl) (hg : Gl X x := by rfl) (hdb : (x == ("__debug__" : Str)) = false := by decide) (he : starEach (e :: es) X.env = (false, eval e X.env) :: starEach es X.env := by rfl) (hpl : (backTo pos (starEach es X.env)).any (·.1) = false := by rfl) : PE X (.Call (.Name x p) (e :: es) [] pos) (tF G M W (.new c cs)) := by
  obtain ⟨f, fd, ps, mv, dvs, F, mk, hm, hb, hc⟩ := cm.ex
  subst hcs
  exact pf_new g F mk hg hm hb hc tk ha hn hdb he hpl
theorem nwK (g : Good G (k + 1) X) (cm : Mak X.prog X.w X.K X.mg X.base G M k x c n ks dxs) (tk : Takes X W) (ha : PA X (e :: es) (tA G M W ces)) (hkw : PK X kws (tA G M W kes)) (hn : ces.len = n := by rfl) (hk : kes.len = ks.length := by rfl) (hcs : cs = (ces.cat kes).app dxs := by simp only [Es.app, Es.cat] <;> rfl) (hg : Gl X x := by rfl) (hall : (backToKw pos (keywordEach kws X.env)).all (·.1.isSome) = true := by rfl) (hks : (backToKw pos (keywordEach kws X.env)).filterMap (·.1) = ks := by rfl) (hdb : (x == ("__debug__" : Str)) = false := by decide) (he : starEach (e :: es) X.env = (false, eval e X.env) :: starEach es X.env := by rfl)
    (hpl : ((backTo pos (starEach (e :: es) X.env)).any (·.1) || (backToKw pos (keywordEach kws X.env)).any (·.1.isNone)) = false := by rfl) : PE X (.Call (.Name x p) (e :: es) kws pos) (tF G M W (.new c cs)) := by
  obtain ⟨f, fd, ps, mv, dvs, F, mk, hm, hb, hc⟩ := cm.ex
  subst hcs
  exact pf_newK g F mk hg hm hb hc tk ha hkw hn hk hall hks hdb he hpl
theorem ln (g : Good G (k + 1) X) (cm : LnM X.prog X.w X.K X.mg X.base G M k c) (hm : X.mg "len" = none) (ha : PE X a (tE G M W ca)) (hg : Gl X "len" := by rfl) (hs1 : starEach [a] X.env = [(false, eval a X.env)] := by rfl) (he : starEach [a] X.env = (false, eval a X.env) :: starEach [] X.env := by rfl) (hpl : (backTo pos (starEach [] X.env)).any (·.1) = false := by rfl) : PE X (.Call (.Name "len" p) [a] [] pos) (tE G M W (.olen c ca)) := by
  obtain ⟨f, fd, ps, F, hs, hf, hb⟩ := cm.ex
  exact pe_olen g F hs hf hb hg hm ha hs1 he hpl
theorem eqv (g : Good G (k + 3) X) (cm : EqM X.prog X.w X.K X.mg X.base G M k c) (ha : PE X a (tE G M W ca)) (hb2 : PE X b (tE G M W cb)) (hm : behindInMarks .Eq b = false := by exact nomark _) : PE X (.Compare a [.Eq] [b] pos) (tE G M W (.oeq c false ca cb)) := by
  obtain ⟨f, fd, ps, F, ec, hb⟩ := cm.ex
  exact pe_oeqi g F ec hb ha hb2 hm
theorem eqt (g : Good G (k + 3) X) (cm : EqM X.prog X.w X.K X.mg X.base G M k c) (ha : PE X a (tE G M W ca)) (hb2 : PE X b (tE G M W cb)) (hm : behindInMarks .Eq b = false := by exact nomark _) : PT X (.Compare a [.Eq] [b] pos) (tQ G M W (.oeq c false ca cb)) := by
  obtain ⟨f, fd, ps, F, ec, hb⟩ := cm.ex
  exact pt_oeqi g F ec hb ha hb2 hm
theorem nev (g : Good G (k + 3) X) (cm : EqM X.prog X.w X.K X.mg X.base G M k c) (ha : PE X a (tE G M W ca)) (hb2 : PE X b (tE G M W cb)) (hm : behindInMarks .NotEq b = false := by exact nomark _) : PE X (.Compare a [.NotEq] [b] pos) (tE G M W (.oeq c true ca cb)) := by
  obtain ⟨f, fd, ps, F, ec, hb⟩ := cm.ex
  exact pe_onei g F ec hb ha hb2 hm
theorem net (g : Good G (k + 3) X) (cm : EqM X.prog X.w X.K X.mg X.base G M k c) (ha : PE X a (tE G M W ca)) (hb2 : PE X b (tE G M W cb)) (hm : behindInMarks .NotEq b = false := by exact nomark _) : PT X (.Compare a [.NotEq] [b] pos) (tQ G M W (.oeq c true ca cb)) := by
  obtain ⟨f, fd, ps, F, ec, hb⟩ := cm.ex
  exact pt_onei g F ec hb ha hb2 hm
/-- comparisons -/
theorem cpv (g : Good G k X) (op : CmpOp) (ha : PE X a (tE G M W ca)) (hb : PE X b (tE G M W cb)) (hm : behindInMarks op b = false := by first | exact nomark _ | rfl) : PE X (.Compare a [op] [b] pos) (tE G M W (.cmp op ca cb)) := pe_cmpi g op ha hb hm
theorem cpt (g : Good G k X) (op : CmpOp) (ha : PE X a (tE G M W ca)) (hb : PE X b (tE G M W cb)) (hm : behindInMarks op b = false := by first | exact nomark _ | rfl) : PT X (.Compare a [op] [b] pos) (tQ G M W (.cmp op ca cb)) := pt_cmpi g op ha hb hm
theorem ch3v {o1 o2 : CmpOp} {d : Expr} {cd : E} (g : Good G k X) (ha : PE X a (tE G M W ca)) (hb : PE X b (tE G M W cb)) (hd : PE X d (tE G M W cd)) (hm : lastMarks [o1, o2] [b, d] = false := by rfl) : PE X (.Compare a [o1, o2] [b, d] pos) (tE G M W (.chn o1 o2 ca cb cd)) := pe_chni g o1 o2 ha hb hd hm
theorem ch3t {o1 o2 : CmpOp} {d : Expr} {cd : E} (g : Good G k X) (ha : PE X a (tE G M W ca)) (hb : PE X b (tE G M W cb)) (hd : PE X d (tE G M W cd)) (hm : lastMarks [o1, o2] [b, d] = false := by rfl) : PT X (.Compare a [o1, o2] [b, d] pos) (tQ G M W (.chn o1 o2 ca cb cd)) := pt_chni g o1 o2 ha hb hd hm
/-- a bool as a test -/
theorem tv (h : PE X e (tE G M W ca)) (he : ∀ whole, isTrue e X.env whole = (do let v ← whole; standAt e.pos; holding [v] (truthy v)) := by intro _; rfl) : PT X e (tQ G M W ca) := pt_vali h he
theorem ix (g : Good G k X) (ha : PE X a (tE G M W ca)) (hb : PE X b (tE G M W cb)) (hs : PlainIx b := by intro _ _; rfl) : PE X (.Subscript a b pos) (tE G M W (.idx ca cb)) := pe_idxi g ha hb hs
/-- X in a module's table -/
structure Kd (w : World) (K : PySem.W.Frag) (mg : Str → Option Value) (G : Glb) (M : Mach) (x : Str) : Prop where
  ex : ∃ (d : Addr) (kv : List (Str × Vl)), KdOk G w d kv ∧ M.kd x = some kv ∧ mg x = some (.ref d)
theorem kgx (g : Good G k X) (h : Kd X.w X.K X.mg G M x) {p2 : Pos} (ha : PE X a (tE G M W ca)) (hg : Gl X x := by rfl) (hd : (x == ("__debug__" : Str)) = false := by decide) (hs : PlainIx a := by intro _ _; rfl) : PE X (.Subscript (.Name x p2) a pos) (tE G M W (.kget x ca)) := by
  obtain ⟨d, kv, h1, h2, h3⟩ := h.ex
  exact pe_kgeti g h1 h2 (pe_glob hg h3 rfl hd) ha hs
theorem nit (g : Good G k X) (h : Kd X.w X.K X.mg G M x) {p2 : Pos} (ha : PE X a (tE G M W ca)) (hg : Gl X x := by rfl) (hd : (x == ("__debug__" : Str)) = false := by decide) (hm : behindInMarks .NotIn (.Name x p2) = false := by rfl) : PT X (.Compare a [.NotIn] [.Name x p2] pos) (tQ G M W (.kin x true ca)) := by
  obtain ⟨d, kv, hk, hM, h3⟩ := h.ex
  obtain ⟨es, n, D, _⟩ := hk.look ""
  rw [← g.K] at D
  refine (pt_cmpR (op_notIn_kd D) ha (pe_glob (v := .ref d) hg h3 rfl hd) hm).imp fun σ H Q ⟨ρ, η, S, s, r, h⟩ => ⟨ρ, η, S, s, r, (PR.bind h).mono fun ρ1 H1 y S1 st1 s1 h1 v hv => ?_⟩
  rw [hM] at h1
  cases y with
  | str z =>
    simp only [VR] at hv; subst hv
    obtain ⟨d', e', h2⟩ := PR.here h1 s1
    obtain ⟨es', n', D', q⟩ := hk.look z
    rcases q with ⟨e1, e2⟩ | ⟨x', v', u, e1, e2, e3, e4⟩
    · refine ⟨z, none, rfl, rfl, by rw [g.K]; exact e2, _, rfl, ?_⟩
      rw [e1] at e'; cases e'; exact h2
    · refine ⟨z, some u, rfl, rfl, by rw [g.K]; exact e2, _, rfl, ?_⟩
      rw [e1] at e'; cases e'; exact h2
  | _ => exact h1.elim
end
end Oz
set_option Elab.async false
set_option linter.all false
set_option maxRecDepth 100000
set_option maxHeartbeats 4000000
/-! Oz: the end of a law whose own def is told by Oz. -/
namespace Oz
open PySem PySem.Spec PyProof.Rows L2

/-- the law's promise: a script of whole numbers, True -/
def spEnd (K : PySem.W.Frag) (n : Nat) : Sp := fun vs H Q _ => ∃ (a : Addr) (ns : List Int), vs = [.ref a] ∧ SqL K H a (ns.map V.int) ∧ ns.length ≤ n ∧ ∀ H', Q (.bl true) H'
section
variable {P : Program} {w : World} {K : PySem.W.Frag} {mg mb : Str → Option Value} {k n : Nat} {fa a : Addr} {fd : FuncData} {x : Str} {s : Shared} {us : List Value} {ns : List Int}
def Goal (P : Program) (w : World) (fa a : Addr) (s : Shared) : Prop := codeAny (model P w) callerA (.call (.ref fa) ⟨[.ref a], []⟩) (fun r t => r = .ok (.ret (.bool true)) ∧ OldK s.heap t.heap ∧ t.os = s.os ∧ AllBare t.gens) s
/-- a heap in which at most the script is known -/
structure Few (K : PySem.W.Frag) (a : Addr) (H : Hp) : Prop where
  at_ : ∀ b, H b = none ∨ (b = a ∧ K.lookup a = none ∧ ∃ o xs, H b = some (.frz o (.lst xs)))
theorem Few.ne {H : Hp} (f : Few K a H) {b : Addr} (h : b ≠ a) : H b = none := (f.at_ b).elim id fun z => absurd z.1 h
theorem end_few (kin : K.In s.heap) (hN : s.heap.Ns mainGlobals mg) (hB : s.heap.Ns builtinsNs mb) (hbb : ∀ x : Str, x ≠ "__name__" → mb x = bootBuiltins x) (hlim : s.heap.NoLimit) (hgen : s.gens = #[])
    (hobj : s.heap.get? a = some { cls := .type "list", data := .seq us.toArray }) (hr : Room k callerA)
    (F : ∀ base : Heap, K.In base → base.Ns mainGlobals mg → FnG P w K mg base k fa fd [x] (spEnd K n)) (hbind : ∀ (s : Shared) (u : Value), BindsTo s fd ⟨[u], []⟩ [(x, u)])
    {H : Hp} (few : Few K a H) (hS : SqL K H a (ns.map V.int)) (hlen : ns.length ≤ n) (hok : HOk P w H s.heap) : Goal P w fa a s := by
  have notD : ∀ {b : Addr} {o : Obj} {es : Array DictEntry} {ep : Nat}, s.heap.get? b = some o → o.data = .dict es ep → H b = none := fun {b o es ep} e d => few.ne fun hb => by
    rw [hb, hobj] at e
    cases e
    cases d
  have ns2 : ∀ {b : Addr} {m : Str → Option Value}, s.heap.Ns b m → (hidT s.heap H).Ns b m := fun {b m} ⟨o, es, ep, e, d, r⟩ => ⟨o, es, ep, hidT_get e (notD e d), d, r⟩
  have kin2 : K.In (hidT s.heap H) := fun b o e => hidT_get (kin b o e) ((few.at_ b).elim id fun ⟨hb, hk, _⟩ => by
    rw [hb, hk] at e
    cases e)
  have md : Mod K mg (hidT s.heap H) := by
    obtain ⟨mc, l1, l2⟩ := hlim
    exact ⟨kin2, ns2 hN, ⟨mb, ns2 hB, hbb⟩, ⟨mc, ns2 l1, l2⟩⟩
  have ev : Env0 P w K mg (hidT s.heap H) callerA [] s H :=
    { frames := rfl, mod := md, bs := fun b o e => of_hidT e, bsz := Nat.le_of_eq (hidT_size _ _), funs := trivial, frf := fun b hb => absurd (show b ∈ ([] : List Addr) from hb) (by simp), hok := hok, bare := .of_eq hgen }
  have main := (F _ kin2 (ns2 hN)).run callerA [] s H ⟨[.ref a], []⟩ [.ref a] [.ref a] (fun v _ => v = .bl true) (fun _ _ _ => False) hr rfl ev (hbind s (.ref a)) (.cons rfl .nil) ⟨a, ns, rfl, hS, hlen, fun _ => rfl⟩
  refine codeAny_mono main fun r t h => ?_
  match r, h with
  | .error e, ⟨_, _, _, _, _, _, _, _, _, _, _, _, z⟩ => exact z.elim
  | .ok (.ret u), ⟨v, H', os, bare, un, hok', r', q⟩ =>
    cases (show v = .bl true from q)
    cases (show u = Value.bool true from r')
    refine ⟨rfl, OldK.of_keep fun b o e => ?_, os, bare⟩
    have nf : b ∉ frs [] := fun z => absurd (show b ∈ ([] : List Addr) from z) (by simp)
    rcases few.at_ b with z | ⟨_, _, ob, xs, z⟩
    · exact un.keep b o e z nf (by simp)
    · obtain ⟨e1, _⟩ := hok b _ z
      obtain ⟨e2, _⟩ := hok' b _ (un.frzs b ob _ z)
      exact e2.trans (e1.symm.trans e)
theorem end_call (kin : K.In s.heap) (hN : s.heap.Ns mainGlobals mg) (hB : s.heap.Ns builtinsNs mb) (hbb : ∀ x : Str, x ≠ "__name__" → mb x = bootBuiltins x) (hlim : s.heap.NoLimit) (hgen : s.gens = #[])
    (hobj : s.heap.get? a = some { cls := .type "list", data := .seq us.toArray }) (hints : IntsAre us ns) (hn : n ≤ sizeLine) (hlen : ns.length ≤ n) (hr : Room k callerA)
    (F : ∀ base : Heap, K.In base → base.Ns mainGlobals mg → FnG P w K mg base k fa fd [x] (spEnd K n)) (hbind : ∀ (s : Shared) (u : Value), BindsTo s fd ⟨[u], []⟩ [(x, u)]) : Goal P w fa a s := by
  have rel := vals_ints hints
  have small : ns.length ≤ sizeLine := Nat.le_trans hlen hn
  by_cases hk : K.lookup a = none
  · have here : (fun b => if b = a then some (HO.frz { cls := .type "list", data := .seq us.toArray } (.lst (ns.map V.int))) else none : Hp) a = some (.frz { cls := .type "list", data := .seq us.toArray } (.lst (ns.map V.int))) := if_pos rfl
    refine end_few kin hN hB hbb hlim hgen hobj hr F hbind (H := fun b => if b = a then some (.frz { cls := .type "list", data := .seq us.toArray } (.lst (ns.map V.int))) else none) ⟨fun b => ?_⟩ (.inl (.inr ⟨_, here⟩)) hlen fun b u z => ?_
    · by_cases hb : b = a
      · exact .inr ⟨hb, hk, _, _, if_pos hb⟩
      · exact .inl (if_neg hb)
    · by_cases hb : b = a
      · subst hb
        cases here.symm.trans z
        exact ⟨hobj, by rw [List.length_map]; exact small, us, _, rel, hobj⟩
      · cases (if_neg hb).symm.trans z
  · obtain ⟨o, ho⟩ := Option.ne_none_iff_exists'.mp hk
    have eo := (kin a o ho).symm.trans hobj
    cases eo
    exact end_few kin hN hB hbb hlim hgen hobj hr F hbind (H := fun _ => none) ⟨fun _ => .inl rfl⟩ (.inr ⟨_, us.toArray, _, ho, rfl, rfl, rfl, by rw [List.size_toArray, hints.length]; exact small, by simpa using rel⟩) hlen fun b u z => by cases (show (none : Option HO) = some u from z)
end
/-- the goal that k_head leaves, of a def told by Oz -/
theorem end_of {l : PySem.W.OpenLaw} {n k : Nat} {q : Program} {loose : List Str} {XP : (Str → Option Value) → Heap → Prop} {YP : World → Heap → Prop} {d : DefRec} {K : Params → PySem.W.Frag} {x : Str}
    (hn : l.most = some n) (hn2 : n ≤ sizeLine) (hdf : d.params.defaults = []) (hr : Room k callerA) (hY : ∀ (w : World) (h : Heap), YP w h → (K w.params).In h)
    (F : ∀ (w : World) (mg : Str → Option Value) (fa : Addr) (h : Heap), (K w.params).In h → h.Ns mainGlobals mg → mg d.name = some (.ref fa) →
      ∃ fd : FuncData, (∀ (s : Shared) (u : Value), BindsTo s fd ⟨[u], []⟩ [(x, u)]) ∧ ∀ base : Heap, (K w.params).In base → base.Ns mainGlobals mg → FnG l.prog w (K w.params) mg base k fa fd [x] (spEnd (K w.params) n)) :
    PySem.W.WalkO q loose XP YP l.row.toRowW d [] (fun f vs => PySem.call f vs) := by
  refine Att.attach_call hn hdf fun w s0 s1 mg mb fa o pm cd doc a vs ns GG Y ho hd hcd hmg hobj hints hlen hg => ?_
  obtain ⟨fd, hb, hF⟩ := F w mg fa _ (hY w _ Y) GG.T.g hmg
  exact end_call (hY w _ Y) GG.T.g GG.T.b GG.T.builtins GG.T.nolimit hg hobj hints hn2 hlen hr hF hb

/-! ### a law's own def: the script is cut first, the rest is told by Oz -/
section
variable {G : Glb} {P : Program} {w : World} {K : PySem.W.Frag} {mg : Str → Option Value} {base : Heap}
def tCut (K : PySem.W.Frag) : TS := tAsg (tSl (rSlL K) (tVar 0) tNoPart (tPart (L2.tC (.int 63)))) (gName 0)
theorem cut63 {xs : List V} (h : xs.length ≤ 63) : cutV xs none (some 63) = xs := by
  unfold cutV
  rw [HT.sIx_none, show HT.sIx xs.length xs.length (some (63 : Int)) = min 63 xs.length from HT.sIx_nat xs.length xs.length 63, Nat.min_eq_right h]
  simp
theorem law_of {k : Nat} {f : Addr} {x qual : Str} {params : Arguments} {body : List Stmt} {scope : Scope} {dvs : List V} {kws : List (Str × V)} {fd : FuncData} {N : List Str} {p : Str} {M : Mach} {rest : Cs} {nn : Nat} (F : FunD K x qual params body scope dvs kws f fd) (Sc : FnScope N [p] scope) (hnn : N.length = nn + 1)
    (hbody : ∀ (cdv : Value) (A : Around) (outer : List Env) (s : Shared) (H : Hp) (E : XK), Room k (A.deeper (envOfC qual scope s.heap.objs.size f cdv)) → A.guards = some [] → PSs (cxOf (L2.CX P w) P w K mg base N qual scope f cdv A outer s H E) body (tSeq (tCut K) (tCs G M (fun cls d _ H' => E cls d H') rest)))
    (hlaw : ∀ ns : List Int, ns.length ≤ 63 → ∃ T, exec M rest (some (.lst (ns.map .int)) :: List.replicate nn none) [] = .ret (.val (.bl true)) T) : FnG P w K mg base (k + 1) f fd [p] (spEnd K 63) := by
  obtain ⟨oc, od, dV, kV, doc, pm, an, cdv, ct, osl, rfl, lk, hcd, _, _⟩ := F.ex
  refine ⟨fun vs H Q E h => by obtain ⟨a, ns, rfl, _⟩ := h; rfl, fun A outer s H args us vs Q E hr hgd e0 hb r hsp => ?_⟩
  obtain ⟨a, ns, rfl, hS, hlen, hQ⟩ := hsp
  have topIn : K.In s.heap := e0.mod.kin.keeps fun b o e => (e0.bs b o e).1
  have noLim : s.heap.NoLimit := e0.mod.nolimit.keeps fun b o e => (e0.bs b o e).1
  refine codeAny_call_function hr.depth (topIn _ _ lk) rfl Sc.co Sc.gen rfl (PySem.W.codeRec_of topIn hcd) (hb _ _ _ _ (wpAny_newFunctionEnv_cells Sc.kind (fun ⟨n, v⟩ hy => (Sc.par n (List.of_mem_zip hy).1).imp id fun z => ⟨z, PySem.W.cellsFrom_some _ _ _ (.inl z)⟩) fun env he s1 x => ?_))
  subst he
  refine ⟨noLim.keeps x.toInCall.keep, codeAny_func ?_⟩
  have start0 : Inv (cxOf (L2.CX P w) P w K mg base N qual scope f cdv A outer s H E) [] (L2.start N [.ref a]) H s1 := inv_start Sc hr.hd e0 rfl r x
  obtain ⟨T, hT⟩ := hlaw ns hlen
  have run0 := (hbody cdv A outer s H E (hr.deeper _) hgd).run [] s1 (L2.start N [.ref a]) H { nx := fun _ H' => Q .non H', rt := Q } start0 (by
    have l1 : (ns.map V.int).length ≤ 63 := by rw [List.length_map]; exact hlen
    refine ⟨.ref a, rfl, 63, rfl, a, ns.map V.int, rfl, hS, fun q hq => ?_⟩
    rw [cut63 l1]
    have hv : VR G [] (upd H q (.lst (ns.map V.int))) (.lst (ns.map .int)) (.ref q) := by
      simp only [VR]
      refine ⟨q, _, rfl, ⟨.inl upd_same, by simp⟩, VRs.of_get (by simp) fun i y v e1 e2 => ?_⟩
      rw [List.getElem?_map] at e1 e2
      cases e3 : ns[i]? with
      | none => rw [e3] at e1; cases e1
      | some z => rw [e3] at e1 e2; cases e1; cases e2; simp only [VR]
    have hlen2 : (L2.start N [.ref a]).length = N.length := by unfold L2.start; simp; omega
    refine ⟨[], some (.lst (ns.map .int)) :: List.replicate nn none, [], ⟨rfl, List.nodup_nil, fun r o a e => by simp at e⟩, ⟨?_, fun i y e => ?_⟩, ?_⟩
    · simp only [List.length_cons, List.length_replicate, List.length_set, hlen2, hnn]
    · cases i with
      | zero =>
        cases e
        exact ⟨.ref q, by rw [List.getElem?_set_self (by rw [hlen2]; omega)], hv⟩
      | succ i =>
        rw [List.getElem?_cons_succ, List.getElem?_replicate] at e
        split at e <;> simp at e
    · rw [hT]
      intro ρ' H' st s' v hv
      simp only [VR] at hv
      subst hv
      exact hQ H')
  refine wpAny_mono run0 (fun fl s' hs => ?_) fun _ _ z => z
  cases fl with
  | ret u => obtain ⟨v, σ', H', J, rv, z⟩ := hs; exact ⟨v, H', J.os, J.bare, J.base, J.hok, rv, z⟩
  | next => obtain ⟨σ', H', J, z⟩ := hs; exact ⟨.non, H', J.os, J.bare, J.base, J.hok, rfl, z⟩
  | brk => obtain ⟨_, _, _, z⟩ := hs; exact z.elim
  | cont => obtain ⟨_, _, _, z⟩ := hs; exact z.elim
end

/-! ### a def, with what its derivation asks of the surroundings -/
section
variable {G : Glb} {P : Program} {w : World} {mg : Str → Option Value} {base : Heap}
theorem good_cx {k : Nat} {f : Addr} {qual : Str} {scope : Scope} {N ps : List Str} {cdv : Value} {A : Around} {outer : List Env} {s : Shared} {H : Hp} {E : XK} (Sc : FnScope N ps scope) (hr : Room k (A.deeper (envOfC qual scope s.heap.objs.size f cdv))) (hg : A.guards = some []) : Good G k (cxOf (L2.CX P w) P w G.K mg base N qual scope f cdv A outer s H E) := ⟨rfl, Sc.nd, rfl, hr, hg⟩
theorem g_of2 {k : Nat} {f : Addr} {x qual q : Str} {params : Arguments} {body : List Stmt} {scope : Scope} {dvs : List V} {kws : List (Str × V)} {fd : FuncData} {N ps : List Str} {M M' : Mach} {d : Dfn} (F : FunD G.K x qual params body scope dvs kws f fd) (Sc : FnScope N ps scope)
    (hM : ∀ xs S, M.cal q xs S = calD M' d xs S) (hnp : d.np = ps.length) (hnn : d.nn = N.length)
    (hbody : ∀ (cdv : Value) (A : Around) (outer : List Env) (s : Shared) (H : Hp) (E : XK), Good G k (cxOf (L2.CX P w) P w G.K mg base N qual scope f cdv A outer s H E) →
      PassesOwn (model (cxOf (L2.CX P w) P w G.K mg base N qual scope f cdv A outer s H E).prog (cxOf (L2.CX P w) P w G.K mg base N qual scope f cdv A outer s H E).w) (cxOf (L2.CX P w) P w G.K mg base N qual scope f cdv A outer s H E).A (cxOf (L2.CX P w) P w G.K mg base N qual scope f cdv A outer s H E).env (cxOf (L2.CX P w) P w G.K mg base N qual scope f cdv A outer s H E).xe →
      Takes (cxOf (L2.CX P w) P w G.K mg base N qual scope f cdv A outer s H E) (fun cls d _ H' => E cls d H') → PSs (cxOf (L2.CX P w) P w G.K mg base N qual scope f cdv A outer s H E) body (tCs G M' (fun cls d _ H' => E cls d H') d.body)) :
    FnG P w G.K mg base (k + 1) f fd ps (spI G M d.np q) :=
  g_of F Sc hM hnp hnn fun cdv A outer s H E hr hg => hbody cdv A outer s H E (good_cx Sc hr hg) (L2.passes_of rfl) (L2.takes_of rfl rfl rfl rfl)
theorem law_of2 {k : Nat} {f : Addr} {x qual : Str} {params : Arguments} {body : List Stmt} {scope : Scope} {dvs : List V} {kws : List (Str × V)} {fd : FuncData} {N : List Str} {p : Str} {M : Mach} {rest : Cs} {nn : Nat} (F : FunD G.K x qual params body scope dvs kws f fd) (Sc : FnScope N [p] scope) (hnn : N.length = nn + 1)
    (hbody : ∀ (cdv : Value) (A : Around) (outer : List Env) (s : Shared) (H : Hp) (E : XK), Good G k (cxOf (L2.CX P w) P w G.K mg base N qual scope f cdv A outer s H E) →
      PassesOwn (model (cxOf (L2.CX P w) P w G.K mg base N qual scope f cdv A outer s H E).prog (cxOf (L2.CX P w) P w G.K mg base N qual scope f cdv A outer s H E).w) (cxOf (L2.CX P w) P w G.K mg base N qual scope f cdv A outer s H E).A (cxOf (L2.CX P w) P w G.K mg base N qual scope f cdv A outer s H E).env (cxOf (L2.CX P w) P w G.K mg base N qual scope f cdv A outer s H E).xe →
      Takes (cxOf (L2.CX P w) P w G.K mg base N qual scope f cdv A outer s H E) (fun cls d _ H' => E cls d H') → PSs (cxOf (L2.CX P w) P w G.K mg base N qual scope f cdv A outer s H E) body (tSeq (tCut G.K) (tCs G M (fun cls d _ H' => E cls d H') rest)))
    (hlaw : ∀ ns : List Int, ns.length ≤ 63 → ∃ T, exec M rest (some (.lst (ns.map .int)) :: List.replicate nn none) [] = .ret (.val (.bl true)) T) : FnG P w G.K mg base (k + 1) f fd [p] (spEnd G.K 63) :=
  law_of (G := G) F Sc hnn (fun cdv A outer s H E hr hg => hbody cdv A outer s H E (good_cx Sc hr hg) (L2.passes_of rfl) (L2.takes_of rfl rfl rfl rfl)) hlaw
theorem g_zero {K : PySem.W.Frag} {k n : Nat} {f : Addr} {fd : FuncData} {ps : List Str} {M : Mach} {q : Str} (hn : n = ps.length) (hM : ∀ xs S, M.cal q xs S = .bad) : FnG P w K mg base k f fd ps (spI G M n q) :=
  ⟨fun vs H Q E h => h.1.trans hn, fun A outer s H args us vs Q E hr hgd e0 hb r hsp => by
    obtain ⟨_, ρ, S, xs, _, _, hp⟩ := hsp
    rw [hM] at hp
    exact hp.elim⟩
end
section
variable {K : PySem.W.Frag} {x qual : Str} {params : Arguments} {body : List Stmt} {scope : Scope} {f : Addr} {fd : FuncData} {ps : List Str} {kws : List (Str × V)}
theorem dfl_none {dV : Value} (h : DflV K dV []) : dV = .none := h.elim (fun z => z.2) fun z => absurd rfl z.1
theorem bnd0 (F : FunD K x qual params body scope [] kws f fd) (h : ∀ (kV doc pm : Value) (an : Option Addr) (cdv ct : Value) (us : List Value), us.length = ps.length → bindArgs (PySem.W.fnOf x qual params body scope .none kV doc pm an cdv ct) ⟨us, []⟩ = pure (ps.zip us)) : Binds K fd ps [] := by
  obtain ⟨oc, od, dV, kV, doc, pm, an, cdv, ct, osl, rfl, lk, hcd, hD, hK⟩ := F.ex
  cases dfl_none hD
  exact .all (h kV doc pm an cdv ct)
theorem bndU (F : FunD K x qual params body scope [] kws f fd) (h : ∀ (kV doc pm : Value) (an : Option Addr) (cdv ct : Value) (u : Value), bindArgs (PySem.W.fnOf x qual params body scope .none kV doc pm an cdv ct) ⟨[u], []⟩ = pure (ps.zip [u])) (s : Shared) (u : Value) : BindsTo s fd ⟨[u], []⟩ (ps.zip [u]) := by
  obtain ⟨oc, od, dV, kV, doc, pm, an, cdv, ct, osl, rfl, lk, hcd, hD, hK⟩ := F.ex
  cases dfl_none hD
  exact .of_eq (h kV doc pm an cdv ct u)
theorem kbn0 (F : FunD K x qual params body scope [] kws f fd) (n : Nat) (ks : List Str) (h : ∀ (kV doc pm : Value) (an : Option Addr) (cdv ct : Value) (us ws : List Value), us.length = n → ws.length = ks.length → bindArgs (PySem.W.fnOf x qual params body scope .none kV doc pm an cdv ct) ⟨us, ks.zip ws⟩ = pure (ps.zip (us ++ ws))) : KBn K fd ps n ks (fun us ws => us ++ ws ++ []) (fun vs zs => vs ++ zs ++ []) := by
  obtain ⟨oc, od, dV, kV, doc, pm, an, cdv, ct, osl, rfl, lk, hcd, hD, hK⟩ := F.ex
  cases dfl_none hD
  refine ⟨fun s us ws _ l1 l2 => ?_, fun r1 r2 => (r1.append r2).append .nil⟩
  rw [List.append_nil]
  exact .of_eq (h kV doc pm an cdv ct us ws l1 l2)
theorem fund_mk {st : Stmt} {oc : Value} {od an : Option Addr} {osl : Array (Option Value)} {kV doc pm cdv ct : Value} (l : K.lookup f = some ⟨oc, od, .func (PySem.W.fnOf x qual (defArgs st) (defBody st) (defScope st) .none kV doc pm an cdv ct), osl⟩)
    (c : PySem.W.codeIn K cdv qual = true) (k : PySem.W.keepIn K (.ref f) = true) (hk : KwdV K kV kws) : FunD K x qual (defArgs st) (defBody st) (defScope st) [] kws f (PySem.W.fnOf x qual (defArgs st) (defBody st) (defScope st) .none kV doc pm an cdv ct) := ⟨⟨oc, od, .none, kV, doc, pm, an, cdv, ct, osl, rfl, l, c, .inl ⟨rfl, rfl⟩, hk⟩, k⟩
end
end Oz
set_option Elab.async false
set_option linter.all false
set_option maxRecDepth 100000
set_option maxHeartbeats 4000000
/-! Oz: plain laws of what code does. -/
namespace Oz
open PySem L2

/-! ### values without references -/
mutual
def Vl.nr : Vl → Bool
  | .tup xs | .lst xs | .dct _ xs | .obj _ _ xs => nrs xs
  | .ref _ => false
  | _ => true
def nrs : List Vl → Bool
  | [] => true
  | x :: xs => Vl.nr x && nrs xs
end
def Ob.nr : Ob → Bool
  | .lst xs | .dct _ xs | .ins _ _ xs => nrs xs
mutual
theorem nr_lim (n : Nat) : ∀ v : Vl, v.nr = true → v.lim n = true
  | .non, _ | .bl _, _ | .int _, _ | .str _, _ => by simp only [Vl.lim]
  | .tup xs, h | .lst xs, h | .dct _ xs, h | .obj _ _ xs, h => by simp only [Vl.nr] at h; simp only [Vl.lim]; exact nrs_lim n xs h
  | .ref _, h => by simp [Vl.nr] at h
theorem nrs_lim (n : Nat) : ∀ v : List Vl, nrs v = true → limAll n v = true
  | [], _ => by simp only [limAll]
  | x :: xs, h => by
    simp only [nrs, Bool.and_eq_true] at h
    simp only [limAll, nr_lim n x h.1, nrs_lim n xs h.2, Bool.and_self]
end
mutual
theorem nr_mapO (f : Nat → Option Vl) : ∀ v : Vl, v.nr = true → v.mapO f = some v
  | .non, _ | .bl _, _ | .int _, _ | .str _, _ => by simp only [Vl.mapO]
  | .tup xs, h | .lst xs, h | .dct _ xs, h | .obj _ _ xs, h => by simp only [Vl.nr] at h; simp only [Vl.mapO, nrs_mapO f xs h, Option.map_some]
  | .ref _, h => by simp [Vl.nr] at h
theorem nrs_mapO (f : Nat → Option Vl) : ∀ v : List Vl, nrs v = true → mapOs f v = some v
  | [], _ => by simp only [mapOs]
  | x :: xs, h => by
    simp only [nrs, Bool.and_eq_true] at h
    simp only [mapOs, nr_mapO f x h.1, nrs_mapO f xs h.2, Option.bind_some, Option.map_some]
end
mutual
theorem nr_mapRef (f : Nat → Vl) : ∀ v : Vl, v.nr = true → v.mapRef f = v
  | .non, _ | .bl _, _ | .int _, _ | .str _, _ => by simp only [Vl.mapRef]
  | .tup xs, h | .lst xs, h | .dct _ xs, h | .obj _ _ xs, h => by simp only [Vl.nr] at h; simp only [Vl.mapRef, nrs_mapRef f xs h]
  | .ref _, h => by simp [Vl.nr] at h
theorem nrs_mapRef (f : Nat → Vl) : ∀ v : List Vl, nrs v = true → mapRefs f v = v
  | [], _ => by simp only [mapRefs]
  | x :: xs, h => by
    simp only [nrs, Bool.and_eq_true] at h
    simp only [mapRefs, nr_mapRef f x h.1, nrs_mapRef f xs h.2]
end
theorem nrs_of : ∀ {xs : List Vl}, (∀ x ∈ xs, x.nr = true) → nrs xs = true
  | [], _ => by simp only [nrs]
  | x :: xs, h => by
    simp only [nrs, h x (List.mem_cons_self ..), nrs_of fun y hy => h y (List.mem_cons_of_mem _ hy), Bool.and_self]
theorem of_nrs : ∀ {xs : List Vl}, nrs xs = true → ∀ x ∈ xs, x.nr = true
  | [], _, _, h => by simp at h
  | x :: xs, h, y, hy => by
    simp only [nrs, Bool.and_eq_true] at h
    rcases List.mem_cons.mp hy with rfl | hy
    · exact h.1
    · exact of_nrs h.2 y hy
theorem nrs_append {xs ys : List Vl} (h : nrs xs = true) (k : nrs ys = true) : nrs (xs ++ ys) = true := nrs_of fun x hx => (List.mem_append.mp hx).elim (of_nrs h x) (of_nrs k x)
theorem nrs_map_str (zs : List Str) : nrs (zs.map Vl.str) = true := nrs_of fun x hx => by
  obtain ⟨z, _, rfl⟩ := List.mem_map.mp hx
  simp only [Vl.nr]
theorem nrs_map_int (zs : List Int) : nrs (zs.map Vl.int) = true := nrs_of fun x hx => by
  obtain ⟨z, _, rfl⟩ := List.mem_map.mp hx
  simp only [Vl.nr]
theorem inlS_nr (k : Nat) (S : Hs) {v : Vl} (h : v.nr = true) : inlS k S v = v := by
  cases k with
  | zero => simp only [inlS]; exact nr_mapRef _ v h
  | succ k => simp only [inlS]; exact nr_mapRef _ v h
def NR (S : Hs) : Prop := ∀ o ∈ S, o.nr = true
theorem NR.nil : NR [] := fun o h => by simp at h
theorem NR.app {S T : Hs} (h : NR S) (k : NR T) : NR (S ++ T) := fun o ho => (List.mem_append.mp ho).elim (h o) (k o)
theorem NR.one {S : Hs} (h : NR S) {o : Ob} (k : o.nr = true) : NR (S ++ [o]) := h.app fun p hp => by simp at hp; rw [hp]; exact k
theorem NR.cl {S : Hs} (h : NR S) (n : Nat) : S.all (Ob.lim n) = true := List.all_eq_true.mpr fun o ho => by
  have := h o ho
  cases o <;> exact nrs_lim n _ this
theorem NR.take {S : Hs} (h : NR S) (n : Nat) : NR (S.take n) := fun o ho => h o (List.mem_of_mem_take ho)
theorem NR.set {S : Hs} (h : NR S) (r : Nat) {o : Ob} (k : o.nr = true) : NR (S.set r o) := fun p hp => by
  rcases List.mem_or_eq_of_mem_set hp with z | z
  · exact h p z
  · rw [z]; exact k
theorem NR.at {S : Hs} (h : NR S) {r : Nat} {o : Ob} (e : S[r]? = some o) : o.nr = true := h o (List.mem_of_getElem? e)
/-! ### what a def hands back -/
theorem finV_nr {n : Nat} {T : Hs} {v : Vl} (h : v.nr = true) : finV n T v = .ok (.val v) (T.take n) := by
  cases v with
  | ref r => simp [Vl.nr] at h
  | _ => simp only [finV, nr_mapO _ _ h]
theorem finR_val {n : Nat} {T : Hs} {v : Vl} (hT : NR (T.take n)) (h : v.nr = true) : finR n (.val v) T = .ok (.val v) (T.take n) := by
  unfold finR
  rw [if_pos (hT.cl n)]
  exact finV_nr h
theorem ob_mapO {o : Ob} (f : Nat → Option Vl) (h : o.nr = true) : o.mapO f = some o := by
  cases o <;> simp only [Ob.nr] at h <;> simp only [Ob.mapO, nrs_mapO f _ h, Option.map_some]
theorem finR_ref {n r : Nat} {T : Hs} {o : Ob} (hT : NR (T.take n)) (hr : n ≤ r) (e : T[r]? = some o) (h : o.nr = true) : finR n (.val (.ref r)) T = .ok (.frs o) (T.take n) := by
  unfold finR
  rw [if_pos (hT.cl n)]
  simp only [finV]
  rw [if_neg (by omega), e]
  simp only [ob_mapO _ h]
theorem finR_frs {n : Nat} {T : Hs} {o : Ob} (hn : n ≤ T.length) (hT : NR (T.take n)) (h : o.nr = true) : finR n (.frs o) T = .ok (.frs o) (T.take n) := by
  unfold finR
  rw [if_pos (hT.cl n)]
  simp only [finV]
  rw [if_neg (by omega)]
  simp only [List.getElem?_concat_length, ob_mapO _ h, List.take_append_of_le_length hn]
/-- a def's end by its body's -/
theorem cal_val {M : Mach} {d : Dfn} {xs : List Vl} {S T : Hs} {v : Vl} (hl : xs.length = d.np) (hb : exec M d.body (xs.map some ++ List.replicate (d.nn - xs.length) none) S = .ret (.val v) (S ++ T)) (hS : NR S) (hv : v.nr = true) : calD M d xs S = .ok (.val v) S := by
  unfold calD
  rw [if_pos hl, hb]
  simp only
  rw [finR_val (by simpa using hS) hv]
  simp
theorem cal_ref {M : Mach} {d : Dfn} {xs : List Vl} {S T : Hs} {o : Ob} {r : Nat} (hl : xs.length = d.np) (hb : exec M d.body (xs.map some ++ List.replicate (d.nn - xs.length) none) S = .ret (.val (.ref (S.length + r))) (S ++ T)) (hS : NR S) (ho : T[r]? = some o) (hv : o.nr = true) : calD M d xs S = .ok (.frs o) S := by
  unfold calD
  rw [if_pos hl, hb]
  simp only
  rw [finR_ref (o := o) (by simpa using hS) (by omega) (by rw [List.getElem?_append_right (by omega)]; simpa using ho) hv]
  simp
theorem cal_frs {M : Mach} {d : Dfn} {xs : List Vl} {S T : Hs} {o : Ob} (hl : xs.length = d.np) (hb : exec M d.body (xs.map some ++ List.replicate (d.nn - xs.length) none) S = .ret (.frs o) (S ++ T)) (hS : NR S) (hv : o.nr = true) : calD M d xs S = .ok (.frs o) S := by
  unfold calD
  rw [if_pos hl, hb]
  simp only
  rw [finR_frs (by simp) (by simpa using hS) hv]
  simp
/-- an __init__: it changes its own thing, which stands last -/
theorem cal_init {M : Mach} {d : Dfn} {xs : List Vl} {S : Hs} {o o' : Ob} (hl : xs.length = d.np) (hb : ∃ η, exec M d.body (xs.map some ++ List.replicate (d.nn - xs.length) none) (S ++ [o]) = .nx η (S ++ [o'])) (hS : NR S) (hv : o'.nr = true) : calD M d xs (S ++ [o]) = .ok (.val .non) (S ++ [o']) := by
  obtain ⟨η, hb⟩ := hb
  unfold calD
  rw [if_pos hl, hb]
  simp only
  have e : (S ++ [o']).take (S ++ [o]).length = S ++ [o'] := List.take_of_length_le (by simp)
  rw [finR_val (by rw [e]; exact hS.one hv) (by simp only [Vl.nr]), e]
theorem newR_done {S : Hs} {o : Ob} (h : NR S) (ho : o.nr = true) : newR S (.ok (.val .non) (S ++ [o])) = .ok o S := by
  unfold newR
  simp only [List.getLast?_append, List.getLast?_singleton, Option.some_or, List.length_append, List.length_cons, List.length_nil, List.dropLast_concat]
  rw [if_pos ⟨trivial, (h.one ho).cl _⟩]

theorem len_lst (S : Hs) (xs : List Vl) : b1op .len S (.lst xs) = some (.int xs.length) := rfl
theorem len_tup (S : Hs) (xs : List Vl) : b1op .len S (.tup xs) = some (.int xs.length) := rfl
theorem pop0 {x : Vl} {xs : List Vl} : mutop .popAt (x :: xs) [.int 0] = some (x, xs) := by
  unfold mutop
  simp only
  rw [if_pos ⟨by decide, by decide⟩]
  have e : seqIndex? 0 (x :: xs).length = some 0 := by
    unfold seqIndex?
    simp
  rw [e]
  simp
theorem set_last {α : Type} (S : List α) (a b : α) : (S ++ [a]).set S.length b = S ++ [b] := by simp
/-! ### operations -/
theorem b_add (i j : Int) : binop .Add (.int i) (.int j) = some (.int (i + j)) := rfl
theorem b_sub (i j : Int) : binop .Sub (.int i) (.int j) = some (.int (i - j)) := rfl
theorem b_mod {i j : Int} (h : 0 < j) : binop .Mod (.int i) (.int j) = some (.int (i % j)) := if_pos h
theorem b_fdiv {i j : Int} (h : 0 < j) (k : j < 1073741824) : binop .FloorDiv (.int i) (.int j) = some (.int (i / j)) := if_pos ⟨h, k⟩
theorem b_mulR {i j : Int} (h : -(2 ^ 64) < j) (k : j < 2 ^ 64) : binop .Mult (.int i) (.int j) = some (.int (i * j)) := if_pos (by unfold mulOk; rw [decide_eq_true h, decide_eq_true k]; simp)
theorem b_mulL {i j : Int} (h : -(2 ^ 64) < i) (k : i < 2 ^ 64) : binop .Mult (.int i) (.int j) = some (.int (i * j)) := if_pos (by unfold mulOk; rw [decide_eq_true h, decide_eq_true k]; simp)
theorem b_pow {i j : Int} (h : 0 ≤ j) (k : j ≤ 1000000) (l : i.natAbs < 2 ^ 64) : binop .Pow (.int i) (.int j) = some (.int (i ^ j.toNat)) := if_pos ⟨h, k, l⟩
theorem b_adds {i j : Str} (h : i.length + j.length ≤ sizeLine) : binop .Add (.str i) (.str j) = some (.str (i ++ j)) := if_pos h
theorem b_addt {xs ys : List Vl} (h : xs.length + ys.length ≤ 1000000) (k : xs ≠ []) : binop .Add (.tup xs) (.tup ys) = some (.tup (xs ++ ys)) := if_pos ⟨Nat.le_trans h (by decide), k⟩
theorem ix_lst {S : Hs} {xs : List Vl} {x : Vl} {i : Nat} (h : xs[i]? = some x) : idxop S (.lst xs) (.int i) = some x := by
  unfold idxop
  exact atI_nat h
theorem ix_tup {S : Hs} {xs : List Vl} {x : Vl} {i : Nat} (h : xs[i]? = some x) : idxop S (.tup xs) (.int i) = some x := by
  unfold idxop
  exact atI_nat h
theorem ix_str {S : Hs} {z : Str} {c : Nat} {i : Nat} (hz : z.length ≤ 1000000) (h : z.cps.toList[i]? = some c) : idxop S (.str z) (.int i) = some (.str ⟨#[c]⟩) := by
  have e : idxop S (.str z) (.int i) = if z.length ≤ sizeLine then (atI z.cps.toList (i : Int)).map fun c => .str ⟨#[c]⟩ else none := rfl
  rw [e, if_pos (Nat.le_trans hz (by decide)), atI_nat h]; rfl
theorem lstAt_last (S : Hs) (xs : List Vl) : lstAt (S ++ [.lst xs]) (.ref S.length) = some S.length := by
  unfold lstAt
  simp only [List.getElem?_concat_length]
theorem mut_app {xs : List Vl} {y : Vl} (h : xs.length < 1000000) : mutop .append xs [y] = some (.non, xs ++ [y]) := if_pos (Nat.lt_of_lt_of_le h (by decide))
theorem rng_at {n i : Nat} {x : Vl} (h : (rngL 0 n)[i]? = some x) : i < n ∧ x = .int i := by
  obtain ⟨h1, h2⟩ := rngL_at h
  exact ⟨h1, by rw [h2, Int.zero_add]⟩
/-! ### loops -/
theorem forL_ok {body : Sg → Hs → Out} {t : Tg} {lk : List Lk} (I : Nat → Sg → Hs → Prop) : ∀ (xs : List Vl) (k : Nat) (η : Sg) (S : Hs), I k η S → (∀ i η S, I i η S → lockd lk S) →
    (∀ i x η S, xs[i]? = some x → I (k + i) η S → ∃ η1, bindT t x η = some η1 ∧ ∃ η2 S2, (body η1 S = .nx η2 S2 ∨ body η1 S = .cnt η2 S2) ∧ I (k + i + 1) η2 S2) →
    ∃ η' S', forL body t lk xs η S = .nx η' S' ∧ I (k + xs.length) η' S'
  | [], k, η, S, h0, hl, _ => ⟨η, S, by unfold forL; rw [if_pos (hl k η S h0)], h0⟩
  | x :: xs, k, η, S, h0, hl, hs => by
    obtain ⟨η1, e1, η2, S2, e2, h2⟩ := hs 0 x η S rfl h0
    obtain ⟨η', S', e3, h3⟩ := forL_ok I xs (k + 1) η2 S2 h2 hl fun i y η S ey hI => by
      have := hs (i + 1) y η S (by simpa using ey) (by rw [show k + (i + 1) = k + 1 + i by omega]; exact hI)
      rw [show k + (i + 1) + 1 = k + 1 + i + 1 by omega] at this
      exact this
    refine ⟨η', S', ?_, by rw [List.length_cons, show k + (xs.length + 1) = k + 1 + xs.length by omega]; exact h3⟩
    unfold forL
    rw [if_pos (hl k η S h0), e1]
    rcases e2 with e2 | e2 <;> simp only [e2] <;> exact e3
theorem for_ok {body : Sg → Hs → Out} {t : Tg} {lk : List Lk} {xs : List Vl} {η : Sg} {S : Hs} (I : Nat → Sg → Hs → Prop) (h0 : I 0 η S) (hl : ∀ i η S, I i η S → lockd lk S)
    (hs : ∀ i x η S, xs[i]? = some x → I i η S → ∃ η1, bindT t x η = some η1 ∧ ∃ η2 S2, (body η1 S = .nx η2 S2 ∨ body η1 S = .cnt η2 S2) ∧ I (i + 1) η2 S2) : ∃ η' S', forL body t lk xs η S = .nx η' S' ∧ I xs.length η' S' := by
  obtain ⟨η', S', h, k⟩ := forL_ok I xs 0 η S h0 hl fun i x η S e h => by rw [Nat.zero_add] at h ⊢; exact hs i x η S e h
  rw [Nat.zero_add] at k
  exact ⟨η', S', h, k⟩
theorem ev_rng1 {M : Mach} {e : E} {η : Sg} {S S1 : Hs} {k : Nat} (h : ev M e η S = .ok (.int k) S1) (hk : k ≤ 1000000) : evS M (.rng1 e) η S = .ok ([], rngL 0 k) S1 := by
  simp only [evS, h, Res.bind]
  rw [if_pos ⟨by omega, by omega⟩, Int.toNat_natCast]
theorem lock_nil (S : Hs) : lockd [] S := fun p h => by simp at h
/-- a comprehension that leaves the heap as it is -/
theorem compL_ok {step : Vl → Hs → Res (Option Vl)} {lk : List Lk} {S : Hs} (f : Vl → Option Vl) (hl : lockd lk S) : ∀ (xs acc : List Vl), acc.length + xs.length ≤ 1000000 → nrs acc = true → (∀ x ∈ xs, ∀ y, f x = some y → y.nr = true) →
    (∀ x ∈ xs, ∀ acc : List Vl, nrs acc = true → step x (S ++ [.lst acc]) = .ok (f x) (S ++ [.lst acc])) → compL step lk xs acc S = .ok (acc ++ xs.filterMap f) S
  | [], acc, _, _, _, _ => by unfold compL; rw [if_pos hl]; simp
  | x :: xs, acc, hz, ha, hy, hs => by
    have hlt : acc.length < sizeLine := by
      have : (1000000 : Nat) < sizeLine := by decide
      rw [List.length_cons] at hz; omega
    unfold compL
    rw [if_pos hl, hs x (List.mem_cons_self ..) acc ha]
    simp only
    rw [if_pos ⟨trivial, hlt⟩]
    rw [List.length_cons] at hz
    cases e : f x with
    | none =>
      simp only
      rw [compL_ok f hl xs acc (by omega) ha (fun y h => hy y (List.mem_cons_of_mem _ h)) fun y h => hs y (List.mem_cons_of_mem _ h)]
      simp [e]
    | some y =>
      have ny := hy x (List.mem_cons_self ..) y e
      simp only
      rw [if_pos (nr_lim _ _ ny), compL_ok f hl xs (acc ++ [y]) (by simp; omega) (nrs_append ha (by simp only [nrs, ny, Bool.and_self])) (fun y h => hy y (List.mem_cons_of_mem _ h)) fun y h => hs y (List.mem_cons_of_mem _ h)]
      simp [e]
theorem compS_ok {step : Vl → Hs → Res (List Str)} {lk : List Lk} {S : Hs} (f : Vl → List Str) (hl : lockd lk S) : ∀ (xs : List Vl), (∀ x ∈ xs, step x S = .ok (f x) S) → compS step lk xs S = .ok (xs.flatMap f) S
  | [], _ => by unfold compS; rw [if_pos hl]; rfl
  | x :: xs, hs => by
    unfold compS
    rw [if_pos hl, hs x (List.mem_cons_self ..)]
    simp only
    rw [if_pos trivial, compS_ok f hl xs fun y h => hs y (List.mem_cons_of_mem _ h)]
    simp [Res.bind]

/-! ### data -/
mutual
def Vl.pd : Vl → Bool
  | .non | .bl _ => true
  | .int i => decide (i.natAbs < 10 ^ 6)
  | .str z => PyData.strOk z
  | .tup xs | .lst xs => pds xs
  | _ => false
def pds : List Vl → Bool
  | [] => true
  | x :: xs => Vl.pd x && pds xs
end
mutual
def Vl.wt : Vl → Nat
  | .int _ => 20
  | .str z => z.length
  | .tup xs | .lst xs => wts xs
  | _ => 0
def wts : List Vl → Nat
  | [] => 0
  | x :: xs => Vl.wt x + 1 + wts xs
end
mutual
def Vl.dep : Vl → Nat
  | .tup xs | .lst xs => deps xs + 1
  | _ => 0
def deps : List Vl → Nat
  | [] => 0
  | x :: xs => max (Vl.dep x) (deps xs)
end
mutual
theorem pd_nr : ∀ v : Vl, v.pd = true → v.nr = true
  | .non, _ | .bl _, _ | .int _, _ | .str _, _ => by simp only [Vl.nr]
  | .tup xs, h | .lst xs, h => by simp only [Vl.pd] at h; simp only [Vl.nr]; exact pds_nr xs h
  | .dct _ xs, h | .obj _ _ xs, h | .ref _, h => by simp [Vl.pd] at h
theorem pds_nr : ∀ v : List Vl, pds v = true → nrs v = true
  | [], _ => by simp only [nrs]
  | x :: xs, h => by
    simp only [pds, Bool.and_eq_true] at h
    simp only [nrs, pd_nr x h.1, pds_nr xs h.2, Bool.and_self]
end
theorem log_small {i : Int} (h : i.natAbs < 10 ^ 6) : i.natAbs.log2 < 20 := by
  by_cases z : i.natAbs = 0
  · rw [z]; decide
  · exact (Nat.log2_lt z).mpr (Nat.lt_trans h (by decide))
structure DOk (v : Vl) (d : PyData) : Prop where
  can : d.canLay0 = true
  short : d.intsShort 13 = true
  show_ : d.showable = true
  w : d.weight ≤ v.wt
  dp : d.depth ≤ v.dep
structure DsOk (v : List Vl) (d : List PyData) : Prop where
  can : PyData.canLayAll0 d = true
  short : PyData.intsShortAll 13 d = true
  show_ : PyData.showableAll d = true
  w : PyData.weightAll d ≤ wts v
  dp : PyData.depthAll d ≤ deps v
mutual
theorem pd_data : ∀ v : Vl, v.pd = true → ∃ d, v.toD = some d ∧ DOk v d
  | .non, _ => ⟨.none, by simp only [Vl.toD], by constructor <;> simp [PyData.canLay0, PyData.intsShort, PyData.showable, PyData.weight, PyData.depth]⟩
  | .bl b, _ => ⟨.bool b, by simp only [Vl.toD], by constructor <;> simp [PyData.canLay0, PyData.intsShort, PyData.showable, PyData.weight, PyData.depth]⟩
  | .int i, h => by
    simp only [Vl.pd, decide_eq_true_eq] at h
    have l := log_small h
    refine ⟨.int i, by simp only [Vl.toD], ?_⟩
    constructor
    · simp [PyData.canLay0]
    · have e := int_text_length_le10 (a := i) (k := 6) (by decide) h
      have e2 : (PyData.shown (.int i)).length = (toString i).length := by
        simp only [PyData.shown]
        exact ofString_length _
      simp only [PyData.intsShort, decide_eq_true_eq, e2]; omega
    · simp [PyData.showable]; omega
    · simp only [PyData.weight, Vl.wt]; split <;> omega
    · simp [PyData.depth]
  | .str z, h => by
    simp only [Vl.pd] at h
    refine ⟨.str z, by simp only [Vl.toD], ?_⟩
    constructor
    · simpa [PyData.canLay0] using h
    · simp [PyData.intsShort]
    · simp [PyData.showable]
    · simp only [PyData.weight, Vl.wt]; exact Nat.le_refl _
    · simp [PyData.depth]
  | .tup xs, h => by
    simp only [Vl.pd] at h
    obtain ⟨ds, e, k⟩ := pds_data xs h
    refine ⟨.tuple ds, by simp only [Vl.toD, e, Option.map_some], ?_⟩
    constructor
    · simpa [PyData.canLay0] using k.can
    · simpa [PyData.intsShort] using k.short
    · simpa [PyData.showable] using k.show_
    · simpa [PyData.weight, Vl.wt] using k.w
    · simpa [PyData.depth, Vl.dep] using k.dp
  | .lst xs, h => by
    simp only [Vl.pd] at h
    obtain ⟨ds, e, k⟩ := pds_data xs h
    refine ⟨.list ds, by simp only [Vl.toD, e, Option.map_some], ?_⟩
    constructor
    · simpa [PyData.canLay0] using k.can
    · simpa [PyData.intsShort] using k.short
    · simpa [PyData.showable] using k.show_
    · simpa [PyData.weight, Vl.wt] using k.w
    · simpa [PyData.depth, Vl.dep] using k.dp
  | .dct _ xs, h | .obj _ _ xs, h | .ref _, h => by simp [Vl.pd] at h
theorem pds_data : ∀ v : List Vl, pds v = true → ∃ d, toDs v = some d ∧ DsOk v d
  | [], _ => ⟨[], by simp only [toDs], by constructor <;> simp [PyData.canLayAll0, PyData.intsShortAll, PyData.showableAll, PyData.weightAll, PyData.depthAll]⟩
  | x :: xs, h => by
    simp only [pds, Bool.and_eq_true] at h
    obtain ⟨d, e, k⟩ := pd_data x h.1
    obtain ⟨ds, es, ks⟩ := pds_data xs h.2
    refine ⟨d :: ds, by simp only [toDs, e, es], ?_⟩
    constructor
    · simp only [PyData.canLayAll0, k.can, ks.can, Bool.and_self]
    · simp only [PyData.intsShortAll, k.short, ks.short, Bool.and_self]
    · simp only [PyData.showableAll, k.show_, ks.show_, Bool.and_self]
    · simp only [PyData.weightAll, wts]; have := k.w; have := ks.w; omega
    · simp only [PyData.depthAll, deps]; have := k.dp; have := ks.dp; omega
end
mutual
theorem eqv_self : ∀ d : PyData, d.canLay0 = true → PyData.eqv d d = true
  | .none, _ => by simp [PyData.eqv]
  | .bool _, _ | .int _, _ | .str _, _ => by simp [PyData.eqv]
  | .list xs, h | .tuple xs, h => by simp only [PyData.eqv]; exact eqvAll_self xs (by simpa [PyData.canLay0] using h)
  | .dict _, h => by simp [PyData.canLay0] at h
theorem eqvAll_self : ∀ d : List PyData, PyData.canLayAll0 d = true → PyData.eqvAll d d = true
  | [], _ => by simp [PyData.eqvAll]
  | x :: xs, h => by
    simp only [PyData.canLayAll0, Bool.and_eq_true] at h
    simp only [PyData.eqvAll, eqv_self x h.1, eqvAll_self xs h.2, Bool.and_self]
end
theorem dataOf_pd (S : Hs) {v : Vl} (h : v.pd = true) : ∃ d, dataOf S v = some d ∧ DOk v d := by
  obtain ⟨d, e, k⟩ := pd_data v h
  exact ⟨d, by unfold dataOf; rw [inlS_nr _ _ (pd_nr v h)]; exact e, k⟩
theorem DOk.shaped {v : Vl} {d : PyData} (k : DOk v d) (hd : v.dep ≤ 60) : SeqAt.shaped d = true := by
  unfold SeqAt.shaped
  rw [k.can, Bool.true_and]
  exact decide_eq_true (by have := k.dp; omega)
theorem dataEq_self (S : Hs) {v : Vl} (h : v.pd = true) (hd : v.dep ≤ 60) : dataEq S v v = some true := by
  obtain ⟨d, e, k⟩ := dataOf_pd S h
  unfold dataEq
  rw [e]
  simp only
  rw [if_pos ⟨k.shaped hd, k.shaped hd⟩, eqv_self d k.can]
theorem eqop_self (S : Hs) {v : Vl} (h : v.pd = true) (hd : v.dep ≤ 60) : eqop S v v = some true := by
  unfold eqop
  cases v <;> simp only [eqS, decide_true] <;> exact dataEq_self S h hd
theorem repr_ok (S : Hs) {v : Vl} (h : v.pd = true) (hd : v.dep ≤ 60) (hw : v.wt ≤ 2 ^ 20) : ∃ z, b1op .repr S v = some (.str z) := by
  obtain ⟨d, e, k⟩ := dataOf_pd S h
  refine ⟨d.shown, ?_⟩
  unfold b1op
  simp only [e]
  have hl : d.layable0 = true := by
    unfold PyData.layable0
    rw [k.can]
    simp only [Bool.true_and, Bool.and_eq_true, decide_eq_true_eq]
    have := k.dp; have := k.w
    omega
  rw [if_pos ⟨k.show_, Nat.le_trans (PyProof.Rows.shown_le13 hl k.short) (by decide), k.can, by have := k.dp; omega⟩]
theorem pds_of : ∀ {xs : List Vl}, (∀ x ∈ xs, x.pd = true) → pds xs = true
  | [], _ => by simp only [pds]
  | x :: xs, h => by simp only [pds, h x (List.mem_cons_self ..), pds_of fun y hy => h y (List.mem_cons_of_mem _ hy), Bool.and_self]
theorem deps_of {m : Nat} : ∀ {xs : List Vl}, (∀ x ∈ xs, x.dep ≤ m) → deps xs ≤ m
  | [], _ => by simp only [deps]; omega
  | x :: xs, h => by simp only [deps]; have := h x (List.mem_cons_self ..); have := deps_of fun y hy => h y (List.mem_cons_of_mem _ hy); omega
theorem wts_of {m : Nat} : ∀ {xs : List Vl}, (∀ x ∈ xs, x.wt ≤ m) → wts xs ≤ xs.length * (m + 1)
  | [], _ => by simp [wts]
  | x :: xs, h => by
    simp only [wts, List.length_cons]
    have := h x (List.mem_cons_self ..)
    have := wts_of fun y hy => h y (List.mem_cons_of_mem _ hy)
    rw [Nat.add_mul]
    omega

/-! ### code, statement by statement -/
section
variable {M : Mach} {c : C} {cs a b : Cs} {e : E} {f : F} {t : Tg} {s : Src} {η η1 η2 : Sg} {S S1 S2 : Hs} {x : Vl} {o : Ob} {r : Out} {lk : List Lk} {xs : List Vl}
theorem ex_nx (h : exc1 M c η S = .nx η1 S1) (k : exec M cs η1 S1 = r) : exec M (.cons c cs) η S = r := by simp only [exec, h, k]
theorem ex_ret {v : Rv} (h : exc1 M c η S = .ret v S1) : exec M (.cons c cs) η S = .ret v S1 := by simp only [exec, h]
theorem ex_nil : exec M .nil η S = .nx η S := by simp only [exec]
theorem x_asg (x : Vl) (S1 : Hs) (h : ev M e η S = .ok x S1) (hb : bindT t x η = some η1) : exc1 M (.asg t e) η S = .nx η1 S1 := by simp only [exc1, h, Res.out, hb]
theorem x_ite1 (S1 : Hs) (h : ev M e η S = .ok (.bl true) S1) (k : exec M a η S1 = r) : exc1 M (.ite e a b) η S = r := by simp only [exc1, h, Res.out, k]
theorem x_ite0 (S1 : Hs) (h : ev M e η S = .ok (.bl false) S1) (k : exec M b η S1 = r) : exc1 M (.ite e a b) η S = r := by simp only [exc1, h, Res.out, k]
theorem x_for (lk : List Lk) (xs : List Vl) (S1 : Hs) (h : evS M s η S = .ok (lk, xs) S1) (k : forL (fun η1 S2 => exec M b η1 S2) t lk xs η S1 = r) : exc1 M (.for_ t s b) η S = r := by simp only [exc1, h, Res.out, k]
theorem x_ret (x : Vl) (S1 : Hs) (h : ev M e η S = .ok x S1) : exc1 M (.ret e) η S = .ret (.val x) S1 := by simp only [exc1, h, Res.out]
theorem x_retf (o : Ob) (S1 : Hs) (h : evf M f η S = .ok o S1) : exc1 M (.retf f) η S = .ret (.frs o) S1 := by simp only [exc1, h, Res.out]
theorem x_ex (x : Vl) (S1 : Hs) (h : ev M e η S = .ok x S1) : exc1 M (.ex e) η S = .nx η S1 := by simp only [exc1, h, Res.out]
end
section
variable {M : Mach} {own : List Nat} {elt test : E} {t : Tg} {s : Src} {η : Sg} {S S1 : Hs} {lk : List Lk} {xs : List Vl}
theorem ev_comp (lk : List Lk) (xs : List Vl) (f : Vl → Option Vl) (h : evS M s η S = .ok (lk, xs) S1) (hl : lockd lk S1) (hz : xs.length ≤ 1000000) (hn : ∀ x ∈ xs, ∀ y, f x = some y → y.nr = true)
    (hs : ∀ x ∈ xs, ∀ acc : List Vl, nrs acc = true → ∃ η1 y, bindT t x (wipeG η own) = some η1 ∧ ev M elt η1 (S1 ++ [.lst acc]) = .ok y (S1 ++ [.lst acc]) ∧ f x = some y) : evf M (.comp own elt t s .nil) η S = .ok (.lst (xs.filterMap f)) S1 := by
  simp only [evf, h, Res.bind]
  rw [compL_ok f hl xs [] (by rw [List.length_nil]; omega) (by simp only [nrs]) hn fun x hx acc ha => by
    obtain ⟨η1, y, e1, e2, e3⟩ := hs x hx acc ha
    simp only [e1, evAll, if_true, e2, e3, Res.bind]]
  rw [List.nil_append]
theorem ev_compI (lk : List Lk) (xs : List Vl) (f : Vl → Option Vl) (h : evS M s η S = .ok (lk, xs) S1) (hl : lockd lk S1) (hz : xs.length ≤ 1000000) (hn : ∀ x ∈ xs, ∀ y, f x = some y → y.nr = true)
    (hs : ∀ x ∈ xs, ∀ acc : List Vl, nrs acc = true → ∃ η1, bindT t x (wipeG η own) = some η1 ∧ ((ev M test η1 (S1 ++ [.lst acc]) = .ok (.bl false) (S1 ++ [.lst acc]) ∧ f x = none) ∨ (ev M test η1 (S1 ++ [.lst acc]) = .ok (.bl true) (S1 ++ [.lst acc]) ∧ ∃ y, ev M elt η1 (S1 ++ [.lst acc]) = .ok y (S1 ++ [.lst acc]) ∧ f x = some y))) :
    evf M (.comp own elt t s (.cons test .nil)) η S = .ok (.lst (xs.filterMap f)) S1 := by
  simp only [evf, h, Res.bind]
  rw [compL_ok f hl xs [] (by rw [List.length_nil]; omega) (by simp only [nrs]) hn fun x hx acc ha => by
    obtain ⟨η1, e1, ⟨e2, e3⟩ | ⟨e2, y, e3, e4⟩⟩ := hs x hx acc ha
    · simp only [e1, evAll, e2, e3, Res.bind, Bool.false_eq_true, if_false]
    · simp only [e1, evAll, e2, e3, e4, Res.bind, if_true]]
  rw [List.nil_append]
theorem ev_sq {e : E} {v : Vl} (h : ev M e η S = .ok v S1) (hv : walkS S1 v = some (lk, xs)) : evS M (.sq e) η S = .ok (lk, xs) S1 := by simp only [evS, h, Res.bind, ofO, hv]
theorem ev_chars {e : E} {z : Str} (h : ev M e η S = .ok (.str z) S1) : evS M (.chars e) η S = .ok ([], charsL z) S1 := by simp only [evS, h, Res.bind]
end
/-! ### expressions, one by one -/
section
variable {M : Mach} {a b c e : E} {es : Es} {f : F} {op : Operator} {co p q : CmpOp} {η : Sg} {S S1 S2 S3 : Hs} {x y z v : Vl} {d : Bool} {o : Ob} {xs ys : List Vl} {i : Nat} {g m cl : Str} {lo hi : Oe} {l h : Option Int} {r : Rv} {n : Nat}
theorem v_var (hx : η[i]? = some (some x)) : ev M (.var i) η S = .ok x S := by simp only [ev, hx]
theorem v_cst : ev M (.cst v) η S = .ok v S := by simp only [ev]
theorem v_bin (ha : ev M a η S = .ok x S1) (hb : ev M b η S1 = .ok y S2) (ho : binop op x y = some z) : ev M (.bin op a b) η S = .ok z S2 := by simp only [ev, ha, hb, Res.bind, ofO, ho]
theorem v_cmp (ha : ev M a η S = .ok x S1) (hb : ev M b η S1 = .ok y S2) (ho : cmpop co S2 x y = some d) : ev M (.cmp co a b) η S = .ok (.bl d) S2 := by simp only [ev, ha, hb, Res.bind, ofO, ho]
theorem v_idx (ha : ev M a η S = .ok x S1) (hb : ev M b η S1 = .ok y S2) (ho : idxop S2 x y = some z) : ev M (.idx a b) η S = .ok z S2 := by simp only [ev, ha, hb, Res.bind, ofO, ho]
theorem o_none : evo M .none η S = .ok none S := by simp only [evo]
theorem o_some {j : Int} (ha : ev M a η S = .ok (.int j) S1) : evo M (.some a) η S = .ok (some j) S1 := by simp only [evo, ha, Res.bind]
theorem v_slt (ha : ev M a η S = .ok x S1) (hl : evo M lo η S1 = .ok l S2) (hh : evo M hi η S2 = .ok h S3) (ho : sltop x l h = some z) : ev M (.slt a lo hi) η S = .ok z S3 := by simp only [ev, ha, hl, hh, Res.bind, ofO, ho]
theorem vs_nil : evs M .nil η S = .ok [] S := by simp only [evs]
theorem vs_cons (ha : ev M a η S = .ok x S1) (hs : evs M es η S1 = .ok xs S2) : evs M (.cons a es) η S = .ok (x :: xs) S2 := by simp only [evs, ha, hs, Res.bind]
theorem v_tup (hs : evs M es η S = .ok xs S1) (hz : xs.length ≤ 1000000) : ev M (.tup es) η S = .ok (.tup xs) S1 := by
  have : xs.length ≤ sizeLine := Nat.le_trans hz (by decide)
  simp only [ev, hs, Res.bind, if_pos this]
theorem v_inl (hf : evf M f η S = .ok o S1) : ev M (.inl f) η S = .ok o.inl S1 := by simp only [ev, hf, Res.bind]
theorem v_alc (hf : evf M f η S = .ok o S1) : ev M (.alc f) η S = .ok (.ref S1.length) (S1 ++ [o]) := by simp only [ev, hf, Res.bind]
theorem v_call (hs : evs M es η S = .ok xs S1) (hc : M.cal m xs S1 = .ok r S2) : ev M (.call m es) η S = .ok r.v S2 := by simp only [ev, hs, Res.bind, calV, hc]
theorem v_mcl (ha : ev M a η S = .ok x S1) (hm : hasM S1 x cl m = true) (hs : evs M es η S1 = .ok xs S2) (hc : M.cal (dot cl m) (x :: xs) S2 = .ok r S3) : ev M (.mcl cl m a es) η S = .ok r.v S3 := by simp only [ev, ha, hm, hs, Res.bind, calV, hc, if_true]
theorem v_b1 {u : B1} (ha : ev M a η S = .ok x S1) (ho : b1op u S1 x = some z) : ev M (.b1 u a) η S = .ok z S1 := by simp only [ev, ha, Res.bind, ofO, ho]
theorem v_bnot (ha : ev M a η S = .ok (.bl d) S1) : ev M (.bnot a) η S = .ok (.bl (!d)) S1 := by simp only [ev, ha, Res.bind]
theorem v_ite1 (hc : ev M c η S = .ok (.bl true) S1) (ha : ev M a η S1 = .ok x S2) : ev M (.ite c a b) η S = .ok x S2 := by simp only [ev, hc, Res.bind, ha]
theorem v_ite0 (hc : ev M c η S = .ok (.bl false) S1) (ha : ev M b η S1 = .ok x S2) : ev M (.ite c a b) η S = .ok x S2 := by simp only [ev, hc, Res.bind, ha]
theorem v_and1 (ha : ev M a η S = .ok (.bl true) S1) (hb : ev M b η S1 = .ok x S2) : ev M (.band a b) η S = .ok x S2 := by simp only [ev, ha, hb, Res.bind]
theorem v_and0 (ha : ev M a η S = .ok (.bl false) S1) : ev M (.band a b) η S = .ok (.bl false) S1 := by simp only [ev, ha, Res.bind]
theorem v_or0 (ha : ev M a η S = .ok (.bl false) S1) (hb : ev M b η S1 = .ok x S2) : ev M (.bor a b) η S = .ok x S2 := by simp only [ev, ha, hb, Res.bind]
theorem v_fld {ns : List Str} (ha : ev M a η S = .ok x S1) (hi : insOf S1 x = some (cl, ns, xs)) (ho : lookG ns xs m = some z) : ev M (.fld a m) η S = .ok z S1 := by simp only [ev, ha, Res.bind, ofO, hi, ho]
theorem v_join {s : Str} (ha : ev M a η S = .ok (.str s) S1) (hb : ev M b η S1 = .ok y S2) (ho : tmop .join S2 s y = some z) : ev M (.tm .join a b) η S = .ok z S2 := by simp only [ev, ha, hb, Res.bind, ofO, ho]
theorem v_mut {u : Mm} {k : Nat} (ha : ev M a η S = .ok x S1) (hl : lstAt S1 x = some k) (hs : evs M es η S1 = .ok xs S2) (hk : S2[k]? = some (.lst ys)) {zs : List Vl} (ho : mutop u ys xs = some (v, zs)) : ev M (.mut u a es) η S = .ok v (S2.set k (.lst zs)) := by simp only [ev, ha, hl, hs, Res.bind, hk, ho]
theorem v_isD (ha : ev M a η S = .ok x S1) (ho : dctOf S1 x = none) : ev M (.isD a) η S = .ok (.bl false) S1 := by simp only [ev, ha, Res.bind, ho, Option.isSome_none]
theorem v_olen {k : Nat} (ha : ev M a η S = .ok x S1) (hm : hasM S1 x cl "__len__" = true) (hc : M.cal (dot cl "__len__") [x] S1 = .ok (.val (.int k)) S2) (hk : k ≤ 1000000) : ev M (.olen cl a) η S = .ok (.int k) S2 := by
  simp only [ev, ha, hm, Res.bind, calV, hc, if_true, noX, Rv.v]
  rw [if_pos ⟨by omega, by omega⟩]
theorem v_oeq {ng : Bool} (ha : ev M a η S = .ok x S1) (hb : ev M b η S1 = .ok y S2) (hm : hasM S2 x cl "__eq__" = true) (hy : eqY S2 cl y = true) (hc : M.cal (dot cl "__eq__") [x, y] S2 = .ok (.val (.bl d)) S3) : ev M (.oeq cl ng a b) η S = .ok (.bl (if ng then !d else d)) S3 := by
  simp only [ev, ha, hb, hm, hy, Res.bind, calV, hc, Bool.and_self, if_true, noX, Rv.v]
theorem f_lst (hs : evs M es η S = .ok xs S1) (hz : xs.length ≤ 1000000) : evf M (.lst es) η S = .ok (.lst xs) S1 := by
  have : xs.length ≤ sizeLine := Nat.le_trans hz (by decide)
  simp only [evf, hs, Res.bind, if_pos this]
theorem f_cat (ha : ev M a η S = .ok x S1) (hb : ev M b η S1 = .ok y S2) (hx : lstOf S2 x = some xs) (hy : lstOf S2 y = some ys) (hz : xs.length + ys.length ≤ 1000000) : evf M (.cat a b) η S = .ok (.lst (xs ++ ys)) S2 := by
  have : xs.length + ys.length ≤ sizeLine := Nat.le_trans hz (by decide)
  simp only [evf, ha, hb, Res.bind, hx, hy, if_pos this]
theorem f_slc (ha : ev M a η S = .ok x S1) (hl : evo M lo η S1 = .ok l S2) (hh : evo M hi η S2 = .ok h S3) (hx : lstOf S3 x = some xs) : evf M (.slc a lo hi) η S = .ok (.lst (cutG xs l h)) S3 := by simp only [evf, ha, hl, hh, Res.bind, hx]
theorem f_cpy (ha : ev M a η S = .ok x S1) (hx : seqOf S1 x = some xs) : evf M (.cpy a) η S = .ok (.lst xs) S1 := by simp only [evf, ha, Res.bind, hx]
theorem f_srt (ha : ev M a η S = .ok x S1) (hx : srtop S1 x = some xs) : evf M (.srt a) η S = .ok (.lst xs) S1 := by simp only [evf, ha, Res.bind, hx]
theorem f_sset {ws : List Str} (ha : ev M a η S = .ok x S1) (hx : (lstOf S1 x).bind allS = some ws) (hz : ws.length < 64) : evf M (.sset a) η S = .ok (.lst ((sortStr (dedupS ws)).map .str)) S1 := by simp only [evf, ha, Res.bind, hx, if_pos hz]
theorem f_call (hs : evs M es η S = .ok xs S1) (hc : M.cal m xs S1 = .ok (.frs o) S2) : evf M (.call m es) η S = .ok o S2 := by simp only [evf, hs, Res.bind, hc]
theorem f_mcl (ha : ev M a η S = .ok x S1) (hm : hasM S1 x cl m = true) (hs : evs M es η S1 = .ok xs S2) (hc : M.cal (dot cl m) (x :: xs) S2 = .ok (.frs o) S3) : evf M (.mcl cl m a es) η S = .ok o S3 := by simp only [evf, ha, hm, hs, Res.bind, hc, if_true]
theorem f_rep {k : Nat} {ph : Int} (ha : ev M a η S = .ok x S1) (hb : ev M b η S1 = .ok (.int ph) S2) (hx : lstAt S2 x = some k) (hl : lstOf S2 x = some xs) (h0 : 0 ≤ ph) (h1 : ph ≤ 1000) (hz : xs.length ≤ 1000) : evf M (.rep a b) η S = .ok (.lst (List.replicate ph.toNat xs).flatten) S2 := by
  simp only [evf, ha, hb, Res.bind, hx, hl]
  rw [if_pos ⟨h0, by omega, Nat.le_trans (Nat.mul_le_mul hz (show ph.toNat ≤ 1000 by omega)) (by decide)⟩]
end
/-- a comprehension whose items are not told apart -/
theorem compL_ex {step : Vl → Hs → Res (Option Vl)} {lk : List Lk} {S : Hs} (P : Vl → Prop) (hl : lockd lk S) (hP : ∀ y, P y → y.nr = true) : ∀ (xs acc : List Vl), acc.length + xs.length ≤ 1000000 → nrs acc = true →
    (∀ x ∈ xs, ∀ acc : List Vl, nrs acc = true → ∃ y, P y ∧ step x (S ++ [.lst acc]) = .ok (some y) (S ++ [.lst acc])) → ∃ ys : List Vl, ys.length = xs.length ∧ (∀ y ∈ ys, P y) ∧ compL step lk xs acc S = .ok (acc ++ ys) S
  | [], acc, _, _, _ => ⟨[], rfl, fun y h => by simp at h, by unfold compL; rw [if_pos hl]; simp⟩
  | x :: xs, acc, hz, ha, hs => by
    have hlt : acc.length < sizeLine := by
      have : (1000000 : Nat) < sizeLine := by decide
      rw [List.length_cons] at hz; omega
    obtain ⟨y, py, e⟩ := hs x (List.mem_cons_self ..) acc ha
    rw [List.length_cons] at hz
    obtain ⟨ys, l, p, e2⟩ := compL_ex P hl hP xs (acc ++ [y]) (by simp; omega) (nrs_append ha (by simp only [nrs, hP y py, Bool.and_self])) fun z h => hs z (List.mem_cons_of_mem _ h)
    refine ⟨y :: ys, by simp [l], fun z hz => ?_, ?_⟩
    · rcases List.mem_cons.mp hz with rfl | hz
      · exact py
      · exact p z hz
    · unfold compL
      rw [if_pos hl, e]
      simp only
      rw [if_pos ⟨trivial, hlt⟩, if_pos (nr_lim _ _ (hP y py)), e2]
      simp
theorem ev_compE {M : Mach} {own : List Nat} {elt : E} {t : Tg} {s : Src} {η : Sg} {S S1 : Hs} (lk : List Lk) (xs : List Vl) (P : Vl → Prop) (h : evS M s η S = .ok (lk, xs) S1) (hl : lockd lk S1) (hz : xs.length ≤ 1000000) (hP : ∀ y, P y → y.nr = true)
    (hs : ∀ x ∈ xs, ∀ acc : List Vl, nrs acc = true → ∃ η1 y, P y ∧ bindT t x (wipeG η own) = some η1 ∧ ev M elt η1 (S1 ++ [.lst acc]) = .ok y (S1 ++ [.lst acc])) : ∃ ys : List Vl, ys.length = xs.length ∧ (∀ y ∈ ys, P y) ∧ evf M (.comp own elt t s .nil) η S = .ok (.lst ys) S1 := by
  have key : ∀ F : Vl → Hs → Res (Option Vl), (∀ x ∈ xs, ∀ acc : List Vl, nrs acc = true → ∃ y, P y ∧ F x (S1 ++ [.lst acc]) = .ok (some y) (S1 ++ [.lst acc])) → ∃ ys : List Vl, ys.length = xs.length ∧ (∀ y ∈ ys, P y) ∧ (compL F lk xs [] S1).bind (fun ys S2 => Res.ok (Ob.lst ys) S2) = .ok (.lst ys) S1 := fun F hF => by
    obtain ⟨ys, l, p, e⟩ := compL_ex P hl hP xs [] (by rw [List.length_nil]; omega) (by simp only [nrs]) hF
    exact ⟨ys, l, p, by rw [e, List.nil_append]; rfl⟩
  simp only [evf, h]
  exact key _ fun x hx acc ha => by
    obtain ⟨η1, y, py, e1, e2⟩ := hs x hx acc ha
    exact ⟨y, py, by simp only [e1, evAll, Res.bind, if_true, e2]⟩
end Oz
set_option Elab.async false
set_option linter.all false
set_option maxRecDepth 100000
set_option maxHeartbeats 4000000
namespace K16
open PySem L2 Oz

def N_is_word : List Str := ["text", "least", "most", "sign"]
def q1_is_word : F :=
  (.comp [3] (.cmp .In (.var 3) (.cst (.str "abcdefghijklmnopqrstuvwxyz"))) (.nm 3) (.chars (.var 0)) .nil)
def b_is_word : Cs :=
  (.cons (.ret (.band (.chn .LtE .LtE (.var 1) (.b1 .len (.var 0)) (.var 2)) (.b1 .all (.inl q1_is_word)))) .nil)
def d_is_word : Dfn := ⟨3, 4, b_is_word⟩
def N_is_place : List Str := ["kind", "thing", "many"]
def b_is_place : Cs :=
  (.cons (.ite (.cmp .Eq (.var 0) (.cst (.str "x"))) (.cons (.ret (.call "is_word" (.cons (.var 1) (.cons (.cst (.int 1)) (.cons (.cst (.int 6)) .nil))))) .nil) .nil) (.cons (.ite (.cmp .Eq (.var 0) (.cst (.str "f"))) (.cons (.ret (.cmp .In (.var 1) (.cst (.tup [(.str "l"), (.str "r")])))) .nil) .nil) (.cons (.ret (.chn .LtE .LtE (.cst (.int 0)) (.var 1) (.var 2))) .nil)))
def d_is_place : Dfn := ⟨3, 3, b_is_place⟩
def N_is_row : List Str := ["row", "many", "word", "things", "kind", "thing"]
def q1_is_row : F :=
  (.comp [4, 5] (.call "is_place" (.cons (.var 4) (.cons (.var 5) (.cons (.var 1) .nil)))) (.tp (.cons (.nm 4) (.cons (.nm 5) .nil))) (.zip (.kget "PLACES" (.var 2)) (.var 3)) .nil)
def b_is_row : Cs :=
  (.cons (.ite (.bor (.cmp .Eq (.b1 .len (.var 0)) (.cst (.int 0))) (.kin "PLACES" true (.idx (.var 0) (.cst (.int 0))))) (.cons (.ret (.cst (.bl false))) .nil) .nil) (.cons (.star [2] 3 (.var 0)) (.cons (.ite (.cmp .NotEq (.b1 .len (.var 3)) (.b1 .len (.kget "PLACES" (.var 2)))) (.cons (.ret (.cst (.bl false))) .nil) .nil) (.cons (.ret (.b1 .all (.inl q1_is_row))) .nil))))
def d_is_row : Dfn := ⟨2, 6, b_is_row⟩
def N_names_in : List Str := ["rows", "row", "kind", "thing"]
def q1_names_in : F :=
  (.scomp2 [1, 2, 3] (.var 3) (.nm 1) (.sq (.var 0)) .nil [2, 3] (.tp (.cons (.nm 2) (.cons (.nm 3) .nil))) (.zip (.kget "PLACES" (.idx (.var 1) (.cst (.int 0)))) (.slt (.var 1) (.some (.cst (.int 1))) .none)) (.cons (.cmp .Eq (.var 2) (.cst (.str "x"))) .nil))
def b_names_in : Cs :=
  (.cons (.retf q1_names_in) .nil)
def d_names_in : Dfn := ⟨1, 4, b_names_in⟩
def N_Programu_initu : List Str := ["self", "rows", "lossy", "number", "row"]
def w1_Programu_initu : Cs :=
  (.cons (.ite (.bnot (.call "is_row" (.cons (.var 4) (.cons (.b1 .len (.var 1)) .nil)))) (.cons .bad .nil) .nil) .nil)
def q2_Programu_initu : F :=
  (.comp [4] (.b1 .tuple (.var 4)) (.nm 4) (.sq (.var 1)) .nil)
def b_Programu_initu : Cs :=
  (.cons (.ite (.bnot (.chn .LtE .LtE (.cst (.int 1)) (.b1 .len (.var 1)) (.cst (.int 24)))) (.cons .bad .nil) .nil) (.cons (.for_ (.tp (.cons (.nm 3) (.cons (.nm 4) .nil))) (.enm (.var 1) 0) w1_Programu_initu) (.cons (.ite (.cmp .Gt (.b1 .len (.call "names_in" (.cons (.var 1) .nil))) (.cst (.int 6))) (.cons .bad .nil) .nil) (.cons (.fset (.var 0) "lines" (.inl q2_Programu_initu)) (.cons (.fset (.var 0) "lossy" (.var 2)) .nil)))))
def d_Programu_initu : Dfn := ⟨3, 5, b_Programu_initu⟩
def N_Programu_equ : List Str := ["self", "other"]
def b_Programu_equ : Cs :=
  (.cons (.ret (.band (.isC "Program" (.var 1)) (.band (.cmp .Eq (.fld (.var 0) "lines") (.fld (.var 1) "lines")) (.cmp .Eq (.fld (.var 0) "lossy") (.fld (.var 1) "lossy"))))) .nil)
def d_Programu_equ : Dfn := ⟨2, 2, b_Programu_equ⟩
def N_Programu_lenu : List Str := ["self"]
def b_Programu_lenu : Cs :=
  (.cons (.ret (.b1 .len (.fld (.var 0) "lines"))) .nil)
def d_Programu_lenu : Dfn := ⟨1, 1, b_Programu_lenu⟩
def N_Program_row_rows : List Str := ["self"]
def b_Program_row_rows : Cs :=
  (.cons (.retf (.cpy (.fld (.var 0) "lines"))) .nil)
def d_Program_row_rows : Dfn := ⟨1, 1, b_Program_row_rows⟩
def N_Program_names : List Str := ["self"]
def b_Program_names : Cs :=
  (.cons (.retf (.call "names_in" (.cons (.fld (.var 0) "lines") .nil))) .nil)
def d_Program_names : Dfn := ⟨1, 1, b_Program_names⟩
def N__law_cell : List Str := ["_law_script", "_law_k", "_law_base", "_law_one"]
def w1__law_cell : Cs :=
  (.cons (.asg (.nm 2) (.bin .Mod (.bin .Add (.bin .Mult (.var 2) (.cst (.int 31))) (.var 3)) (.cst (.int 1000003)))) .nil)
def b__law_cell : Cs :=
  (.cons (.ite (.cmp .Lt (.var 1) (.b1 .len (.var 0))) (.cons (.ret (.idx (.var 0) (.var 1))) .nil) .nil) (.cons (.asg (.nm 2) (.cst (.int 17))) (.cons (.for_ (.nm 3) (.sq (.var 0)) w1__law_cell) (.cons (.ret (.bin .Mod (.bin .Mult (.bin .Mult (.bin .Add (.var 2) (.cst (.int 1))) (.bin .Add (.var 1) (.cst (.int 3)))) (.cst (.int 7919))) (.cst (.int 2147483629)))) .nil))))
def d__law_cell : Dfn := ⟨2, 4, b__law_cell⟩
def N__law_digits : List Str := ["_law_script", "_law_k", "_law_sizes", "_law_cell_here", "_law_out", "_law_rest", "_law_size", "_law_one", "_law_j", "_law_two"]
def w1__law_digits : Cs :=
  (.cons (.ex (.mut .append (.var 4) (.cons (.bin .Mod (.var 5) (.var 6)) .nil))) (.cons (.asg (.nm 5) (.bin .FloorDiv (.var 5) (.var 6))) .nil))
def w2__law_digits : Cs :=
  (.cons (.asg (.nm 7) (.bin .Mod (.bin .Add (.bin .Mult (.var 7) (.cst (.int 48271))) (.bin .Mult (.cst (.int 10007)) (.bin .Add (.var 8) (.cst (.int 1))))) (.cst (.int 2147483629)))) (.cons (.asg (.nm 9) (.bin .Mod (.bin .Add (.bin .Add (.bin .Mult (.var 7) (.var 7)) (.bin .Mult (.cst (.int 69621)) (.var 7))) (.var 8)) (.cst (.int 2147483563)))) (.cons (.ex (.mut .append (.var 4) (.cons (.bin .Mod (.bin .FloorDiv (.var 9) (.cst (.int 11))) (.idx (.var 2) (.var 8))) .nil))) .nil)))
def b__law_digits : Cs :=
  (.cons (.asg (.nm 3) (.call "_law_cell" (.cons (.var 0) (.cons (.var 1) .nil)))) (.cons (.asg (.nm 4) (.alc (.lst .nil))) (.cons (.ite (.cmp .GtE (.var 3) (.bin .Pow (.cst (.int 10)) (.cst (.int 18)))) (.cons (.asg (.nm 5) (.bin .Sub (.var 3) (.bin .Pow (.cst (.int 10)) (.cst (.int 18))))) (.cons (.for_ (.nm 6) (.sq (.var 2)) w1__law_digits) (.cons (.ret (.var 4)) .nil))) .nil) (.cons (.asg (.nm 7) (.bin .Mod (.var 3) (.cst (.int 2147483647)))) (.cons (.for_ (.nm 8) (.rng1 (.b1 .len (.var 2))) w2__law_digits) (.cons (.ret (.var 4)) .nil))))))
def d__law_digits : Dfn := ⟨3, 10, b__law_digits⟩
def N__law_same : List Str := ["_law_one", "_law_other"]
def b__law_same : Cs :=
  (.cons (.ite (.isD (.var 1)) (.cons .bad .nil) .nil) (.cons (.ret (.band (.cmp .Eq (.var 0) (.var 1)) (.cmp .Eq (.b1 .repr (.var 0)) (.b1 .repr (.var 1))))) .nil))
def d__law_same : Dfn := ⟨2, 2, b__law_same⟩
def N__law_names : List Str := ["_law_script", "_law_k", "_law_many", "_law_found", "_law_letters", "_law_j", "_law_one", "_law_two", "_law_size", "_law_place", "_law_rest", "_law_i", "_law_sort_of", "_law_name", "_law_tries", "_law_tail", "_law_one_more"]
def q1__law_names : F :=
  (.comp [11] (.idx (.var 4) (.bin .Mod (.bin .Add (.bin .Add (.var 6) (.bin .Mult (.var 11) (.var 7))) (.bin .Mult (.cst (.int 3)) (.var 5))) (.cst (.int 26)))) (.nm 11) (.rng1 (.var 8)) .nil)
def q2__law_names : F :=
  (.comp [15] (.bin .Add (.bin .Add (.cst (.str "z")) (.idx (.var 4) (.var 5))) (.var 15)) (.nm 15) (.chars (.cst (.str "ijklmnopqrst"))) .nil)
def q3__law_names : F :=
  (.comp [16] (.var 16) (.nm 16) (.sq (.var 14)) (.cons (.cmp .NotIn (.var 16) (.var 3)) .nil))
def w4__law_names : Cs :=
  (.cons (.asg (.tp (.cons (.nm 6) (.cons (.nm 7) (.cons (.nm 8) (.cons (.nm 9) .nil))))) (.call "_law_digits" (.cons (.var 0) (.cons (.bin .Add (.var 1) (.bin .Mod (.var 5) (.cst (.int 2)))) (.cons (.inl (.lst (.cons (.cst (.int 26)) (.cons (.cst (.int 26)) (.cons (.cst (.int 6)) (.cons (.cst (.int 5)) .nil)))))) .nil))))) (.cons (.asg (.nm 10) (.tm .join (.cst (.str "")) (.inl q1__law_names))) (.cons (.asg (.nm 12) (.idx (.var 4) (.bin .Mod (.bin .Add (.bin .Add (.var 6) (.bin .Mult (.cst (.int 7)) (.var 5))) (.cst (.int 11))) (.cst (.int 26))))) (.cons (.asg (.nm 13) (.bin .Add (.bin .Add (.slt (.var 10) .none (.some (.var 9))) (.var 12)) (.slt (.var 10) (.some (.var 9)) .none))) (.cons (.ite (.cmp .In (.var 13) (.var 3)) (.cons (.asg (.nm 14) (.inl q2__law_names)) (.cons (.asg (.nm 13) (.idx (.inl q3__law_names) (.cst (.int 0)))) .nil)) .nil) (.cons (.ex (.mut .append (.var 3) (.cons (.var 13) .nil))) .nil))))))
def b__law_names : Cs :=
  (.cons (.asg (.tp (.cons (.nm 3) (.cons (.nm 4) .nil))) (.tup (.cons (.alc (.lst .nil)) (.cons (.cst (.str "abcdefghijklmnopqrstuvwxyz")) .nil)))) (.cons (.for_ (.nm 5) (.rng1 (.var 2)) w4__law_names) (.cons (.ret (.var 3)) .nil)))
def d__law_names : Dfn := ⟨3, 17, b__law_names⟩
def N__law_kinds : List Str := []
def b__law_kinds : Cs :=
  (.cons (.retf (.dsp ["new", "free", "copy", "nil", "read", "write", "clear", "same", "none", "maybe", "go"] (.cons (.cst (.str "x")) (.cons (.cst (.str "x")) (.cons (.cst (.str "xx")) (.cons (.cst (.str "x")) (.cons (.cst (.str "xxf")) (.cons (.cst (.str "xfx")) (.cons (.cst (.str "xf")) (.cons (.cst (.str "xxk")) (.cons (.cst (.str "xk")) (.cons (.cst (.str "k")) (.cons (.cst (.str "k")) .nil))))))))))))) .nil)
def d__law_kinds : Dfn := ⟨0, 0, b__law_kinds⟩
def N__law_row : List Str := ["_law_script", "_law_k", "_law_names_here", "_law_many", "_law_word", "_law_one", "_law_two", "_law_field", "_law_jump", "_law_words", "_law_things", "_law_row_here", "_law_sort"]
def w1__law_row : Cs :=
  (.cons (.ite (.cmp .Eq (.var 12) (.cst (.str "x"))) (.cons (.asg (.nm 11) (.bin .Add (.var 11) (.tup (.cons (.mut .popAt (.var 10) (.cons (.cst (.int 0)) .nil)) .nil)))) .nil) (.cons (.asg (.nm 11) (.bin .Add (.var 11) (.tup (.cons (.ite (.cmp .Eq (.var 12) (.cst (.str "f"))) (.idx (.inl (.lst (.cons (.cst (.str "l")) (.cons (.cst (.str "r")) .nil)))) (.var 7)) (.bin .Mod (.var 8) (.bin .Add (.var 3) (.cst (.int 1))))) .nil)))) .nil)) .nil)
def b__law_row : Cs :=
  (.cons (.asg (.tp (.cons (.nm 4) (.cons (.nm 5) (.cons (.nm 6) (.cons (.nm 7) (.cons (.nm 8) .nil)))))) (.call "_law_digits" (.cons (.var 0) (.cons (.var 1) (.cons (.inl (.lst (.cons (.cst (.int 15)) (.cons (.cst (.int 97)) (.cons (.cst (.int 89)) (.cons (.cst (.int 2)) (.cons (.cst (.int 83)) .nil))))))) .nil))))) (.cons (.asg (.nm 9) (.inl (.lst (.cons (.cst (.str "new")) (.cons (.cst (.str "free")) (.cons (.cst (.str "copy")) (.cons (.cst (.str "nil")) (.cons (.cst (.str "read")) (.cons (.cst (.str "write")) (.cons (.cst (.str "clear")) (.cons (.cst (.str "same")) (.cons (.cst (.str "none")) (.cons (.cst (.str "maybe")) (.cons (.cst (.str "go")) .nil)))))))))))))) (.cons (.asg (.nm 4) (.idx (.inl (.cat (.var 9) (.inl (.lst (.cons (.cst (.str "read")) (.cons (.cst (.str "write")) (.cons (.cst (.str "none")) (.cons (.cst (.str "new")) .nil)))))))) (.var 4))) (.cons (.asg (.nm 10) (.alc (.lst (.cons (.idx (.var 2) (.bin .Mod (.var 5) (.b1 .len (.var 2)))) (.cons (.idx (.var 2) (.bin .Mod (.var 6) (.b1 .len (.var 2)))) .nil))))) (.cons (.asg (.nm 11) (.tup (.cons (.var 4) .nil))) (.cons (.for_ (.nm 12) (.chars (.idx (.call "_law_kinds" .nil) (.var 4))) w1__law_row) (.cons (.ret (.var 11)) .nil)))))))
def d__law_row : Dfn := ⟨4, 13, b__law_row⟩
def N__law_lines : List Str := ["_law_script", "_law_k", "_law_most", "_law_many", "_law_turning", "_law_names_here", "_law_j"]
def q1__law_lines : F :=
  (.comp [6] (.call "_law_row" (.cons (.var 0) (.cons (.bin .Add (.bin .Add (.var 1) (.cst (.int 2))) (.var 6)) (.cons (.var 5) (.cons (.bin .Add (.cst (.int 1)) (.var 3)) .nil))))) (.nm 6) (.rng1 (.bin .Add (.cst (.int 1)) (.var 3))) .nil)
def b__law_lines : Cs :=
  (.cons (.asg (.tp (.cons (.nm 3) (.cons (.nm 4) .nil))) (.call "_law_digits" (.cons (.var 0) (.cons (.var 1) (.cons (.inl (.lst (.cons (.var 2) (.cons (.cst (.int 3)) .nil)))) .nil))))) (.cons (.asg (.nm 5) (.call "_law_names" (.cons (.var 0) (.cons (.bin .Add (.var 1) (.cst (.int 1))) (.cons (.bin .Add (.cst (.int 1)) (.var 4)) .nil))))) (.cons (.retf q1__law_lines) .nil)))
def d__law_lines : Dfn := ⟨3, 7, b__law_lines⟩
def N_law : List Str := ["_law_script", "_law_k", "_law_lines_here", "_law_loose", "_law_at", "_law_handed", "_law_program", "_law_names_here", "_law_row_here", "_law_sort", "_law_thing", "_law_turn", "_law_some", "_law_wide", "_law_name", "_law_other"]
def q1_law : F :=
  (.comp [9, 10] (.var 10) (.tp (.cons (.nm 9) (.cons (.nm 10) .nil))) (.zip (.idx (.call "_law_kinds" .nil) (.idx (.var 8) (.cst (.int 0)))) (.slt (.var 8) (.some (.cst (.int 1))) .none)) (.cons (.cmp .Eq (.var 9) (.cst (.str "x"))) .nil))
def w2_law : Cs :=
  (.cons (.asg (.nm 7) (.inl (.cat (.var 7) (.inl q1_law)))) .nil)
def w3_law : Cs :=
  (.cons (.ite (.bnot (.call "_law_same" (.cons (.inl (.lst (.cons (.mcl "Program" "row_rows" (.var 6) .nil) (.cons (.mcl "Program" "names" (.var 6) .nil) .nil)))) (.cons (.inl (.lst (.cons (.var 2) (.cons (.inl (.sset (.var 7))) .nil)))) .nil)))) (.cons (.ret (.cst (.bl false))) .nil) .nil) (.cons (.ex (.mut .append (.alc (.mcl "Program" "row_rows" (.var 6) .nil)) (.cons (.tup (.cons (.cst (.str "go")) (.cons (.cst (.int 0)) .nil))) .nil))) (.cons (.ex (.mut .append (.alc (.mcl "Program" "names" (.var 6) .nil)) (.cons (.cst (.str "zz")) .nil))) .nil)))
def q4_law : F :=
  (.comp [14] (.tup (.cons (.cst (.str "nil")) (.cons (.var 14) .nil))) (.nm 14) (.sq (.var 12)) .nil)
def w5_law : Cs :=
  (.cons (.asg (.nm 2) (.call "_law_lines" (.cons (.var 0) (.cons (.bin .Mult (.cst (.int 20)) (.var 1)) (.cons (.idx (.inl (.lst (.cons (.cst (.int 24)) (.cons (.cst (.int 6)) (.cons (.cst (.int 12)) .nil))))) (.var 1)) .nil))))) (.cons (.asg (.tp (.cons (.nm 3) (.cons (.nm 4) .nil))) (.call "_law_digits" (.cons (.var 0) (.cons (.bin .Add (.bin .Mult (.cst (.int 20)) (.var 1)) (.cst (.int 19))) (.cons (.inl (.lst (.cons (.cst (.int 3)) (.cons (.cst (.int 97)) .nil)))) .nil))))) (.cons (.asg (.nm 5) (.alc (.cpy (.var 2)))) (.cons (.asg (.nm 6) (.ite (.cmp .Eq (.var 3) (.cst (.int 2))) (.alc (.new "Program" (.cons (.var 5) (.cons (.cst (.bl false)) .nil)))) (.alc (.new "Program" (.cons (.var 5) (.cons (.cmp .Eq (.var 3) (.cst (.int 1))) .nil)))))) (.cons (.ex (.mut .clear (.var 5) .nil)) (.cons (.asg (.nm 7) (.inl (.lst .nil))) (.cons (.for_ (.nm 8) (.sq (.var 2)) w2_law) (.cons (.for_ (.nm 11) (.rng1 (.cst (.int 2))) w3_law) (.cons (.ite (.bor (.bnot (.call "_law_same" (.cons (.inl (.lst (.cons (.olen "Program" (.var 6)) (.cons (.fld (.var 6) "lossy") .nil)))) (.cons (.inl (.lst (.cons (.b1 .len (.var 2)) (.cons (.cmp .Eq (.var 3) (.cst (.int 1))) .nil)))) .nil)))) (.oeq "Program" false (.var 6) (.var 2))) (.cons (.ret (.cst (.bl false))) .nil) .nil) (.cons (.asg (.nm 12) (.call "_law_names" (.cons (.var 0) (.cons (.bin .Add (.bin .Mult (.cst (.int 20)) (.var 1)) (.cst (.int 17))) (.cons (.cst (.int 6)) .nil))))) (.cons (.asg (.nm 13) (.alc (.new "Program" (.cons (.inl (.cat (.inl q4_law) (.inl (.lst (.cons (.tup (.cons (.cst (.str "copy")) (.cons (.idx (.var 12) (.bin .Mod (.var 4) (.cst (.int 6)))) (.cons (.idx (.var 12) (.cst (.int 0))) .nil)))) (.cons (.tup (.cons (.cst (.str "go")) (.cons (.cst (.int 8)) .nil))) .nil)))))) (.cons (.cst (.bl false)) .nil))))) (.cons (.ite (.bnot (.call "_law_same" (.cons (.inl (.lst (.cons (.mcl "Program" "names" (.var 13) .nil) (.cons (.mcl "Program" "names" (.var 13) .nil) .nil)))) (.cons (.inl (.rep (.alc (.lst (.cons (.inl (.srt (.var 12))) .nil))) (.cst (.int 2)))) .nil)))) (.cons (.ret (.cst (.bl false))) .nil) .nil) (.cons (.asg (.nm 4) (.bin .Mod (.var 4) (.b1 .len (.var 2)))) (.cons (.asg (.nm 15) (.inl (.cat (.inl (.cat (.inl (.slc (.var 2) .none (.some (.var 4)))) (.inl (.lst (.cons (.ite (.cmp .NotEq (.idx (.var 2) (.var 4)) (.tup (.cons (.cst (.str "go")) (.cons (.var 4) .nil)))) (.tup (.cons (.cst (.str "go")) (.cons (.var 4) .nil))) (.tup (.cons (.cst (.str "nil")) (.cons (.cst (.str "zz")) .nil)))) .nil))))) (.inl (.slc (.var 2) (.some (.bin .Add (.var 4) (.cst (.int 1)))) .none))))) (.cons (.ite (.bor (.oeq "Program" false (.var 6) (.inl (.new "Program" (.cons (.var 15) (.cons (.cmp .Eq (.var 3) (.cst (.int 1))) .nil))))) (.oeq "Program" false (.var 6) (.inl (.new "Program" (.cons (.var 2) (.cons (.cmp .NotEq (.var 3) (.cst (.int 1))) .nil)))))) (.cons (.ret (.cst (.bl false))) .nil) .nil) (.cons (.ite (.bor (.bnot (.oeq "Program" false (.var 6) (.inl (.new "Program" (.cons (.var 2) (.cons (.cmp .Eq (.var 3) (.cst (.int 1))) .nil)))))) (.oeq "Program" true (.var 6) (.inl (.new "Program" (.cons (.inl (.cpy (.var 2))) (.cons (.cmp .Eq (.var 3) (.cst (.int 1))) .nil)))))) (.cons (.ret (.cst (.bl false))) .nil) .nil) .nil))))))))))))))))
def b_law : Cs :=
  (.cons (.for_ (.nm 1) (.rng1 (.cst (.int 3))) w5_law) (.cons (.ret (.cst (.bl true))) .nil))
def d_law : Dfn := ⟨1, 16, b_law⟩
def dfn (q : Str) : Option Dfn := if q = ("is_word" : Str) then some d_is_word else if q = ("is_place" : Str) then some d_is_place else if q = ("is_row" : Str) then some d_is_row else if q = ("names_in" : Str) then some d_names_in else if q = (dot "Program" "__init__" : Str) then some d_Programu_initu else if q = (dot "Program" "__eq__" : Str) then some d_Programu_equ else if q = (dot "Program" "__len__" : Str) then some d_Programu_lenu else if q = (dot "Program" "row_rows" : Str) then some d_Program_row_rows else if q = (dot "Program" "names" : Str) then some d_Program_names else if q = ("_law_cell" : Str) then some d__law_cell else if q = ("_law_digits" : Str) then some d__law_digits else if q = ("_law_same" : Str) then some d__law_same else if q = ("_law_names" : Str) then some d__law_names else if q = ("_law_kinds" : Str) then some d__law_kinds else if q = ("_law_row" : Str) then some d__law_row else if q = ("_law_lines" : Str) then some d__law_lines else if q = ("law" : Str) then some d_law else none
def kv_PLACES : List (Str × Vl) := [("new", (.str "x")), ("free", (.str "x")), ("copy", (.str "xx")), ("nil", (.str "x")), ("read", (.str "xxf")), ("write", (.str "xfx")), ("clear", (.str "xf")), ("same", (.str "xxk")), ("none", (.str "xk")), ("maybe", (.str "k")), ("go", (.str "k"))]
def kdf (q : Str) : Option (List (Str × Vl)) := if q = ("PLACES" : Str) then some kv_PLACES else none
noncomputable abbrev Mn (n : Nat) : Mach := mach kdf dfn 0 n
theorem kd_PLACES (n : Nat) : (Mn n).kd ("PLACES" : Str) = some kv_PLACES := by rw [mach_kd]; unfold kdf; rfl
theorem f_is_word : dfn ("is_word" : Str) = some d_is_word := by rfl
theorem u_is_word (n : Nat) (xs : List Vl) (S : Hs) : (Mn (n + 1)).cal ("is_word" : Str) xs S = calD (Mn n) d_is_word xs S := mach_cal f_is_word xs S
theorem f_is_place : dfn ("is_place" : Str) = some d_is_place := by rfl
theorem u_is_place (n : Nat) (xs : List Vl) (S : Hs) : (Mn (n + 1)).cal ("is_place" : Str) xs S = calD (Mn n) d_is_place xs S := mach_cal f_is_place xs S
theorem f_is_row : dfn ("is_row" : Str) = some d_is_row := by rfl
theorem u_is_row (n : Nat) (xs : List Vl) (S : Hs) : (Mn (n + 1)).cal ("is_row" : Str) xs S = calD (Mn n) d_is_row xs S := mach_cal f_is_row xs S
theorem f_names_in : dfn ("names_in" : Str) = some d_names_in := by rfl
theorem u_names_in (n : Nat) (xs : List Vl) (S : Hs) : (Mn (n + 1)).cal ("names_in" : Str) xs S = calD (Mn n) d_names_in xs S := mach_cal f_names_in xs S
theorem f_Programu_initu : dfn (dot "Program" "__init__" : Str) = some d_Programu_initu := by rfl
theorem u_Programu_initu (n : Nat) (xs : List Vl) (S : Hs) : (Mn (n + 1)).cal (dot "Program" "__init__" : Str) xs S = calD (Mn n) d_Programu_initu xs S := mach_cal f_Programu_initu xs S
theorem f_Programu_equ : dfn (dot "Program" "__eq__" : Str) = some d_Programu_equ := by rfl
theorem u_Programu_equ (n : Nat) (xs : List Vl) (S : Hs) : (Mn (n + 1)).cal (dot "Program" "__eq__" : Str) xs S = calD (Mn n) d_Programu_equ xs S := mach_cal f_Programu_equ xs S
theorem f_Programu_lenu : dfn (dot "Program" "__len__" : Str) = some d_Programu_lenu := by rfl
theorem u_Programu_lenu (n : Nat) (xs : List Vl) (S : Hs) : (Mn (n + 1)).cal (dot "Program" "__len__" : Str) xs S = calD (Mn n) d_Programu_lenu xs S := mach_cal f_Programu_lenu xs S
theorem f_Program_row_rows : dfn (dot "Program" "row_rows" : Str) = some d_Program_row_rows := by rfl
theorem u_Program_row_rows (n : Nat) (xs : List Vl) (S : Hs) : (Mn (n + 1)).cal (dot "Program" "row_rows" : Str) xs S = calD (Mn n) d_Program_row_rows xs S := mach_cal f_Program_row_rows xs S
theorem f_Program_names : dfn (dot "Program" "names" : Str) = some d_Program_names := by rfl
theorem u_Program_names (n : Nat) (xs : List Vl) (S : Hs) : (Mn (n + 1)).cal (dot "Program" "names" : Str) xs S = calD (Mn n) d_Program_names xs S := mach_cal f_Program_names xs S
theorem f__law_cell : dfn ("_law_cell" : Str) = some d__law_cell := by rfl
theorem u__law_cell (n : Nat) (xs : List Vl) (S : Hs) : (Mn (n + 1)).cal ("_law_cell" : Str) xs S = calD (Mn n) d__law_cell xs S := mach_cal f__law_cell xs S
theorem f__law_digits : dfn ("_law_digits" : Str) = some d__law_digits := by rfl
theorem u__law_digits (n : Nat) (xs : List Vl) (S : Hs) : (Mn (n + 1)).cal ("_law_digits" : Str) xs S = calD (Mn n) d__law_digits xs S := mach_cal f__law_digits xs S
theorem f__law_same : dfn ("_law_same" : Str) = some d__law_same := by rfl
theorem u__law_same (n : Nat) (xs : List Vl) (S : Hs) : (Mn (n + 1)).cal ("_law_same" : Str) xs S = calD (Mn n) d__law_same xs S := mach_cal f__law_same xs S
theorem f__law_names : dfn ("_law_names" : Str) = some d__law_names := by rfl
theorem u__law_names (n : Nat) (xs : List Vl) (S : Hs) : (Mn (n + 1)).cal ("_law_names" : Str) xs S = calD (Mn n) d__law_names xs S := mach_cal f__law_names xs S
theorem f__law_kinds : dfn ("_law_kinds" : Str) = some d__law_kinds := by rfl
theorem u__law_kinds (n : Nat) (xs : List Vl) (S : Hs) : (Mn (n + 1)).cal ("_law_kinds" : Str) xs S = calD (Mn n) d__law_kinds xs S := mach_cal f__law_kinds xs S
theorem f__law_row : dfn ("_law_row" : Str) = some d__law_row := by rfl
theorem u__law_row (n : Nat) (xs : List Vl) (S : Hs) : (Mn (n + 1)).cal ("_law_row" : Str) xs S = calD (Mn n) d__law_row xs S := mach_cal f__law_row xs S
theorem f__law_lines : dfn ("_law_lines" : Str) = some d__law_lines := by rfl
theorem u__law_lines (n : Nat) (xs : List Vl) (S : Hs) : (Mn (n + 1)).cal ("_law_lines" : Str) xs S = calD (Mn n) d__law_lines xs S := mach_cal f__law_lines xs S
theorem f_law : dfn ("law" : Str) = some d_law := by rfl
theorem u_law (n : Nat) (xs : List Vl) (S : Hs) : (Mn (n + 1)).cal ("law" : Str) xs S = calD (Mn n) d_law xs S := mach_cal f_law xs S
end K16
set_option Elab.async false
set_option linter.all false
set_option maxRecDepth 100000
set_option maxHeartbeats 8000000
namespace K16
open PySem L2 Oz PyProof.Rows
def topS (i : Nat) : Stmt := PySem.Challenge.pw_osier_k16_programs_told.main.body.getD i (.Pass ⟨0, 0, 0, 0⟩)
abbrev s_is_word : Stmt := topS 6
theorem sc_is_word : FnScope N_is_word ["text", "least", "most"] (defScope s_is_word) := ⟨rfl, rfl, rfl, by decide +kernel, rfl, by decide +kernel, by decide +kernel⟩
abbrev s_is_place : Stmt := topS 11
theorem sc_is_place : FnScope N_is_place ["kind", "thing", "many"] (defScope s_is_place) := ⟨rfl, rfl, rfl, by decide +kernel, rfl, by decide +kernel, by decide +kernel⟩
abbrev s_is_row : Stmt := topS 12
theorem sc_is_row : FnScope N_is_row ["row", "many"] (defScope s_is_row) := ⟨rfl, rfl, rfl, by decide +kernel, rfl, by decide +kernel, by decide +kernel⟩
abbrev s_names_in : Stmt := topS 13
theorem sc_names_in : FnScope N_names_in ["rows"] (defScope s_names_in) := ⟨rfl, rfl, rfl, by decide +kernel, rfl, by decide +kernel, by decide +kernel⟩
abbrev s_Programu_initu : Stmt := inClass (topS 14) 0
theorem sc_Programu_initu : FnScope N_Programu_initu ["self", "rows", "lossy"] (defScope s_Programu_initu) := ⟨rfl, rfl, rfl, by decide +kernel, rfl, by decide +kernel, by decide +kernel⟩
abbrev s_Programu_equ : Stmt := inClass (topS 14) 1
theorem sc_Programu_equ : FnScope N_Programu_equ ["self", "other"] (defScope s_Programu_equ) := ⟨rfl, rfl, rfl, by decide +kernel, rfl, by decide +kernel, by decide +kernel⟩
abbrev s_Programu_lenu : Stmt := inClass (topS 14) 2
theorem sc_Programu_lenu : FnScope N_Programu_lenu ["self"] (defScope s_Programu_lenu) := ⟨rfl, rfl, rfl, by decide +kernel, rfl, by decide +kernel, by decide +kernel⟩
abbrev s_Program_row_rows : Stmt := inClass (topS 14) 3
theorem sc_Program_row_rows : FnScope N_Program_row_rows ["self"] (defScope s_Program_row_rows) := ⟨rfl, rfl, rfl, by decide +kernel, rfl, by decide +kernel, by decide +kernel⟩
abbrev s_Program_names : Stmt := inClass (topS 14) 4
theorem sc_Program_names : FnScope N_Program_names ["self"] (defScope s_Program_names) := ⟨rfl, rfl, rfl, by decide +kernel, rfl, by decide +kernel, by decide +kernel⟩
abbrev s__law_cell : Stmt := topS 16
theorem sc__law_cell : FnScope N__law_cell ["_law_script", "_law_k"] (defScope s__law_cell) := ⟨rfl, rfl, rfl, by decide +kernel, rfl, by decide +kernel, by decide +kernel⟩
abbrev s__law_digits : Stmt := topS 17
theorem sc__law_digits : FnScope N__law_digits ["_law_script", "_law_k", "_law_sizes"] (defScope s__law_digits) := ⟨rfl, rfl, rfl, by decide +kernel, rfl, by decide +kernel, by decide +kernel⟩
abbrev s__law_same : Stmt := topS 18
theorem sc__law_same : FnScope N__law_same ["_law_one", "_law_other"] (defScope s__law_same) := ⟨rfl, rfl, rfl, by decide +kernel, rfl, by decide +kernel, by decide +kernel⟩
abbrev s__law_names : Stmt := topS 19
theorem sc__law_names : FnScope N__law_names ["_law_script", "_law_k", "_law_many"] (defScope s__law_names) := ⟨rfl, rfl, rfl, by decide +kernel, rfl, by decide +kernel, by decide +kernel⟩
abbrev s__law_kinds : Stmt := topS 20
theorem sc__law_kinds : FnScope N__law_kinds [] (defScope s__law_kinds) := ⟨rfl, rfl, rfl, by decide +kernel, rfl, by decide +kernel, by decide +kernel⟩
abbrev s__law_row : Stmt := topS 21
theorem sc__law_row : FnScope N__law_row ["_law_script", "_law_k", "_law_names_here", "_law_many"] (defScope s__law_row) := ⟨rfl, rfl, rfl, by decide +kernel, rfl, by decide +kernel, by decide +kernel⟩
abbrev s__law_lines : Stmt := topS 22
theorem sc__law_lines : FnScope N__law_lines ["_law_script", "_law_k", "_law_most"] (defScope s__law_lines) := ⟨rfl, rfl, rfl, by decide +kernel, rfl, by decide +kernel, by decide +kernel⟩
abbrev s_law : Stmt := topS 23
theorem sc_law : FnScope N_law ["_law_script"] (defScope s_law) := ⟨rfl, rfl, rfl, by decide +kernel, rfl, by decide +kernel, by decide +kernel⟩
structure Fx (w : World) (mg : Str → Option Value) (G : Glb) where
  b_len : mg "len" = none
  b_all : mg "all" = none
  b_tuple : mg "tuple" = none
  b_repr : mg "repr" = none
  b_isinstance : mg "isinstance" = none
  b_dict : mg "dict" = none
  b_list : mg "list" = none
  b_sorted : mg "sorted" = none
  b_set : mg "set" = none
  b_range : mg "range" = none
  b_zip : mg "zip" = none
  b_enumerate : mg "enumerate" = none
  v_FIELDS : V
  u_FIELDS : Value
  m_FIELDS : mg "FIELDS" = some u_FIELDS
  r_FIELDS : RelV v_FIELDS u_FIELDS
  z_FIELDS : ∀ ρ H, VR G ρ H (.tup [(.str "l"), (.str "r")]) v_FIELDS
  v_LETTERS : V
  u_LETTERS : Value
  m_LETTERS : mg "LETTERS" = some u_LETTERS
  r_LETTERS : RelV v_LETTERS u_LETTERS
  z_LETTERS : ∀ ρ H, VR G ρ H (.str "abcdefghijklmnopqrstuvwxyz") v_LETTERS
  v_MOST_NAMES : V
  u_MOST_NAMES : Value
  m_MOST_NAMES : mg "MOST_NAMES" = some u_MOST_NAMES
  r_MOST_NAMES : RelV v_MOST_NAMES u_MOST_NAMES
  z_MOST_NAMES : ∀ ρ H, VR G ρ H (.int 6) v_MOST_NAMES
  v_MOST_ROWS : V
  u_MOST_ROWS : Value
  m_MOST_ROWS : mg "MOST_ROWS" = some u_MOST_ROWS
  r_MOST_ROWS : RelV v_MOST_ROWS u_MOST_ROWS
  z_MOST_ROWS : ∀ ρ H, VR G ρ H (.int 24) v_MOST_ROWS
  k_PLACES : ∀ n, Kd w G.K mg G (Mn n) "PLACES"
  hA : ∀ c, ClsAll G.K (G.cl c)
  n_lines : ∀ c, NoAttr G.K (G.cl c) "lines"
  n_lossy : ∀ c, NoAttr G.K (G.cl c) "lossy"
  i_dict : IsT G.K (.type "dict") true
  nd : ∀ c, PySem.W.kitOne G.K (.ref (G.cl c)) (.type "dict") = some false
  i_Program : IsT G.K (.ref (G.cl "Program")) false
  own_Program : PySem.W.kitOne G.K (.ref (G.cl "Program")) (.ref (G.cl "Program")) = some true
  m_Program : mg "Program" = some (.ref (G.cl "Program"))
  f_is_word : Addr
  fd_is_word : FuncData
  F_is_word : FunD G.K "is_word" "is_word" (defArgs s_is_word) (defBody s_is_word) (defScope s_is_word) [] [] f_is_word fd_is_word
  m_is_word : mg "is_word" = some (.ref f_is_word)
  f_is_place : Addr
  fd_is_place : FuncData
  F_is_place : FunD G.K "is_place" "is_place" (defArgs s_is_place) (defBody s_is_place) (defScope s_is_place) [] [] f_is_place fd_is_place
  m_is_place : mg "is_place" = some (.ref f_is_place)
  f_is_row : Addr
  fd_is_row : FuncData
  F_is_row : FunD G.K "is_row" "is_row" (defArgs s_is_row) (defBody s_is_row) (defScope s_is_row) [] [] f_is_row fd_is_row
  m_is_row : mg "is_row" = some (.ref f_is_row)
  f_names_in : Addr
  fd_names_in : FuncData
  F_names_in : FunD G.K "names_in" "names_in" (defArgs s_names_in) (defBody s_names_in) (defScope s_names_in) [] [] f_names_in fd_names_in
  m_names_in : mg "names_in" = some (.ref f_names_in)
  f_Programu_initu : Addr
  fd_Programu_initu : FuncData
  F_Programu_initu : FunD G.K "__init__" "Program.__init__" (defArgs s_Programu_initu) (defBody s_Programu_initu) (defScope s_Programu_initu) [] [("lossy", (.bl false))] f_Programu_initu fd_Programu_initu
  a_Programu_initu : PySem.W.findIn G.K (.ref (G.cl "Program")) "__init__" = some (some (.ref f_Programu_initu))
  g_Programu_initu : PySem.W.isFn G.K (.ref f_Programu_initu) = true
  f_Programu_equ : Addr
  fd_Programu_equ : FuncData
  F_Programu_equ : FunD G.K "__eq__" "Program.__eq__" (defArgs s_Programu_equ) (defBody s_Programu_equ) (defScope s_Programu_equ) [] [] f_Programu_equ fd_Programu_equ
  a_Programu_equ : PySem.W.findIn G.K (.ref (G.cl "Program")) "__eq__" = some (some (.ref f_Programu_equ))
  g_Programu_equ : PySem.W.isFn G.K (.ref f_Programu_equ) = true
  f_Programu_lenu : Addr
  fd_Programu_lenu : FuncData
  F_Programu_lenu : FunD G.K "__len__" "Program.__len__" (defArgs s_Programu_lenu) (defBody s_Programu_lenu) (defScope s_Programu_lenu) [] [] f_Programu_lenu fd_Programu_lenu
  a_Programu_lenu : PySem.W.findIn G.K (.ref (G.cl "Program")) "__len__" = some (some (.ref f_Programu_lenu))
  g_Programu_lenu : PySem.W.isFn G.K (.ref f_Programu_lenu) = true
  f_Program_row_rows : Addr
  fd_Program_row_rows : FuncData
  F_Program_row_rows : FunD G.K "row_rows" "Program.row_rows" (defArgs s_Program_row_rows) (defBody s_Program_row_rows) (defScope s_Program_row_rows) [] [] f_Program_row_rows fd_Program_row_rows
  a_Program_row_rows : PySem.W.findIn G.K (.ref (G.cl "Program")) "row_rows" = some (some (.ref f_Program_row_rows))
  g_Program_row_rows : PySem.W.isFn G.K (.ref f_Program_row_rows) = true
  f_Program_names : Addr
  fd_Program_names : FuncData
  F_Program_names : FunD G.K "names" "Program.names" (defArgs s_Program_names) (defBody s_Program_names) (defScope s_Program_names) [] [] f_Program_names fd_Program_names
  a_Program_names : PySem.W.findIn G.K (.ref (G.cl "Program")) "names" = some (some (.ref f_Program_names))
  g_Program_names : PySem.W.isFn G.K (.ref f_Program_names) = true
  f__law_cell : Addr
  fd__law_cell : FuncData
  F__law_cell : FunD G.K "_law_cell" "_law_cell" (defArgs s__law_cell) (defBody s__law_cell) (defScope s__law_cell) [] [] f__law_cell fd__law_cell
  m__law_cell : mg "_law_cell" = some (.ref f__law_cell)
  f__law_digits : Addr
  fd__law_digits : FuncData
  F__law_digits : FunD G.K "_law_digits" "_law_digits" (defArgs s__law_digits) (defBody s__law_digits) (defScope s__law_digits) [] [] f__law_digits fd__law_digits
  m__law_digits : mg "_law_digits" = some (.ref f__law_digits)
  f__law_same : Addr
  fd__law_same : FuncData
  F__law_same : FunD G.K "_law_same" "_law_same" (defArgs s__law_same) (defBody s__law_same) (defScope s__law_same) [] [] f__law_same fd__law_same
  m__law_same : mg "_law_same" = some (.ref f__law_same)
  f__law_names : Addr
  fd__law_names : FuncData
  F__law_names : FunD G.K "_law_names" "_law_names" (defArgs s__law_names) (defBody s__law_names) (defScope s__law_names) [] [] f__law_names fd__law_names
  m__law_names : mg "_law_names" = some (.ref f__law_names)
  f__law_kinds : Addr
  fd__law_kinds : FuncData
  F__law_kinds : FunD G.K "_law_kinds" "_law_kinds" (defArgs s__law_kinds) (defBody s__law_kinds) (defScope s__law_kinds) [] [] f__law_kinds fd__law_kinds
  m__law_kinds : mg "_law_kinds" = some (.ref f__law_kinds)
  f__law_row : Addr
  fd__law_row : FuncData
  F__law_row : FunD G.K "_law_row" "_law_row" (defArgs s__law_row) (defBody s__law_row) (defScope s__law_row) [] [] f__law_row fd__law_row
  m__law_row : mg "_law_row" = some (.ref f__law_row)
  f__law_lines : Addr
  fd__law_lines : FuncData
  F__law_lines : FunD G.K "_law_lines" "_law_lines" (defArgs s__law_lines) (defBody s__law_lines) (defScope s__law_lines) [] [] f__law_lines fd__law_lines
  m__law_lines : mg "_law_lines" = some (.ref f__law_lines)
  f_law : Addr
  fd_law : FuncData
  F_law : FunD G.K "law" "law" (defArgs s_law) (defBody s_law) (defScope s_law) [] [] f_law fd_law
  m_law : mg "law" = some (.ref f_law)
  mk_Program : PySem.W.makesIn G.K (G.cl "Program") = true
  kc_Program : PySem.W.keepIn G.K (.ref (G.cl "Program")) = true
  ne_Program : PySem.W.findIn G.K (.ref (G.cl "Program")) "__ne__" = some (some (.builtin "object.__ne__"))
  nf_Program : PySem.W.notFirst G.K (G.cl "Program") (.type "list") = true
theorem Fx.hC {w : World} {mg : Str → Option Value} {G : Glb} (R : Fx w mg G) (c : Str) : Cls G.K (G.cl c) := (R.hA c).cls
structure All (P : Program) (w : World) (mg : Str → Option Value) (base : Heap) (G : Glb) (M : Mach) (k : Nat) : Prop where
  c_is_word : Cal P w G.K mg base G M k "is_word" "is_word" 3
  c_is_place : Cal P w G.K mg base G M k "is_place" "is_place" 3
  c_is_row : Cal P w G.K mg base G M k "is_row" "is_row" 2
  c_names_in : Cal P w G.K mg base G M k "names_in" "names_in" 1
  n_Program_1_ : Mak P w G.K mg base G M k "Program" "Program" 1 [] [(.bl false)]
  n_Program_1_lossy : Mak P w G.K mg base G M k "Program" "Program" 1 ["lossy"] []
  e_Program : EqM P w G.K mg base G M k "Program"
  l_Program : LnM P w G.K mg base G M k "Program"
  m_Program_row_rows : Met P w G.K mg base G M k "Program" "row_rows" 1
  m_Program_names : Met P w G.K mg base G M k "Program" "names" 1
  c__law_cell : Cal P w G.K mg base G M k "_law_cell" "_law_cell" 2
  c__law_digits : Cal P w G.K mg base G M k "_law_digits" "_law_digits" 3
  c__law_same : Cal P w G.K mg base G M k "_law_same" "_law_same" 2
  c__law_names : Cal P w G.K mg base G M k "_law_names" "_law_names" 3
  c__law_kinds : Cal P w G.K mg base G M k "_law_kinds" "_law_kinds" 0
  c__law_row : Cal P w G.K mg base G M k "_law_row" "_law_row" 4
  c__law_lines : Cal P w G.K mg base G M k "_law_lines" "_law_lines" 3
section
variable {P : Program} {w : World} {mg : Str → Option Value} {base : Heap} {G : Glb} {M : Mach} {k : Nat}
theorem all_of (R : Fx w mg G) (h_is_word : FnG P w G.K mg base k R.f_is_word R.fd_is_word ["text", "least", "most"] (spI G M 3 "is_word")) (h_is_place : FnG P w G.K mg base k R.f_is_place R.fd_is_place ["kind", "thing", "many"] (spI G M 3 "is_place")) (h_is_row : FnG P w G.K mg base k R.f_is_row R.fd_is_row ["row", "many"] (spI G M 2 "is_row")) (h_names_in : FnG P w G.K mg base k R.f_names_in R.fd_names_in ["rows"] (spI G M 1 "names_in")) (h_Programu_initu : FnG P w G.K mg base k R.f_Programu_initu R.fd_Programu_initu ["self", "rows", "lossy"] (spI G M 3 (dot "Program" "__init__"))) (h_Programu_equ : FnG P w G.K mg base k R.f_Programu_equ R.fd_Programu_equ ["self", "other"] (spI G M 2 (dot "Program" "__eq__"))) (h_Programu_lenu : FnG P w G.K mg base k R.f_Programu_lenu R.fd_Programu_lenu ["self"] (spI G M 1 (dot "Program" "__len__"))) (h_Program_row_rows : FnG P w G.K mg base k R.f_Program_row_rows R.fd_Program_row_rows ["self"] (spI G M 1 (dot "Program" "row_rows"))) (h_Program_names : FnG P w G.K mg base k R.f_Program_names R.fd_Program_names ["self"] (spI G M 1 (dot "Program" "names"))) (h__law_cell : FnG P w G.K mg base k R.f__law_cell R.fd__law_cell ["_law_script", "_law_k"] (spI G M 2 "_law_cell")) (h__law_digits : FnG P w G.K mg base k R.f__law_digits R.fd__law_digits ["_law_script", "_law_k", "_law_sizes"] (spI G M 3 "_law_digits")) (h__law_same : FnG P w G.K mg base k R.f__law_same R.fd__law_same ["_law_one", "_law_other"] (spI G M 2 "_law_same")) (h__law_names : FnG P w G.K mg base k R.f__law_names R.fd__law_names ["_law_script", "_law_k", "_law_many"] (spI G M 3 "_law_names")) (h__law_kinds : FnG P w G.K mg base k R.f__law_kinds R.fd__law_kinds [] (spI G M 0 "_law_kinds")) (h__law_row : FnG P w G.K mg base k R.f__law_row R.fd__law_row ["_law_script", "_law_k", "_law_names_here", "_law_many"] (spI G M 4 "_law_row")) (h__law_lines : FnG P w G.K mg base k R.f__law_lines R.fd__law_lines ["_law_script", "_law_k", "_law_most"] (spI G M 3 "_law_lines")) : All P w mg base G M k where
  c_is_word := ⟨R.f_is_word, R.fd_is_word, _, h_is_word, R.m_is_word, R.F_is_word.kp, (bnd0 R.F_is_word fun _ _ _ _ _ _ us hl => match us, hl with | [_, _, _], _ => rfl)⟩
  c_is_place := ⟨R.f_is_place, R.fd_is_place, _, h_is_place, R.m_is_place, R.F_is_place.kp, (bnd0 R.F_is_place fun _ _ _ _ _ _ us hl => match us, hl with | [_, _, _], _ => rfl)⟩
  c_is_row := ⟨R.f_is_row, R.fd_is_row, _, h_is_row, R.m_is_row, R.F_is_row.kp, (bnd0 R.F_is_row fun _ _ _ _ _ _ us hl => match us, hl with | [_, _], _ => rfl)⟩
  c_names_in := ⟨R.f_names_in, R.fd_names_in, _, h_names_in, R.m_names_in, R.F_names_in.kp, (bnd0 R.F_names_in fun _ _ _ _ _ _ us hl => match us, hl with | [_], _ => rfl)⟩
  n_Program_1_ := by
    obtain ⟨mv, hb⟩ := R.F_Programu_initu.kbinds0 2 [] [("lossy", (.bl false))] (fun a m z => a ++ z ++ m) (by decide) (by decide) (fun a b c => (a.append c).append b) (ps := ["self", "rows", "lossy"]) (fun D doc pm an cdv ct us mv ws l1 l2 l3 => by
      match us, mv, ws, l1, l2, l3 with
      | [_, _], [_], [], _, _, _ => exact ⟨_, _, _, _, _, _, rfl, rfl, rfl⟩)
    exact ⟨R.f_Programu_initu, R.fd_Programu_initu, _, mv, [(.bl false)], h_Programu_initu, ⟨R.mk_Program, R.a_Programu_initu, R.g_Programu_initu, R.kc_Program⟩, R.m_Program, hb, fun _ _ => VRs.cons (by simp only [VR]) VRs.nil⟩
  n_Program_1_lossy := ⟨R.f_Programu_initu, R.fd_Programu_initu, _, [], [], h_Programu_initu, ⟨R.mk_Program, R.a_Programu_initu, R.g_Programu_initu, R.kc_Program⟩, R.m_Program, kbn0 R.F_Programu_initu 2 _ (fun _ _ _ _ _ _ us ws l1 l2 => match us, ws, l1, l2 with | [_, _], [_], _, _ => rfl), fun _ _ => VRs.nil⟩
  e_Program := ⟨R.f_Programu_equ, R.fd_Programu_equ, _, h_Programu_equ, ⟨R.a_Programu_equ, R.g_Programu_equ, R.ne_Program, (R.hA _).hm, R.nf_Program⟩, (bnd0 R.F_Programu_equ fun _ _ _ _ _ _ us hl => match us, hl with | [_, _], _ => rfl)⟩
  l_Program := ⟨R.f_Programu_lenu, R.fd_Programu_lenu, _, h_Programu_lenu, R.a_Programu_lenu, R.g_Programu_lenu, (bnd0 R.F_Programu_lenu fun _ _ _ _ _ _ us hl => match us, hl with | [_], _ => rfl)⟩
  m_Program_row_rows := ⟨R.f_Program_row_rows, R.fd_Program_row_rows, _, h_Program_row_rows, R.hC _, ⟨R.a_Program_row_rows, R.g_Program_row_rows, R.F_Program_row_rows.kp⟩, (bnd0 R.F_Program_row_rows fun _ _ _ _ _ _ us hl => match us, hl with | [_], _ => rfl)⟩
  m_Program_names := ⟨R.f_Program_names, R.fd_Program_names, _, h_Program_names, R.hC _, ⟨R.a_Program_names, R.g_Program_names, R.F_Program_names.kp⟩, (bnd0 R.F_Program_names fun _ _ _ _ _ _ us hl => match us, hl with | [_], _ => rfl)⟩
  c__law_cell := ⟨R.f__law_cell, R.fd__law_cell, _, h__law_cell, R.m__law_cell, R.F__law_cell.kp, (bnd0 R.F__law_cell fun _ _ _ _ _ _ us hl => match us, hl with | [_, _], _ => rfl)⟩
  c__law_digits := ⟨R.f__law_digits, R.fd__law_digits, _, h__law_digits, R.m__law_digits, R.F__law_digits.kp, (bnd0 R.F__law_digits fun _ _ _ _ _ _ us hl => match us, hl with | [_, _, _], _ => rfl)⟩
  c__law_same := ⟨R.f__law_same, R.fd__law_same, _, h__law_same, R.m__law_same, R.F__law_same.kp, (bnd0 R.F__law_same fun _ _ _ _ _ _ us hl => match us, hl with | [_, _], _ => rfl)⟩
  c__law_names := ⟨R.f__law_names, R.fd__law_names, _, h__law_names, R.m__law_names, R.F__law_names.kp, (bnd0 R.F__law_names fun _ _ _ _ _ _ us hl => match us, hl with | [_, _, _], _ => rfl)⟩
  c__law_kinds := ⟨R.f__law_kinds, R.fd__law_kinds, _, h__law_kinds, R.m__law_kinds, R.F__law_kinds.kp, (bnd0 R.F__law_kinds fun _ _ _ _ _ _ us hl => match us, hl with | [], _ => rfl)⟩
  c__law_row := ⟨R.f__law_row, R.fd__law_row, _, h__law_row, R.m__law_row, R.F__law_row.kp, (bnd0 R.F__law_row fun _ _ _ _ _ _ us hl => match us, hl with | [_, _, _, _], _ => rfl)⟩
  c__law_lines := ⟨R.f__law_lines, R.fd__law_lines, _, h__law_lines, R.m__law_lines, R.F__law_lines.kp, (bnd0 R.F__law_lines fun _ _ _ _ _ _ us hl => match us, hl with | [_, _, _], _ => rfl)⟩
end
section
variable {P : Program} {w : World} {mg : Str → Option Value} {base : Heap} {G : Glb} {n : Nat}
theorem ok_is_word (R : Fx w mg G) (A : All P w mg base G (Mn n) (4 * n)) : FnG P w G.K mg base (4 * n + 4) R.f_is_word R.fd_is_word ["text", "least", "most"] (spI G (Mn (n + 1)) 3 "is_word") := by
  refine g_of2 (k := 4 * n + 3) (d := d_is_word) R.F_is_word sc_is_word (u_is_word n) rfl rfl fun cdv AA outer s H E g3 hp tk => ?_
  have g1 := g3.le (show 4 * n + 1 ≤ 4 * n + 3 by omega)
  exact (PSs.cons_ (ps_reti (pe_bandi (ch3v g1 (xv 1) (pe_b1i g1 .len (by rfl) R.b_len (xv 0)) (xv 2)) (xone (pe_b1i g1 .all (by rfl) R.b_all (pe_inli (pf_comp (own := [("sign", 3)]) g1 (by decide) (pi_charsi g1 (xv 0)) (blkOk_by (own := [("sign", 3)]) (N := N_is_word) (sc := defScope s_is_word) (by decide +kernel)) (fun _ _ _ _ _ => (gn (g1.blk _ _ _ _ _) 3)) (fun _ _ _ _ _ => pts_no) (fun _ _ _ _ _ => (cpv (g1.blk _ _ _ _ _) .In (xv 3) (xgl R.m_LETTERS R.r_LETTERS R.z_LETTERS))))))))) PSs.nil_)
theorem ok_is_place (R : Fx w mg G) (A : All P w mg base G (Mn n) (4 * n)) : FnG P w G.K mg base (4 * n + 4) R.f_is_place R.fd_is_place ["kind", "thing", "many"] (spI G (Mn (n + 1)) 3 "is_place") := by
  refine g_of2 (k := 4 * n + 3) (d := d_is_place) R.F_is_place sc_is_place (u_is_place n) rfl rfl fun cdv AA outer s H E g3 hp tk => ?_
  have g1 := g3.le (show 4 * n + 1 ≤ 4 * n + 3 by omega)
  exact (PSs.cons_ (ps_ifi (cpt g1 .Eq (xv 0) xstr) (PSs.cons_ (ps_reti (cv g1 A.c_is_word tk (pac (xv 1) (pac xint (pa1 xint))))) PSs.nil_) PSs.nil_) (PSs.cons_ (ps_ifi (cpt g1 .Eq (xv 0) xstr) (PSs.cons_ (ps_reti (cpv g1 .In (xv 1) (xgl R.m_FIELDS R.r_FIELDS R.z_FIELDS))) PSs.nil_) PSs.nil_) (PSs.cons_ (ps_reti (ch3v g1 xint (xv 1) (xv 2))) PSs.nil_)))
theorem ok_is_row (R : Fx w mg G) (A : All P w mg base G (Mn n) (4 * n)) : FnG P w G.K mg base (4 * n + 4) R.f_is_row R.fd_is_row ["row", "many"] (spI G (Mn (n + 1)) 2 "is_row") := by
  refine g_of2 (k := 4 * n + 3) (d := d_is_row) R.F_is_row sc_is_row (u_is_row n) rfl rfl fun cdv AA outer s H E g3 hp tk => ?_
  have g1 := g3.le (show 4 * n + 1 ≤ 4 * n + 3 by omega)
  exact (PSs.cons_ (ps_ifi (pw_ori (cpt g1 .Eq (pe_b1i g1 .len (by rfl) R.b_len (xv 0)) xint) (pw_or1i (nit g1 (R.k_PLACES _) (ix g1 (xv 0) xint)))).pt (PSs.cons_ (ps_reti xbool) PSs.nil_) PSs.nil_) (PSs.cons_ (ps_stari (is := [2]) (i := 3) g1 (xv 0) (pgs_c (gn g1 2) (pgs_star g1 3 (by rfl) (by rfl)))) (PSs.cons_ (ps_ifi (cpt g1 .NotEq (pe_b1i g1 .len (by rfl) R.b_len (xv 3)) (pe_b1i g1 .len (by rfl) R.b_len (kgx g1 (R.k_PLACES _) (xv 2)))) (PSs.cons_ (ps_reti xbool) PSs.nil_) PSs.nil_) (PSs.cons_ (ps_reti (pe_b1i g1 .all (by rfl) R.b_all (pe_inli (pf_comp (own := [("kind", 4), ("thing", 5)]) g1 (by decide) (pi_zipi g1 (by rfl) R.b_zip (pac (kgx g1 (R.k_PLACES _) (xv 2)) (pa1 (xv 3)))) (blkOk_by (own := [("kind", 4), ("thing", 5)]) (N := N_is_row) (sc := defScope s_is_row) (by decide +kernel)) (fun _ _ _ _ _ => (pg_tp (g1.blk _ _ _ _ _) (pgs_c (gn (g1.blk _ _ _ _ _) 4) (pgs_c (gn (g1.blk _ _ _ _ _) 5) pgs_n)))) (fun _ _ _ _ _ => pts_no) (fun _ _ _ _ _ => (cv (g1.blk _ _ _ _ _) A.c_is_place takesF (pac (xv 4) (pac (xv 5) (pa1 (xv 1)))))))))) PSs.nil_))))
theorem ok_names_in (R : Fx w mg G) (A : All P w mg base G (Mn n) (4 * n)) : FnG P w G.K mg base (4 * n + 4) R.f_names_in R.fd_names_in ["rows"] (spI G (Mn (n + 1)) 1 "names_in") := by
  refine g_of2 (k := 4 * n + 3) (d := d_names_in) R.F_names_in sc_names_in (u_names_in n) rfl rfl fun cdv AA outer s H E g3 hp tk => ?_
  have g1 := g3.le (show 4 * n + 1 ≤ 4 * n + 3 by omega)
  exact (PSs.cons_ (ps_retfi (pf_scomp2 g1 (by rfl) R.b_sorted (pe_sc2 (own := [("row", 1), ("kind", 2), ("thing", 3)]) (vs1 := [2, 3]) g1 (by decide) (by decide) (by decide) (pi_sqi g1 (xv 0)) (blkOk_by (own := [("row", 1), ("kind", 2), ("thing", 3)]) (N := N_names_in) (sc := defScope s_names_in) (by decide +kernel)) (fun _ _ _ _ _ => (gn (g1.blk _ _ _ _ _) 1)) (fun _ _ _ _ _ => pts_no) (fun _ _ _ _ _ => (pi_zipi (g1.blk _ _ _ _ _) (by rfl) R.b_zip (pac (kgx (g1.blk _ _ _ _ _) (R.k_PLACES _) (ix (g1.blk _ _ _ _ _) (xv 1) xint)) (pa1 (pe_slti (g1.blk _ _ _ _ _) (xv 1) (po_somei xint) po_nonei))))) (fun _ _ _ _ _ => (pg_tp (g1.blk _ _ _ _ _) (pgs_c (gn (g1.blk _ _ _ _ _) 2) (pgs_c (gn (g1.blk _ _ _ _ _) 3) pgs_n)))) (fun _ _ _ _ _ => (pts_c (cpt (g1.blk _ _ _ _ _) .Eq (xv 2) xstr))) (fun _ _ _ _ _ => (xv 3))))) PSs.nil_)
theorem ok_Programu_initu (R : Fx w mg G) (A : All P w mg base G (Mn n) (4 * n)) : FnG P w G.K mg base (4 * n + 4) R.f_Programu_initu R.fd_Programu_initu ["self", "rows", "lossy"] (spI G (Mn (n + 1)) 3 (dot "Program" "__init__")) := by
  refine g_of2 (k := 4 * n + 3) (d := d_Programu_initu) R.F_Programu_initu sc_Programu_initu (u_Programu_initu n) rfl rfl fun cdv AA outer s H E g3 hp tk => ?_
  have g1 := g3.le (show 4 * n + 1 ≤ 4 * n + 3 by omega)
  exact (PSs.cons_ (ps_ifi (pt_noti (ch3t g1 xint (pe_b1i g1 .len (by rfl) R.b_len (xv 1)) (xgl R.m_MOST_ROWS R.r_MOST_ROWS R.z_MOST_ROWS))) (PSs.cons_ ps_badi PSs.nil_) PSs.nil_) (PSs.cons_ (ps_fori g1 hp (pi_enmi g1 (by rfl) R.b_enumerate (pa1 (xv 1))) (pg_tp g1 (pgs_c (gn g1 3) (pgs_c (gn g1 4) pgs_n))) (PSs.cons_ (ps_ifi (pt_noti (tv (cv g1 A.c_is_row tk (pac (xv 4) (pa1 (pe_b1i g1 .len (by rfl) R.b_len (xv 1))))))) (PSs.cons_ ps_badi PSs.nil_) PSs.nil_) PSs.nil_)) (PSs.cons_ (ps_ifi (cpt g1 .Gt (pe_b1i g1 .len (by rfl) R.b_len (cv g1 A.c_names_in tk (pa1 (xv 1)))) (xgl R.m_MOST_NAMES R.r_MOST_NAMES R.z_MOST_NAMES)) (PSs.cons_ ps_badi PSs.nil_) PSs.nil_) (PSs.cons_ (ps_fseti g1 R.hC R.n_lines (xv 0) (pe_inli (pf_comp (own := [("row", 4)]) g1 (by decide) (pi_sqi g1 (xv 1)) (blkOk_by (own := [("row", 4)]) (N := N_Programu_initu) (sc := defScope s_Programu_initu) (by decide +kernel)) (fun _ _ _ _ _ => (gn (g1.blk _ _ _ _ _) 4)) (fun _ _ _ _ _ => pts_no) (fun _ _ _ _ _ => (pe_b1i (g1.blk _ _ _ _ _) .tuple (by rfl) R.b_tuple (xv 4))))) (by rfl)) (PSs.cons_ (ps_fseti g1 R.hC R.n_lossy (xv 0) (xv 2) (by rfl)) PSs.nil_)))))
theorem ok_Programu_equ (R : Fx w mg G) (A : All P w mg base G (Mn n) (4 * n)) : FnG P w G.K mg base (4 * n + 4) R.f_Programu_equ R.fd_Programu_equ ["self", "other"] (spI G (Mn (n + 1)) 2 (dot "Program" "__eq__")) := by
  refine g_of2 (k := 4 * n + 3) (d := d_Programu_equ) R.F_Programu_equ sc_Programu_equ (u_Programu_equ n) rfl rfl fun cdv AA outer s H E g3 hp tk => ?_
  have g1 := g3.le (show 4 * n + 1 ≤ 4 * n + 3 by omega)
  exact (PSs.cons_ (ps_reti (pe_bandi (pe_isCi g1 R.hA R.i_Program R.own_Program (by rfl) R.b_isinstance (xv 1) (pe_glob (by rfl) R.m_Program rfl)) (pe_bandi (cpv g1 .Eq (pe_fldi g1 R.hC R.n_lines (xv 0) (by rfl)) (pe_fldi g1 R.hC R.n_lines (xv 1) (by rfl))) (xone (cpv g1 .Eq (pe_fldi g1 R.hC R.n_lossy (xv 0) (by rfl)) (pe_fldi g1 R.hC R.n_lossy (xv 1) (by rfl))))))) PSs.nil_)
theorem ok_Programu_lenu (R : Fx w mg G) (A : All P w mg base G (Mn n) (4 * n)) : FnG P w G.K mg base (4 * n + 4) R.f_Programu_lenu R.fd_Programu_lenu ["self"] (spI G (Mn (n + 1)) 1 (dot "Program" "__len__")) := by
  refine g_of2 (k := 4 * n + 3) (d := d_Programu_lenu) R.F_Programu_lenu sc_Programu_lenu (u_Programu_lenu n) rfl rfl fun cdv AA outer s H E g3 hp tk => ?_
  have g1 := g3.le (show 4 * n + 1 ≤ 4 * n + 3 by omega)
  exact (PSs.cons_ (ps_reti (pe_b1i g1 .len (by rfl) R.b_len (pe_fldi g1 R.hC R.n_lines (xv 0) (by rfl)))) PSs.nil_)
theorem ok_Program_row_rows (R : Fx w mg G) (A : All P w mg base G (Mn n) (4 * n)) : FnG P w G.K mg base (4 * n + 4) R.f_Program_row_rows R.fd_Program_row_rows ["self"] (spI G (Mn (n + 1)) 1 (dot "Program" "row_rows")) := by
  refine g_of2 (k := 4 * n + 3) (d := d_Program_row_rows) R.F_Program_row_rows sc_Program_row_rows (u_Program_row_rows n) rfl rfl fun cdv AA outer s H E g3 hp tk => ?_
  have g1 := g3.le (show 4 * n + 1 ≤ 4 * n + 3 by omega)
  exact (PSs.cons_ (ps_retfi (pf_cpy g1 (by rfl) R.b_list (pe_fldi g1 R.hC R.n_lines (xv 0) (by rfl)) (by rfl))) PSs.nil_)
theorem ok_Program_names (R : Fx w mg G) (A : All P w mg base G (Mn n) (4 * n)) : FnG P w G.K mg base (4 * n + 4) R.f_Program_names R.fd_Program_names ["self"] (spI G (Mn (n + 1)) 1 (dot "Program" "names")) := by
  refine g_of2 (k := 4 * n + 3) (d := d_Program_names) R.F_Program_names sc_Program_names (u_Program_names n) rfl rfl fun cdv AA outer s H E g3 hp tk => ?_
  have g1 := g3.le (show 4 * n + 1 ≤ 4 * n + 3 by omega)
  exact (PSs.cons_ (ps_retfi (cf g1 A.c_names_in tk (pa1 (pe_fldi g1 R.hC R.n_lines (xv 0) (by rfl))))) PSs.nil_)
theorem ok__law_cell (R : Fx w mg G) (A : All P w mg base G (Mn n) (4 * n)) : FnG P w G.K mg base (4 * n + 4) R.f__law_cell R.fd__law_cell ["_law_script", "_law_k"] (spI G (Mn (n + 1)) 2 "_law_cell") := by
  refine g_of2 (k := 4 * n + 3) (d := d__law_cell) R.F__law_cell sc__law_cell (u__law_cell n) rfl rfl fun cdv AA outer s H E g3 hp tk => ?_
  have g1 := g3.le (show 4 * n + 1 ≤ 4 * n + 3 by omega)
  exact (PSs.cons_ (ps_ifi (cpt g1 .Lt (xv 1) (pe_b1i g1 .len (by rfl) R.b_len (xv 0))) (PSs.cons_ (ps_reti (ix g1 (xv 0) (xv 1))) PSs.nil_) PSs.nil_) (PSs.cons_ (ps_asgi xint (gn g1 2)) (PSs.cons_ (ps_fori g1 hp (pi_sqi g1 (xv 0)) (gn g1 3) (PSs.cons_ (ps_asgi (pe_bin g1 .Mod (pe_bin g1 .Add (pe_bin g1 .Mult (xv 2) xint) (xv 3)) xint) (gn g1 2)) PSs.nil_)) (PSs.cons_ (ps_reti (pe_bin g1 .Mod (pe_bin g1 .Mult (pe_bin g1 .Mult (pe_bin g1 .Add (xv 2) xint) (pe_bin g1 .Add (xv 1) xint)) xint) xint)) PSs.nil_))))
theorem ok__law_digits (R : Fx w mg G) (A : All P w mg base G (Mn n) (4 * n)) : FnG P w G.K mg base (4 * n + 4) R.f__law_digits R.fd__law_digits ["_law_script", "_law_k", "_law_sizes"] (spI G (Mn (n + 1)) 3 "_law_digits") := by
  refine g_of2 (k := 4 * n + 3) (d := d__law_digits) R.F__law_digits sc__law_digits (u__law_digits n) rfl rfl fun cdv AA outer s H E g3 hp tk => ?_
  have g1 := g3.le (show 4 * n + 1 ≤ 4 * n + 3 by omega)
  exact (PSs.cons_ (ps_asgi (cv g1 A.c__law_cell tk (pac (xv 0) (pa1 (xv 1)))) (gn g1 3)) (PSs.cons_ (ps_asgi (pe_alci (pf_lst pa_nili)) (gn g1 4)) (PSs.cons_ (ps_ifi (cpt g1 .GtE (xv 3) (pe_bin g1 .Pow xint xint)) (PSs.cons_ (ps_asgi (pe_bin g1 .Sub (xv 3) (pe_bin g1 .Pow xint xint)) (gn g1 5)) (PSs.cons_ (ps_fori g1 hp (pi_sqi g1 (xv 2)) (gn g1 6) (PSs.cons_ (ps_expri (pe_muti g1 .append (.inl rfl) (xv 4) (pa1 (pe_bin g1 .Mod (xv 5) (xv 6))))) (PSs.cons_ (ps_asgi (pe_bin g1 .FloorDiv (xv 5) (xv 6)) (gn g1 5)) PSs.nil_))) (PSs.cons_ (ps_reti (xv 4)) PSs.nil_))) PSs.nil_) (PSs.cons_ (ps_asgi (pe_bin g1 .Mod (xv 3) xint) (gn g1 7)) (PSs.cons_ (ps_fori g1 hp (pi_rng1i (by rfl) R.b_range (pa1 (pe_b1i g1 .len (by rfl) R.b_len (xv 2)))) (gn g1 8) (PSs.cons_ (ps_asgi (pe_bin g1 .Mod (pe_bin g1 .Add (pe_bin g1 .Mult (xv 7) xint) (pe_bin g1 .Mult xint (pe_bin g1 .Add (xv 8) xint))) xint) (gn g1 7)) (PSs.cons_ (ps_asgi (pe_bin g1 .Mod (pe_bin g1 .Add (pe_bin g1 .Add (pe_bin g1 .Mult (xv 7) (xv 7)) (pe_bin g1 .Mult xint (xv 7))) (xv 8)) xint) (gn g1 9)) (PSs.cons_ (ps_expri (pe_muti g1 .append (.inl rfl) (xv 4) (pa1 (pe_bin g1 .Mod (pe_bin g1 .FloorDiv (xv 9) xint) (ix g1 (xv 2) (xv 8)))))) PSs.nil_)))) (PSs.cons_ (ps_reti (xv 4)) PSs.nil_))))))
theorem ok__law_same (R : Fx w mg G) (A : All P w mg base G (Mn n) (4 * n)) : FnG P w G.K mg base (4 * n + 4) R.f__law_same R.fd__law_same ["_law_one", "_law_other"] (spI G (Mn (n + 1)) 2 "_law_same") := by
  refine g_of2 (k := 4 * n + 3) (d := d__law_same) R.F__law_same sc__law_same (u__law_same n) rfl rfl fun cdv AA outer s H E g3 hp tk => ?_
  have g1 := g3.le (show 4 * n + 1 ≤ 4 * n + 3 by omega)
  exact (PSs.cons_ (ps_ifi (tv (pe_isDi g1 R.hA R.i_dict R.nd (by rfl) R.b_isinstance (xv 1) (pe_bltn (by rfl) R.b_dict rfl rfl))) (PSs.cons_ ps_badi PSs.nil_) PSs.nil_) (PSs.cons_ (ps_reti (pe_bandi (cpv g1 .Eq (xv 0) (xv 1)) (xone (cpv g1 .Eq (pe_b1i g1 .repr (by rfl) R.b_repr (xv 0)) (pe_b1i g1 .repr (by rfl) R.b_repr (xv 1)))))) PSs.nil_))
theorem ok__law_names (R : Fx w mg G) (A : All P w mg base G (Mn n) (4 * n)) : FnG P w G.K mg base (4 * n + 4) R.f__law_names R.fd__law_names ["_law_script", "_law_k", "_law_many"] (spI G (Mn (n + 1)) 3 "_law_names") := by
  refine g_of2 (k := 4 * n + 3) (d := d__law_names) R.F__law_names sc__law_names (u__law_names n) rfl rfl fun cdv AA outer s H E g3 hp tk => ?_
  have g1 := g3.le (show 4 * n + 1 ≤ 4 * n + 3 by omega)
  exact (PSs.cons_ (ps_asgi (pe_tupi (pac (pe_alci (pf_lst pa_nili)) (pa1 xstr))) (pg_tp g1 (pgs_c (gn g1 3) (pgs_c (gn g1 4) pgs_n)))) (PSs.cons_ (ps_fori g1 hp (pi_rng1i (by rfl) R.b_range (pa1 (xv 2))) (gn g1 5) (PSs.cons_ (ps_asgi (cv g1 A.c__law_digits tk (pac (xv 0) (pac (pe_bin g1 .Add (xv 1) (pe_bin g1 .Mod (xv 5) xint)) (pa1 (pe_inli (pf_lst (pac xint (pac xint (pac xint (pa1 xint)))))))))) (pg_tp g1 (pgs_c (gn g1 6) (pgs_c (gn g1 7) (pgs_c (gn g1 8) (pgs_c (gn g1 9) pgs_n)))))) (PSs.cons_ (ps_asgi (pe_joini g1 xstr (pe_inli (pf_comp (own := [("_law_i", 11)]) g1 (by decide) (pi_rng1i (by rfl) R.b_range (pa1 (xv 8))) (blkOk_by (own := [("_law_i", 11)]) (N := N__law_names) (sc := defScope s__law_names) (by decide +kernel)) (fun _ _ _ _ _ => (gn (g1.blk _ _ _ _ _) 11)) (fun _ _ _ _ _ => pts_no) (fun _ _ _ _ _ => (ix (g1.blk _ _ _ _ _) (xv 4) (pe_bin (g1.blk _ _ _ _ _) .Mod (pe_bin (g1.blk _ _ _ _ _) .Add (pe_bin (g1.blk _ _ _ _ _) .Add (xv 6) (pe_bin (g1.blk _ _ _ _ _) .Mult (xv 11) (xv 7))) (pe_bin (g1.blk _ _ _ _ _) .Mult xint (xv 5))) xint)))))) (gn g1 10)) (PSs.cons_ (ps_asgi (ix g1 (xv 4) (pe_bin g1 .Mod (pe_bin g1 .Add (pe_bin g1 .Add (xv 6) (pe_bin g1 .Mult xint (xv 5))) xint) xint)) (gn g1 12)) (PSs.cons_ (ps_asgi (pe_bin g1 .Add (pe_bin g1 .Add (pe_slti g1 (xv 10) po_nonei (po_somei (xv 9))) (xv 12)) (pe_slti g1 (xv 10) (po_somei (xv 9)) po_nonei)) (gn g1 13)) (PSs.cons_ (ps_ifi (cpt g1 .In (xv 13) (xv 3)) (PSs.cons_ (ps_setLci (own := [("_law_tail", 15)]) g1 (i := 14) (by rfl) (by rfl) (sw_true rfl rfl rfl (by decide +kernel)) (by decide) (pi_charsi g1 xstr) (blkOk_by (own := [("_law_tail", 15)]) (N := N__law_names) (sc := defScope s__law_names) (by decide +kernel)) (fun _ _ _ _ _ => (gn (g1.blk _ _ _ _ _) 15)) (fun _ _ _ _ _ => pts_no) (fun _ _ _ _ _ => (pe_bin (g1.blk _ _ _ _ _) .Add (pe_bin (g1.blk _ _ _ _ _) .Add xstr (ix (g1.blk _ _ _ _ _) (xv 4) (xv 5))) (xv 15))) (by intro _; rfl) true) (PSs.cons_ (ps_asgi (ix g1 (pe_inli (pf_comp (own := [("_law_one_more", 16)]) g1 (by decide) (pi_sqi g1 (xv 14)) (blkOk_by (own := [("_law_one_more", 16)]) (N := N__law_names) (sc := defScope s__law_names) (by decide +kernel)) (fun _ _ _ _ _ => (gn (g1.blk _ _ _ _ _) 16)) (fun _ _ _ _ _ => (pts_c (cpt (g1.blk _ _ _ _ _) .NotIn (xv 16) (xv 3)))) (fun _ _ _ _ _ => (xv 16)))) xint) (gn g1 13)) PSs.nil_)) PSs.nil_) (PSs.cons_ (ps_expri (pe_muti g1 .append (.inl rfl) (xv 3) (pa1 (xv 13)))) PSs.nil_))))))) (PSs.cons_ (ps_reti (xv 3)) PSs.nil_)))
theorem ok__law_kinds (R : Fx w mg G) (A : All P w mg base G (Mn n) (4 * n)) : FnG P w G.K mg base (4 * n + 4) R.f__law_kinds R.fd__law_kinds [] (spI G (Mn (n + 1)) 0 "_law_kinds") := by
  refine g_of2 (k := 4 * n + 3) (d := d__law_kinds) R.F__law_kinds sc__law_kinds (u__law_kinds n) rfl rfl fun cdv AA outer s H E g3 hp tk => ?_
  have g1 := g3.le (show 4 * n + 1 ≤ 4 * n + 3 by omega)
  exact (PSs.cons_ (ps_retfi (pf_dsp g1 (pps_cons pe_str xstr (pps_cons pe_str xstr (pps_cons pe_str xstr (pps_cons pe_str xstr (pps_cons pe_str xstr (pps_cons pe_str xstr (pps_cons pe_str xstr (pps_cons pe_str xstr (pps_cons pe_str xstr (pps_cons pe_str xstr (pps_cons pe_str xstr pps_nil))))))))))) rfl rfl rfl (by decide) (by decide))) PSs.nil_)
theorem ok__law_row (R : Fx w mg G) (A : All P w mg base G (Mn n) (4 * n)) : FnG P w G.K mg base (4 * n + 4) R.f__law_row R.fd__law_row ["_law_script", "_law_k", "_law_names_here", "_law_many"] (spI G (Mn (n + 1)) 4 "_law_row") := by
  refine g_of2 (k := 4 * n + 3) (d := d__law_row) R.F__law_row sc__law_row (u__law_row n) rfl rfl fun cdv AA outer s H E g3 hp tk => ?_
  have g1 := g3.le (show 4 * n + 1 ≤ 4 * n + 3 by omega)
  exact (PSs.cons_ (ps_asgi (cv g1 A.c__law_digits tk (pac (xv 0) (pac (xv 1) (pa1 (pe_inli (pf_lst (pac xint (pac xint (pac xint (pac xint (pa1 xint))))))))))) (pg_tp g1 (pgs_c (gn g1 4) (pgs_c (gn g1 5) (pgs_c (gn g1 6) (pgs_c (gn g1 7) (pgs_c (gn g1 8) pgs_n))))))) (PSs.cons_ (ps_asgi (pe_inli (pf_lst (pac xstr (pac xstr (pac xstr (pac xstr (pac xstr (pac xstr (pac xstr (pac xstr (pac xstr (pac xstr (pa1 xstr))))))))))))) (gn g1 9)) (PSs.cons_ (ps_asgi (ix g1 (pe_inli (pf_cat (xv 9) (pe_inli (pf_lst (pac xstr (pac xstr (pac xstr (pa1 xstr)))))))) (xv 4)) (gn g1 4)) (PSs.cons_ (ps_asgi (pe_alci (pf_lst (pac (ix g1 (xv 2) (pe_bin g1 .Mod (xv 5) (pe_b1i g1 .len (by rfl) R.b_len (xv 2)))) (pa1 (ix g1 (xv 2) (pe_bin g1 .Mod (xv 6) (pe_b1i g1 .len (by rfl) R.b_len (xv 2)))))))) (gn g1 10)) (PSs.cons_ (ps_asgi (pe_tupi (pa1 (xv 4))) (gn g1 11)) (PSs.cons_ (ps_fori g1 hp (pi_charsi g1 (ix g1 (cv0 g1 A.c__law_kinds tk) (xv 4))) (gn g1 12) (PSs.cons_ (ps_ifi (cpt g1 .Eq (xv 12) xstr) (PSs.cons_ (ps_asgi (pe_bin g1 .Add (xv 11) (pe_tupi (pa1 (pe_muti g1 .popAt (.inr rfl) (xv 10) (pa1 xint))))) (gn g1 11)) PSs.nil_) (PSs.cons_ (ps_asgi (pe_bin g1 .Add (xv 11) (pe_tupi (pa1 (pe_itei (cpt g1 .Eq (xv 12) xstr) (ix g1 (pe_inli (pf_lst (pac xstr (pa1 xstr)))) (xv 7)) (pe_bin g1 .Mod (xv 8) (pe_bin g1 .Add (xv 3) xint)))))) (gn g1 11)) PSs.nil_)) PSs.nil_)) (PSs.cons_ (ps_reti (xv 11)) PSs.nil_)))))))
theorem ok__law_lines (R : Fx w mg G) (A : All P w mg base G (Mn n) (4 * n)) : FnG P w G.K mg base (4 * n + 4) R.f__law_lines R.fd__law_lines ["_law_script", "_law_k", "_law_most"] (spI G (Mn (n + 1)) 3 "_law_lines") := by
  refine g_of2 (k := 4 * n + 3) (d := d__law_lines) R.F__law_lines sc__law_lines (u__law_lines n) rfl rfl fun cdv AA outer s H E g3 hp tk => ?_
  have g1 := g3.le (show 4 * n + 1 ≤ 4 * n + 3 by omega)
  exact (PSs.cons_ (ps_asgi (cv g1 A.c__law_digits tk (pac (xv 0) (pac (xv 1) (pa1 (pe_inli (pf_lst (pac (xv 2) (pa1 xint)))))))) (pg_tp g1 (pgs_c (gn g1 3) (pgs_c (gn g1 4) pgs_n)))) (PSs.cons_ (ps_asgi (cv g1 A.c__law_names tk (pac (xv 0) (pac (pe_bin g1 .Add (xv 1) xint) (pa1 (pe_bin g1 .Add xint (xv 4)))))) (gn g1 5)) (PSs.cons_ (ps_retfi (pf_comp (own := [("_law_j", 6)]) g1 (by decide) (pi_rng1i (by rfl) R.b_range (pa1 (pe_bin g1 .Add xint (xv 3)))) (blkOk_by (own := [("_law_j", 6)]) (N := N__law_lines) (sc := defScope s__law_lines) (by decide +kernel)) (fun _ _ _ _ _ => (gn (g1.blk _ _ _ _ _) 6)) (fun _ _ _ _ _ => pts_no) (fun _ _ _ _ _ => (cv (g1.blk _ _ _ _ _) A.c__law_row takesF (pac (xv 0) (pac (pe_bin (g1.blk _ _ _ _ _) .Add (pe_bin (g1.blk _ _ _ _ _) .Add (xv 1) xint) (xv 6)) (pac (xv 5) (pa1 (pe_bin (g1.blk _ _ _ _ _) .Add xint (xv 3)))))))))) PSs.nil_)))
theorem ok_law (R : Fx w mg G) (A : All P w mg base G (Mn n) (4 * n)) (hlaw : ∀ ns : List Int, ns.length ≤ 63 → ∃ T, exec (Mn n) b_law (some (.lst (ns.map .int)) :: List.replicate 15 none) [] = .ret (.val (.bl true)) T) : FnG P w G.K mg base (4 * n + 4) R.f_law R.fd_law ["_law_script"] (spEnd G.K 63) := by
  refine law_of2 (k := 4 * n + 3) R.F_law sc_law rfl (fun cdv AA outer s H E g3 hp tk => ?_) hlaw
  have g1 := g3.le (show 4 * n + 1 ≤ 4 * n + 3 by omega)
  exact pss_cons (ps_set (i := 0) sc_law.nd rfl (by first | exact Or.inl rfl | exact Or.inr rfl) (pe_slice sl_list (pv 0) po_none (po_some pe_int)))
    (PSs.cons_ (ps_fori g1 hp (pi_rng1i (by rfl) R.b_range (pa1 xint)) (gn g1 1) (PSs.cons_ (ps_asgi (cv g1 A.c__law_lines tk (pac (xv 0) (pac (pe_bin g1 .Mult xint (xv 1)) (pa1 (ix g1 (pe_inli (pf_lst (pac xint (pac xint (pa1 xint))))) (xv 1)))))) (gn g1 2)) (PSs.cons_ (ps_asgi (cv g1 A.c__law_digits tk (pac (xv 0) (pac (pe_bin g1 .Add (pe_bin g1 .Mult xint (xv 1)) xint) (pa1 (pe_inli (pf_lst (pac xint (pa1 xint)))))))) (pg_tp g1 (pgs_c (gn g1 3) (pgs_c (gn g1 4) pgs_n)))) (PSs.cons_ (ps_asgi (pe_alci (pf_cpy g1 (by rfl) R.b_list (xv 2) (by rfl))) (gn g1 5)) (PSs.cons_ (ps_asgi (pe_itei (cpt g1 .Eq (xv 3) xint) (pe_alci (nw g1 A.n_Program_1_ tk (pa1 (xv 5)))) (pe_alci (nwK g1 A.n_Program_1_lossy tk (pa1 (xv 5)) (pk_c (cpv g1 .Eq (xv 3) xint) pk_n)))) (gn g1 6)) (PSs.cons_ (ps_expri (pe_mut0i g1 .clear (.inr rfl) (xv 5))) (PSs.cons_ (ps_asgi (pe_inli (pf_lst pa_nili)) (gn g1 7)) (PSs.cons_ (ps_fori g1 hp (pi_sqi g1 (xv 2)) (gn g1 8) (PSs.cons_ (ps_asgi (pe_inli (pf_cat (xv 7) (pe_inli (pf_comp (own := [("_law_sort", 9), ("_law_thing", 10)]) g1 (by decide) (pi_zipi g1 (by rfl) R.b_zip (pac (ix g1 (cv0 g1 A.c__law_kinds tk) (ix g1 (xv 8) xint)) (pa1 (pe_slti g1 (xv 8) (po_somei xint) po_nonei)))) (blkOk_by (own := [("_law_sort", 9), ("_law_thing", 10)]) (N := N_law) (sc := defScope s_law) (by decide +kernel)) (fun _ _ _ _ _ => (pg_tp (g1.blk _ _ _ _ _) (pgs_c (gn (g1.blk _ _ _ _ _) 9) (pgs_c (gn (g1.blk _ _ _ _ _) 10) pgs_n)))) (fun _ _ _ _ _ => (pts_c (cpt (g1.blk _ _ _ _ _) .Eq (xv 9) xstr))) (fun _ _ _ _ _ => (xv 10)))))) (gn g1 7)) PSs.nil_)) (PSs.cons_ (ps_fori g1 hp (pi_rng1i (by rfl) R.b_range (pa1 xint)) (gn g1 11) (PSs.cons_ (ps_ifi (pt_noti (tv (cv g1 A.c__law_same tk (pac (pe_inli (pf_lst (pac (mv0 g1 A.m_Program_row_rows tk (xv 6)) (pa1 (mv0 g1 A.m_Program_names tk (xv 6)))))) (pa1 (pe_inli (pf_lst (pac (xv 2) (pa1 (pe_inli (pf_sset g1 (by rfl) R.b_sorted (by rfl) R.b_set (xv 7)))))))))))) (PSs.cons_ (ps_reti xbool) PSs.nil_) PSs.nil_) (PSs.cons_ (ps_expri (pe_muti g1 .append (.inl rfl) (pe_alci (mf0 g1 A.m_Program_row_rows tk (xv 6))) (pa1 (pe_tupi (pac xstr (pa1 xint)))))) (PSs.cons_ (ps_expri (pe_muti g1 .append (.inl rfl) (pe_alci (mf0 g1 A.m_Program_names tk (xv 6))) (pa1 xstr))) PSs.nil_)))) (PSs.cons_ (ps_ifi (pw_ori (pt_noti (tv (cv g1 A.c__law_same tk (pac (pe_inli (pf_lst (pac (ln g1 A.l_Program R.b_len (xv 6)) (pa1 (pe_fldi g1 R.hC R.n_lossy (xv 6) (by rfl)))))) (pa1 (pe_inli (pf_lst (pac (pe_b1i g1 .len (by rfl) R.b_len (xv 2)) (pa1 (cpv g1 .Eq (xv 3) xint)))))))))) (pw_or1i (eqt g3 A.e_Program (xv 6) (xv 2)))).pt (PSs.cons_ (ps_reti xbool) PSs.nil_) PSs.nil_) (PSs.cons_ (ps_asgi (cv g1 A.c__law_names tk (pac (xv 0) (pac (pe_bin g1 .Add (pe_bin g1 .Mult xint (xv 1)) xint) (pa1 xint)))) (gn g1 12)) (PSs.cons_ (ps_asgi (pe_alci (nw g1 A.n_Program_1_ tk (pa1 (pe_inli (pf_cat (pe_inli (pf_comp (own := [("_law_name", 14)]) g1 (by decide) (pi_sqi g1 (xv 12)) (blkOk_by (own := [("_law_name", 14)]) (N := N_law) (sc := defScope s_law) (by decide +kernel)) (fun _ _ _ _ _ => (gn (g1.blk _ _ _ _ _) 14)) (fun _ _ _ _ _ => pts_no) (fun _ _ _ _ _ => (pe_tupi (pac xstr (pa1 (xv 14))))))) (pe_inli (pf_lst (pac (pe_tupi (pac xstr (pac (ix g1 (xv 12) (pe_bin g1 .Mod (xv 4) xint)) (pa1 (ix g1 (xv 12) xint))))) (pa1 (pe_tupi (pac xstr (pa1 xint)))))))))))) (gn g1 13)) (PSs.cons_ (ps_ifi (pt_noti (tv (cv g1 A.c__law_same tk (pac (pe_inli (pf_lst (pac (mv0 g1 A.m_Program_names tk (xv 13)) (pa1 (mv0 g1 A.m_Program_names tk (xv 13)))))) (pa1 (pe_inli (pf_rep (pe_alci (pf_lst (pa1 (pe_inli (pf_srt g1 (by rfl) R.b_sorted (xv 12)))))) xint))))))) (PSs.cons_ (ps_reti xbool) PSs.nil_) PSs.nil_) (PSs.cons_ (ps_asgi (pe_bin g1 .Mod (xv 4) (pe_b1i g1 .len (by rfl) R.b_len (xv 2))) (gn g1 4)) (PSs.cons_ (ps_asgi (pe_inli (pf_cat (pe_inli (pf_cat (pe_inli (pf_slc g1 (xv 2) po_nonei (po_somei (xv 4)))) (pe_inli (pf_lst (pa1 (pe_itei (cpt g1 .NotEq (ix g1 (xv 2) (xv 4)) (pe_tupi (pac xstr (pa1 (xv 4))))) (pe_tupi (pac xstr (pa1 (xv 4)))) (pe_tupi (pac xstr (pa1 xstr))))))))) (pe_inli (pf_slc g1 (xv 2) (po_somei (pe_bin g1 .Add (xv 4) xint)) po_nonei)))) (gn g1 15)) (PSs.cons_ (ps_ifi (pw_ori (eqt g3 A.e_Program (xv 6) (pe_inli (nwK g1 A.n_Program_1_lossy tk (pa1 (xv 15)) (pk_c (cpv g1 .Eq (xv 3) xint) pk_n)))) (pw_or1i (eqt g3 A.e_Program (xv 6) (pe_inli (nwK g1 A.n_Program_1_lossy tk (pa1 (xv 2)) (pk_c (cpv g1 .NotEq (xv 3) xint) pk_n)))))).pt (PSs.cons_ (ps_reti xbool) PSs.nil_) PSs.nil_) (PSs.cons_ (ps_ifi (pw_ori (pt_noti (eqt g3 A.e_Program (xv 6) (pe_inli (nwK g1 A.n_Program_1_lossy tk (pa1 (xv 2)) (pk_c (cpv g1 .Eq (xv 3) xint) pk_n))))) (pw_or1i (net g3 A.e_Program (xv 6) (pe_inli (nwK g1 A.n_Program_1_lossy tk (pa1 (pe_inli (pf_cpy g1 (by rfl) R.b_list (xv 2) (by rfl)))) (pk_c (cpv g1 .Eq (xv 3) xint) pk_n)))))).pt (PSs.cons_ (ps_reti xbool) PSs.nil_) PSs.nil_) PSs.nil_))))))))))))))))) (PSs.cons_ (ps_reti xbool) PSs.nil_))
theorem all_n (R : Fx w mg G) : ∀ n : Nat, All P w mg base G (Mn n) (4 * n)
  | 0 => all_of R (g_zero rfl fun _ _ => rfl) (g_zero rfl fun _ _ => rfl) (g_zero rfl fun _ _ => rfl) (g_zero rfl fun _ _ => rfl) (g_zero rfl fun _ _ => rfl) (g_zero rfl fun _ _ => rfl) (g_zero rfl fun _ _ => rfl) (g_zero rfl fun _ _ => rfl) (g_zero rfl fun _ _ => rfl) (g_zero rfl fun _ _ => rfl) (g_zero rfl fun _ _ => rfl) (g_zero rfl fun _ _ => rfl) (g_zero rfl fun _ _ => rfl) (g_zero rfl fun _ _ => rfl) (g_zero rfl fun _ _ => rfl) (g_zero rfl fun _ _ => rfl)
  | n + 1 => all_of R (ok_is_word R (all_n R n)) (ok_is_place R (all_n R n)) (ok_is_row R (all_n R n)) (ok_names_in R (all_n R n)) (ok_Programu_initu R (all_n R n)) (ok_Programu_equ R (all_n R n)) (ok_Programu_lenu R (all_n R n)) (ok_Program_row_rows R (all_n R n)) (ok_Program_names R (all_n R n)) (ok__law_cell R (all_n R n)) (ok__law_digits R (all_n R n)) (ok__law_same R (all_n R n)) (ok__law_names R (all_n R n)) (ok__law_kinds R (all_n R n)) (ok__law_row R (all_n R n)) (ok__law_lines R (all_n R n))
end
end K16
set_option Elab.async false
set_option linter.all false
set_option maxRecDepth 100000
set_option maxHeartbeats 8000000
namespace K16
open PySem L2 Oz PyProof.Rows
def kz_PLACES : List (Str × Str) := [("new", "x"), ("free", "x"), ("copy", "xx"), ("nil", "x"), ("read", "xxf"), ("write", "xfx"), ("clear", "xf"), ("same", "xxk"), ("none", "xk"), ("maybe", "k"), ("go", "k")]
theorem kd_strs {G : Glb} : ∀ {es : List DictEntry} {kz : List (Str × Str)}, Paired (fun (e : DictEntry) (p : Str × Str) => (∃ t, e.key = .str p.1 t) ∧ ∃ t, e.val = .str p.2 t) es kz → Paired (fun (e : DictEntry) (p : Str × Vl) => (∃ t, e.key = .str p.1 t) ∧ ∃ v, RelV v e.val ∧ ∀ ρ H, VR G ρ H p.2 v) es (kz.map fun p => (p.1, Vl.str p.2))
  | _, _, .nil => .nil
  | _, _, .cons ⟨h1, t, h2⟩ r => .cons ⟨h1, .str _, ⟨t, h2⟩, fun _ _ => by simp only [VR]⟩ (kd_strs r)
theorem kit_rt {K : PySem.W.Frag} {C : Addr} {T : String} {b : Bool} (h : PySem.W.kitMeta T = true) (s : PySem.W.subIn K (.ref C) (.type T) = some b) : PySem.W.kitOne K (.ref C) (.type T) = some b := by
  unfold PySem.W.kitOne PySem.W.kitCls
  rw [if_neg (by intro z; cases beq_iff_eq.mp z)]
  dsimp only
  rw [if_pos h]; exact s
theorem kit_tr {K : PySem.W.Frag} {C : Addr} {T : String} {b : Bool} (i : PySem.W.isClsIn K C = true) (t : PySem.W.typeIn K (.ref C) = some (.type "type")) (s : PySem.W.subIn K (.type T) (.ref C) = some b) : PySem.W.kitOne K (.type T) (.ref C) = some b := by
  unfold PySem.W.kitOne PySem.W.kitCls
  rw [if_neg (by intro z; cases beq_iff_eq.mp z)]
  dsimp only
  rw [if_pos (by rw [t]; unfold PySem.W.isClsIn at i; rw [i]; rfl)]; exact s
theorem kit_rr {K : PySem.W.Frag} {C : Addr} : PySem.W.kitOne K (.ref C) (.ref C) = some true := by
  unfold PySem.W.kitOne
  rw [if_pos (beq_self_eq_true _)]
theorem all_mk {l : PySem.W.OpenLaw} {w : World} {K : PySem.W.Frag} {h : Heap} {mg : Str → Option Value} {fa : Addr} {p_FIELDS p_PLACES C f_is_word f_is_place f_is_row f_names_in D_Programu_initu f_Programu_initu f_Programu_equ f_Programu_lenu f_Program_row_rows f_Program_names f__law_cell f__law_digits f__law_same f__law_names f__law_kinds f__law_row f__law_lines f_law : Addr} {od_FIELDS od_is_word an_is_word od_is_place an_is_place od_is_row an_is_row od_names_in an_names_in od_Programu_initu an_Programu_initu od_Programu_equ an_Programu_equ od_Programu_lenu an_Programu_lenu od_Program_row_rows an_Program_row_rows od_Program_names an_Program_names od__law_cell an__law_cell od__law_digits an__law_digits od__law_same an__law_same od__law_names an__law_names od__law_kinds an__law_kinds od__law_row an__law_row od__law_lines an__law_lines od_law an_law : Option Addr} {its_FIELDS : Array Value} {n_FIELDS n_PLACES : Nat} {sl_FIELDS sl_is_word sl_is_place sl_is_row sl_names_in sl_Programu_initu sl_Programu_equ sl_Programu_lenu sl_Program_row_rows sl_Program_names sl__law_cell sl__law_digits sl__law_same sl__law_names sl__law_kinds sl__law_row sl__law_lines sl_law : Array (Option Value)} {es_PLACES : Array DictEntry} {kV_is_word oc_is_word dc_is_word pm_is_word cd_is_word ct_is_word kV_is_place oc_is_place dc_is_place pm_is_place cd_is_place ct_is_place kV_is_row oc_is_row dc_is_row pm_is_row cd_is_row ct_is_row kV_names_in oc_names_in dc_names_in pm_names_in cd_names_in ct_names_in oc_Programu_initu dc_Programu_initu pm_Programu_initu cd_Programu_initu ct_Programu_initu kV_Programu_equ oc_Programu_equ dc_Programu_equ pm_Programu_equ cd_Programu_equ ct_Programu_equ kV_Programu_lenu oc_Programu_lenu dc_Programu_lenu pm_Programu_lenu cd_Programu_lenu ct_Programu_lenu kV_Program_row_rows oc_Program_row_rows dc_Program_row_rows pm_Program_row_rows cd_Program_row_rows ct_Program_row_rows kV_Program_names oc_Program_names dc_Program_names pm_Program_names cd_Program_names ct_Program_names kV__law_cell oc__law_cell dc__law_cell pm__law_cell cd__law_cell ct__law_cell kV__law_digits oc__law_digits dc__law_digits pm__law_digits cd__law_digits ct__law_digits kV__law_same oc__law_same dc__law_same pm__law_same cd__law_same ct__law_same kV__law_names oc__law_names dc__law_names pm__law_names cd__law_names ct__law_names kV__law_kinds oc__law_kinds dc__law_kinds pm__law_kinds cd__law_kinds ct__law_kinds kV__law_row oc__law_row dc__law_row pm__law_row cd__law_row ct__law_row kV__law_lines oc__law_lines dc__law_lines pm__law_lines cd__law_lines ct__law_lines kV_law oc_law dc_law pm_law cd_law ct_law : Value} {t_MOST_NAMES : Tok} {t_MOST_ROWS : Tok} {t_LETTERS : Tok} (X : K.In h) (GG : h.Ns mainGlobals mg) (hfa : mg "law" = some (.ref fa))
    (hlaw : ∀ ns : List Int, ns.length ≤ 63 → ∃ T, exec (Mn 10) b_law (some (.lst (ns.map .int)) :: List.replicate 15 none) [] = .ret (.val (.bl true)) T)
    (z_len : PySem.W.nsIn K mainGlobals "len" = some none)
    (z_all : PySem.W.nsIn K mainGlobals "all" = some none)
    (z_tuple : PySem.W.nsIn K mainGlobals "tuple" = some none)
    (z_repr : PySem.W.nsIn K mainGlobals "repr" = some none)
    (z_isinstance : PySem.W.nsIn K mainGlobals "isinstance" = some none)
    (z_dict : PySem.W.nsIn K mainGlobals "dict" = some none)
    (z_list : PySem.W.nsIn K mainGlobals "list" = some none)
    (z_sorted : PySem.W.nsIn K mainGlobals "sorted" = some none)
    (z_set : PySem.W.nsIn K mainGlobals "set" = some none)
    (z_range : PySem.W.nsIn K mainGlobals "range" = some none)
    (z_zip : PySem.W.nsIn K mainGlobals "zip" = some none)
    (z_enumerate : PySem.W.nsIn K mainGlobals "enumerate" = some none)
    (a_FIELDS : PySem.W.nsIn K mainGlobals "FIELDS" = some (some (.ref p_FIELDS)))
    (l_FIELDS : K.lookup p_FIELDS = some ⟨.type "tuple", od_FIELDS, .seq its_FIELDS n_FIELDS, sl_FIELDS⟩)
    (w_FIELDS : its_FIELDS.size ≤ sizeLine ∧ Vals ([(.str "l"), (.str "r")] : List V) its_FIELDS.toList)
    (a_LETTERS : PySem.W.nsIn K mainGlobals "LETTERS" = some (some (.str "abcdefghijklmnopqrstuvwxyz" t_LETTERS)))
    (a_MOST_NAMES : PySem.W.nsIn K mainGlobals "MOST_NAMES" = some (some (.int 6 t_MOST_NAMES)))
    (a_MOST_ROWS : PySem.W.nsIn K mainGlobals "MOST_ROWS" = some (some (.int 24 t_MOST_ROWS)))
    (a_PLACES : PySem.W.nsIn K mainGlobals "PLACES" = some (some (.ref p_PLACES)))
    (l_PLACES : K.lookup p_PLACES = some ⟨.type "dict", none, .dict es_PLACES n_PLACES, #[]⟩)
    (i_PLACES : PySem.W.KeysLit w.params es_PLACES.toList)
    (j_PLACES : (p_PLACES == sysModules) = false)
    (w_PLACES : Paired (fun (e : DictEntry) (p : Str × Str) => (∃ t, e.key = .str p.1 t) ∧ ∃ t, e.val = .str p.2 t) es_PLACES.toList kz_PLACES)
    (aC : PySem.W.nsIn K mainGlobals "Program" = some (some (.ref C)))
    (pg : PySem.W.plainGet K C Str.empty = true)
    (hd : PySem.W.hasDictIn K C = true)
    (po : PySem.W.plainOver K C = true)
    (sa : PySem.W.findIn K (.ref C) "__setattr__" = some (some (.builtin "object.__setattr__")))
    (ha : PySem.W.findIn K (.ref C) "__class__" = some (some (.builtin "object.__class__")))
    (hn : PySem.W.specialIn K (.builtin "object.__class__") "__get__" = some (some (.builtin "getset_descriptor.__get__")))
    (htk : PySem.W.takesIn K (.builtin "object.__class__") = some true)
    (hm : PySem.W.mroIn K C (.type "object") = some true)
    (mk : PySem.W.makesIn K C = true)
    (kc : PySem.W.keepIn K (.ref C) = true)
    (ic : PySem.W.isClsIn K C = true)
    (tc : PySem.W.typeIn K (.ref C) = some (.type "type"))
    (sd : PySem.W.subIn K (.ref C) (.type "dict") = some false)
    (ne : PySem.W.findIn K (.ref C) "__ne__" = some (some (.builtin "object.__ne__")))
    (nf : PySem.W.notFirst K C (.type "list") = true)
    (s_NoneType : PySem.W.subIn K (.type "NoneType") (.ref C) = some false)
    (s_bool : PySem.W.subIn K (.type "bool") (.ref C) = some false)
    (s_int : PySem.W.subIn K (.type "int") (.ref C) = some false)
    (s_str : PySem.W.subIn K (.type "str") (.ref C) = some false)
    (s_tuple : PySem.W.subIn K (.type "tuple") (.ref C) = some false)
    (s_list : PySem.W.subIn K (.type "list") (.ref C) = some false)
    (s_dict : PySem.W.subIn K (.type "dict") (.ref C) = some false)
    (n_lines : PySem.W.findIn K (.ref C) "lines" = some none)
    (n_lossy : PySem.W.findIn K (.ref C) "lossy" = some none)
    (a_is_word : PySem.W.nsIn K mainGlobals "is_word" = some (some (.ref f_is_word)))
    (l_is_word : K.lookup f_is_word = some ⟨oc_is_word, od_is_word, .func (PySem.W.fnOf "is_word" "is_word" (defArgs s_is_word) (defBody s_is_word) (defScope s_is_word) .none kV_is_word dc_is_word pm_is_word an_is_word cd_is_word ct_is_word), sl_is_word⟩)
    (c_is_word : PySem.W.codeIn K cd_is_word "is_word" = true)
    (k_is_word : PySem.W.keepIn K (.ref f_is_word) = true)
    (a_is_place : PySem.W.nsIn K mainGlobals "is_place" = some (some (.ref f_is_place)))
    (l_is_place : K.lookup f_is_place = some ⟨oc_is_place, od_is_place, .func (PySem.W.fnOf "is_place" "is_place" (defArgs s_is_place) (defBody s_is_place) (defScope s_is_place) .none kV_is_place dc_is_place pm_is_place an_is_place cd_is_place ct_is_place), sl_is_place⟩)
    (c_is_place : PySem.W.codeIn K cd_is_place "is_place" = true)
    (k_is_place : PySem.W.keepIn K (.ref f_is_place) = true)
    (a_is_row : PySem.W.nsIn K mainGlobals "is_row" = some (some (.ref f_is_row)))
    (l_is_row : K.lookup f_is_row = some ⟨oc_is_row, od_is_row, .func (PySem.W.fnOf "is_row" "is_row" (defArgs s_is_row) (defBody s_is_row) (defScope s_is_row) .none kV_is_row dc_is_row pm_is_row an_is_row cd_is_row ct_is_row), sl_is_row⟩)
    (c_is_row : PySem.W.codeIn K cd_is_row "is_row" = true)
    (k_is_row : PySem.W.keepIn K (.ref f_is_row) = true)
    (a_names_in : PySem.W.nsIn K mainGlobals "names_in" = some (some (.ref f_names_in)))
    (l_names_in : K.lookup f_names_in = some ⟨oc_names_in, od_names_in, .func (PySem.W.fnOf "names_in" "names_in" (defArgs s_names_in) (defBody s_names_in) (defScope s_names_in) .none kV_names_in dc_names_in pm_names_in an_names_in cd_names_in ct_names_in), sl_names_in⟩)
    (c_names_in : PySem.W.codeIn K cd_names_in "names_in" = true)
    (k_names_in : PySem.W.keepIn K (.ref f_names_in) = true)
    (a_Programu_initu : PySem.W.findIn K (.ref C) "__init__" = some (some (.ref f_Programu_initu)))
    (g_Programu_initu : PySem.W.isFn K (.ref f_Programu_initu) = true)
    (l_Programu_initu : K.lookup f_Programu_initu = some ⟨oc_Programu_initu, od_Programu_initu, .func (PySem.W.fnOf "__init__" "Program.__init__" (defArgs s_Programu_initu) (defBody s_Programu_initu) (defScope s_Programu_initu) .none (.ref D_Programu_initu) dc_Programu_initu pm_Programu_initu an_Programu_initu cd_Programu_initu ct_Programu_initu), sl_Programu_initu⟩)
    (c_Programu_initu : PySem.W.codeIn K cd_Programu_initu "Program.__init__" = true)
    (k_Programu_initu : PySem.W.keepIn K (.ref f_Programu_initu) = true)
    (d_Programu_initu : PySem.W.nsIn K D_Programu_initu "lossy" = some (some (.bool false)))
    (a_Programu_equ : PySem.W.findIn K (.ref C) "__eq__" = some (some (.ref f_Programu_equ)))
    (g_Programu_equ : PySem.W.isFn K (.ref f_Programu_equ) = true)
    (l_Programu_equ : K.lookup f_Programu_equ = some ⟨oc_Programu_equ, od_Programu_equ, .func (PySem.W.fnOf "__eq__" "Program.__eq__" (defArgs s_Programu_equ) (defBody s_Programu_equ) (defScope s_Programu_equ) .none kV_Programu_equ dc_Programu_equ pm_Programu_equ an_Programu_equ cd_Programu_equ ct_Programu_equ), sl_Programu_equ⟩)
    (c_Programu_equ : PySem.W.codeIn K cd_Programu_equ "Program.__eq__" = true)
    (k_Programu_equ : PySem.W.keepIn K (.ref f_Programu_equ) = true)
    (a_Programu_lenu : PySem.W.findIn K (.ref C) "__len__" = some (some (.ref f_Programu_lenu)))
    (g_Programu_lenu : PySem.W.isFn K (.ref f_Programu_lenu) = true)
    (l_Programu_lenu : K.lookup f_Programu_lenu = some ⟨oc_Programu_lenu, od_Programu_lenu, .func (PySem.W.fnOf "__len__" "Program.__len__" (defArgs s_Programu_lenu) (defBody s_Programu_lenu) (defScope s_Programu_lenu) .none kV_Programu_lenu dc_Programu_lenu pm_Programu_lenu an_Programu_lenu cd_Programu_lenu ct_Programu_lenu), sl_Programu_lenu⟩)
    (c_Programu_lenu : PySem.W.codeIn K cd_Programu_lenu "Program.__len__" = true)
    (k_Programu_lenu : PySem.W.keepIn K (.ref f_Programu_lenu) = true)
    (a_Program_row_rows : PySem.W.findIn K (.ref C) "row_rows" = some (some (.ref f_Program_row_rows)))
    (g_Program_row_rows : PySem.W.isFn K (.ref f_Program_row_rows) = true)
    (l_Program_row_rows : K.lookup f_Program_row_rows = some ⟨oc_Program_row_rows, od_Program_row_rows, .func (PySem.W.fnOf "row_rows" "Program.row_rows" (defArgs s_Program_row_rows) (defBody s_Program_row_rows) (defScope s_Program_row_rows) .none kV_Program_row_rows dc_Program_row_rows pm_Program_row_rows an_Program_row_rows cd_Program_row_rows ct_Program_row_rows), sl_Program_row_rows⟩)
    (c_Program_row_rows : PySem.W.codeIn K cd_Program_row_rows "Program.row_rows" = true)
    (k_Program_row_rows : PySem.W.keepIn K (.ref f_Program_row_rows) = true)
    (a_Program_names : PySem.W.findIn K (.ref C) "names" = some (some (.ref f_Program_names)))
    (g_Program_names : PySem.W.isFn K (.ref f_Program_names) = true)
    (l_Program_names : K.lookup f_Program_names = some ⟨oc_Program_names, od_Program_names, .func (PySem.W.fnOf "names" "Program.names" (defArgs s_Program_names) (defBody s_Program_names) (defScope s_Program_names) .none kV_Program_names dc_Program_names pm_Program_names an_Program_names cd_Program_names ct_Program_names), sl_Program_names⟩)
    (c_Program_names : PySem.W.codeIn K cd_Program_names "Program.names" = true)
    (k_Program_names : PySem.W.keepIn K (.ref f_Program_names) = true)
    (a__law_cell : PySem.W.nsIn K mainGlobals "_law_cell" = some (some (.ref f__law_cell)))
    (l__law_cell : K.lookup f__law_cell = some ⟨oc__law_cell, od__law_cell, .func (PySem.W.fnOf "_law_cell" "_law_cell" (defArgs s__law_cell) (defBody s__law_cell) (defScope s__law_cell) .none kV__law_cell dc__law_cell pm__law_cell an__law_cell cd__law_cell ct__law_cell), sl__law_cell⟩)
    (c__law_cell : PySem.W.codeIn K cd__law_cell "_law_cell" = true)
    (k__law_cell : PySem.W.keepIn K (.ref f__law_cell) = true)
    (a__law_digits : PySem.W.nsIn K mainGlobals "_law_digits" = some (some (.ref f__law_digits)))
    (l__law_digits : K.lookup f__law_digits = some ⟨oc__law_digits, od__law_digits, .func (PySem.W.fnOf "_law_digits" "_law_digits" (defArgs s__law_digits) (defBody s__law_digits) (defScope s__law_digits) .none kV__law_digits dc__law_digits pm__law_digits an__law_digits cd__law_digits ct__law_digits), sl__law_digits⟩)
    (c__law_digits : PySem.W.codeIn K cd__law_digits "_law_digits" = true)
    (k__law_digits : PySem.W.keepIn K (.ref f__law_digits) = true)
    (a__law_same : PySem.W.nsIn K mainGlobals "_law_same" = some (some (.ref f__law_same)))
    (l__law_same : K.lookup f__law_same = some ⟨oc__law_same, od__law_same, .func (PySem.W.fnOf "_law_same" "_law_same" (defArgs s__law_same) (defBody s__law_same) (defScope s__law_same) .none kV__law_same dc__law_same pm__law_same an__law_same cd__law_same ct__law_same), sl__law_same⟩)
    (c__law_same : PySem.W.codeIn K cd__law_same "_law_same" = true)
    (k__law_same : PySem.W.keepIn K (.ref f__law_same) = true)
    (a__law_names : PySem.W.nsIn K mainGlobals "_law_names" = some (some (.ref f__law_names)))
    (l__law_names : K.lookup f__law_names = some ⟨oc__law_names, od__law_names, .func (PySem.W.fnOf "_law_names" "_law_names" (defArgs s__law_names) (defBody s__law_names) (defScope s__law_names) .none kV__law_names dc__law_names pm__law_names an__law_names cd__law_names ct__law_names), sl__law_names⟩)
    (c__law_names : PySem.W.codeIn K cd__law_names "_law_names" = true)
    (k__law_names : PySem.W.keepIn K (.ref f__law_names) = true)
    (a__law_kinds : PySem.W.nsIn K mainGlobals "_law_kinds" = some (some (.ref f__law_kinds)))
    (l__law_kinds : K.lookup f__law_kinds = some ⟨oc__law_kinds, od__law_kinds, .func (PySem.W.fnOf "_law_kinds" "_law_kinds" (defArgs s__law_kinds) (defBody s__law_kinds) (defScope s__law_kinds) .none kV__law_kinds dc__law_kinds pm__law_kinds an__law_kinds cd__law_kinds ct__law_kinds), sl__law_kinds⟩)
    (c__law_kinds : PySem.W.codeIn K cd__law_kinds "_law_kinds" = true)
    (k__law_kinds : PySem.W.keepIn K (.ref f__law_kinds) = true)
    (a__law_row : PySem.W.nsIn K mainGlobals "_law_row" = some (some (.ref f__law_row)))
    (l__law_row : K.lookup f__law_row = some ⟨oc__law_row, od__law_row, .func (PySem.W.fnOf "_law_row" "_law_row" (defArgs s__law_row) (defBody s__law_row) (defScope s__law_row) .none kV__law_row dc__law_row pm__law_row an__law_row cd__law_row ct__law_row), sl__law_row⟩)
    (c__law_row : PySem.W.codeIn K cd__law_row "_law_row" = true)
    (k__law_row : PySem.W.keepIn K (.ref f__law_row) = true)
    (a__law_lines : PySem.W.nsIn K mainGlobals "_law_lines" = some (some (.ref f__law_lines)))
    (l__law_lines : K.lookup f__law_lines = some ⟨oc__law_lines, od__law_lines, .func (PySem.W.fnOf "_law_lines" "_law_lines" (defArgs s__law_lines) (defBody s__law_lines) (defScope s__law_lines) .none kV__law_lines dc__law_lines pm__law_lines an__law_lines cd__law_lines ct__law_lines), sl__law_lines⟩)
    (c__law_lines : PySem.W.codeIn K cd__law_lines "_law_lines" = true)
    (k__law_lines : PySem.W.keepIn K (.ref f__law_lines) = true)
    (a_law : PySem.W.nsIn K mainGlobals "law" = some (some (.ref f_law)))
    (l_law : K.lookup f_law = some ⟨oc_law, od_law, .func (PySem.W.fnOf "law" "law" (defArgs s_law) (defBody s_law) (defScope s_law) .none kV_law dc_law pm_law an_law cd_law ct_law), sl_law⟩)
    (c_law : PySem.W.codeIn K cd_law "law" = true)
    (k_law : PySem.W.keepIn K (.ref f_law) = true)
    : ∃ fd : FuncData, (∀ (s : Shared) (u : Value), BindsTo s fd ⟨[u], []⟩ [("_law_script", u)]) ∧ ∀ base : Heap, K.In base → base.Ns mainGlobals mg → FnG l.prog w K mg base 44 fa fd ["_law_script"] (spEnd K 63) := by
  have e : f_law = fa := by
    cases hfa.symm.trans (PySem.W.mg_of X GG a_law)
    rfl
  subst e
  let R : Fx w mg ⟨K, fun _ => C⟩ := {
    b_len := PySem.W.mg_none_of X GG z_len
    b_all := PySem.W.mg_none_of X GG z_all
    b_tuple := PySem.W.mg_none_of X GG z_tuple
    b_repr := PySem.W.mg_none_of X GG z_repr
    b_isinstance := PySem.W.mg_none_of X GG z_isinstance
    b_dict := PySem.W.mg_none_of X GG z_dict
    b_list := PySem.W.mg_none_of X GG z_list
    b_sorted := PySem.W.mg_none_of X GG z_sorted
    b_set := PySem.W.mg_none_of X GG z_set
    b_range := PySem.W.mg_none_of X GG z_range
    b_zip := PySem.W.mg_none_of X GG z_zip
    b_enumerate := PySem.W.mg_none_of X GG z_enumerate
    v_FIELDS := .ref p_FIELDS
    u_FIELDS := .ref p_FIELDS
    m_FIELDS := PySem.W.mg_of X GG a_FIELDS
    r_FIELDS := rfl
    z_FIELDS := fun _ _ => by simp only [VR]; exact ⟨p_FIELDS, _, rfl, .inr (.inr ⟨_, its_FIELDS, n_FIELDS, l_FIELDS, rfl, rfl, w_FIELDS.1, w_FIELDS.2⟩), VRs.cons (by simp only [VR]) (VRs.cons (by simp only [VR]) VRs.nil)⟩
    v_LETTERS := .str "abcdefghijklmnopqrstuvwxyz"
    u_LETTERS := .str "abcdefghijklmnopqrstuvwxyz" t_LETTERS
    m_LETTERS := PySem.W.mg_of X GG a_LETTERS
    r_LETTERS := ⟨_, rfl⟩
    z_LETTERS := fun _ _ => by simp only [VR]
    v_MOST_NAMES := .int 6
    u_MOST_NAMES := .int 6 t_MOST_NAMES
    m_MOST_NAMES := PySem.W.mg_of X GG a_MOST_NAMES
    r_MOST_NAMES := ⟨_, rfl⟩
    z_MOST_NAMES := fun _ _ => by simp only [VR]
    v_MOST_ROWS := .int 24
    u_MOST_ROWS := .int 24 t_MOST_ROWS
    m_MOST_ROWS := PySem.W.mg_of X GG a_MOST_ROWS
    r_MOST_ROWS := ⟨_, rfl⟩
    z_MOST_ROWS := fun _ _ => by simp only [VR]
    k_PLACES := fun n => ⟨⟨p_PLACES, kv_PLACES, ⟨es_PLACES, n_PLACES, ⟨l_PLACES, i_PLACES, j_PLACES⟩, kd_strs w_PLACES⟩, kd_PLACES n, PySem.W.mg_of X GG a_PLACES⟩⟩
    hA := fun _ => ⟨⟨pg, hd, po, sa⟩, ha, hn, htk, hm⟩
    n_lines := fun _ => n_lines
    n_lossy := fun _ => n_lossy
    i_dict := ⟨kit_ty (by decide +kernel), kit_ty (by decide +kernel), kit_ty (by decide +kernel), kit_ty (by decide +kernel), kit_ty (by decide +kernel), kit_ty (by decide +kernel), kit_ty (by decide +kernel)⟩
    nd := fun _ => kit_rt (by decide +kernel) sd
    i_Program := ⟨kit_tr ic tc s_NoneType, kit_tr ic tc s_bool, kit_tr ic tc s_int, kit_tr ic tc s_str, kit_tr ic tc s_tuple, kit_tr ic tc s_list, kit_tr ic tc s_dict⟩
    own_Program := kit_rr
    m_Program := PySem.W.mg_of X GG aC
    mk_Program := mk
    kc_Program := kc
    ne_Program := ne
    nf_Program := nf
    f_is_word := f_is_word
    fd_is_word := PySem.W.fnOf "is_word" "is_word" (defArgs s_is_word) (defBody s_is_word) (defScope s_is_word) .none kV_is_word dc_is_word pm_is_word an_is_word cd_is_word ct_is_word
    F_is_word := fund_mk (st := s_is_word) l_is_word c_is_word k_is_word (.inl rfl)
    m_is_word := PySem.W.mg_of X GG a_is_word
    f_is_place := f_is_place
    fd_is_place := PySem.W.fnOf "is_place" "is_place" (defArgs s_is_place) (defBody s_is_place) (defScope s_is_place) .none kV_is_place dc_is_place pm_is_place an_is_place cd_is_place ct_is_place
    F_is_place := fund_mk (st := s_is_place) l_is_place c_is_place k_is_place (.inl rfl)
    m_is_place := PySem.W.mg_of X GG a_is_place
    f_is_row := f_is_row
    fd_is_row := PySem.W.fnOf "is_row" "is_row" (defArgs s_is_row) (defBody s_is_row) (defScope s_is_row) .none kV_is_row dc_is_row pm_is_row an_is_row cd_is_row ct_is_row
    F_is_row := fund_mk (st := s_is_row) l_is_row c_is_row k_is_row (.inl rfl)
    m_is_row := PySem.W.mg_of X GG a_is_row
    f_names_in := f_names_in
    fd_names_in := PySem.W.fnOf "names_in" "names_in" (defArgs s_names_in) (defBody s_names_in) (defScope s_names_in) .none kV_names_in dc_names_in pm_names_in an_names_in cd_names_in ct_names_in
    F_names_in := fund_mk (st := s_names_in) l_names_in c_names_in k_names_in (.inl rfl)
    m_names_in := PySem.W.mg_of X GG a_names_in
    f_Programu_initu := f_Programu_initu
    fd_Programu_initu := PySem.W.fnOf "__init__" "Program.__init__" (defArgs s_Programu_initu) (defBody s_Programu_initu) (defScope s_Programu_initu) .none (.ref D_Programu_initu) dc_Programu_initu pm_Programu_initu an_Programu_initu cd_Programu_initu ct_Programu_initu
    F_Programu_initu := fund_mk (st := s_Programu_initu) l_Programu_initu c_Programu_initu k_Programu_initu (.inr ⟨D_Programu_initu, rfl, fun p hp => by cases List.mem_singleton.mp hp; exact ⟨_, d_Programu_initu, rfl⟩⟩)
    a_Programu_initu := a_Programu_initu
    g_Programu_initu := g_Programu_initu
    f_Programu_equ := f_Programu_equ
    fd_Programu_equ := PySem.W.fnOf "__eq__" "Program.__eq__" (defArgs s_Programu_equ) (defBody s_Programu_equ) (defScope s_Programu_equ) .none kV_Programu_equ dc_Programu_equ pm_Programu_equ an_Programu_equ cd_Programu_equ ct_Programu_equ
    F_Programu_equ := fund_mk (st := s_Programu_equ) l_Programu_equ c_Programu_equ k_Programu_equ (.inl rfl)
    a_Programu_equ := a_Programu_equ
    g_Programu_equ := g_Programu_equ
    f_Programu_lenu := f_Programu_lenu
    fd_Programu_lenu := PySem.W.fnOf "__len__" "Program.__len__" (defArgs s_Programu_lenu) (defBody s_Programu_lenu) (defScope s_Programu_lenu) .none kV_Programu_lenu dc_Programu_lenu pm_Programu_lenu an_Programu_lenu cd_Programu_lenu ct_Programu_lenu
    F_Programu_lenu := fund_mk (st := s_Programu_lenu) l_Programu_lenu c_Programu_lenu k_Programu_lenu (.inl rfl)
    a_Programu_lenu := a_Programu_lenu
    g_Programu_lenu := g_Programu_lenu
    f_Program_row_rows := f_Program_row_rows
    fd_Program_row_rows := PySem.W.fnOf "row_rows" "Program.row_rows" (defArgs s_Program_row_rows) (defBody s_Program_row_rows) (defScope s_Program_row_rows) .none kV_Program_row_rows dc_Program_row_rows pm_Program_row_rows an_Program_row_rows cd_Program_row_rows ct_Program_row_rows
    F_Program_row_rows := fund_mk (st := s_Program_row_rows) l_Program_row_rows c_Program_row_rows k_Program_row_rows (.inl rfl)
    a_Program_row_rows := a_Program_row_rows
    g_Program_row_rows := g_Program_row_rows
    f_Program_names := f_Program_names
    fd_Program_names := PySem.W.fnOf "names" "Program.names" (defArgs s_Program_names) (defBody s_Program_names) (defScope s_Program_names) .none kV_Program_names dc_Program_names pm_Program_names an_Program_names cd_Program_names ct_Program_names
    F_Program_names := fund_mk (st := s_Program_names) l_Program_names c_Program_names k_Program_names (.inl rfl)
    a_Program_names := a_Program_names
    g_Program_names := g_Program_names
    f__law_cell := f__law_cell
    fd__law_cell := PySem.W.fnOf "_law_cell" "_law_cell" (defArgs s__law_cell) (defBody s__law_cell) (defScope s__law_cell) .none kV__law_cell dc__law_cell pm__law_cell an__law_cell cd__law_cell ct__law_cell
    F__law_cell := fund_mk (st := s__law_cell) l__law_cell c__law_cell k__law_cell (.inl rfl)
    m__law_cell := PySem.W.mg_of X GG a__law_cell
    f__law_digits := f__law_digits
    fd__law_digits := PySem.W.fnOf "_law_digits" "_law_digits" (defArgs s__law_digits) (defBody s__law_digits) (defScope s__law_digits) .none kV__law_digits dc__law_digits pm__law_digits an__law_digits cd__law_digits ct__law_digits
    F__law_digits := fund_mk (st := s__law_digits) l__law_digits c__law_digits k__law_digits (.inl rfl)
    m__law_digits := PySem.W.mg_of X GG a__law_digits
    f__law_same := f__law_same
    fd__law_same := PySem.W.fnOf "_law_same" "_law_same" (defArgs s__law_same) (defBody s__law_same) (defScope s__law_same) .none kV__law_same dc__law_same pm__law_same an__law_same cd__law_same ct__law_same
    F__law_same := fund_mk (st := s__law_same) l__law_same c__law_same k__law_same (.inl rfl)
    m__law_same := PySem.W.mg_of X GG a__law_same
    f__law_names := f__law_names
    fd__law_names := PySem.W.fnOf "_law_names" "_law_names" (defArgs s__law_names) (defBody s__law_names) (defScope s__law_names) .none kV__law_names dc__law_names pm__law_names an__law_names cd__law_names ct__law_names
    F__law_names := fund_mk (st := s__law_names) l__law_names c__law_names k__law_names (.inl rfl)
    m__law_names := PySem.W.mg_of X GG a__law_names
    f__law_kinds := f__law_kinds
    fd__law_kinds := PySem.W.fnOf "_law_kinds" "_law_kinds" (defArgs s__law_kinds) (defBody s__law_kinds) (defScope s__law_kinds) .none kV__law_kinds dc__law_kinds pm__law_kinds an__law_kinds cd__law_kinds ct__law_kinds
    F__law_kinds := fund_mk (st := s__law_kinds) l__law_kinds c__law_kinds k__law_kinds (.inl rfl)
    m__law_kinds := PySem.W.mg_of X GG a__law_kinds
    f__law_row := f__law_row
    fd__law_row := PySem.W.fnOf "_law_row" "_law_row" (defArgs s__law_row) (defBody s__law_row) (defScope s__law_row) .none kV__law_row dc__law_row pm__law_row an__law_row cd__law_row ct__law_row
    F__law_row := fund_mk (st := s__law_row) l__law_row c__law_row k__law_row (.inl rfl)
    m__law_row := PySem.W.mg_of X GG a__law_row
    f__law_lines := f__law_lines
    fd__law_lines := PySem.W.fnOf "_law_lines" "_law_lines" (defArgs s__law_lines) (defBody s__law_lines) (defScope s__law_lines) .none kV__law_lines dc__law_lines pm__law_lines an__law_lines cd__law_lines ct__law_lines
    F__law_lines := fund_mk (st := s__law_lines) l__law_lines c__law_lines k__law_lines (.inl rfl)
    m__law_lines := PySem.W.mg_of X GG a__law_lines
    f_law := f_law
    fd_law := PySem.W.fnOf "law" "law" (defArgs s_law) (defBody s_law) (defScope s_law) .none kV_law dc_law pm_law an_law cd_law ct_law
    F_law := fund_mk (st := s_law) l_law c_law k_law (.inl rfl)
    m_law := PySem.W.mg_of X GG a_law
  }
  exact ⟨R.fd_law, bndU (ps := ["_law_script"]) R.F_law fun _ _ _ _ _ _ _ => rfl, fun base _ _ => ok_law R (all_n R 10) hlaw⟩
end K16
set_option Elab.async false
set_option linter.all false
set_option maxRecDepth 100000
set_option maxHeartbeats 4000000
namespace K16
open PySem L2 Oz

def abc : Str := "abcdefghijklmnopqrstuvwxyz"
structure Word (z : Str) : Prop where
  lo : 1 ≤ z.length
  hi : z.length ≤ 6
  al : ∀ c ∈ z.cps.toList, c ∈ abc.cps.toList

theorem allB_true {α : Type} : ∀ xs : List α, allB (xs.map fun _ => Vl.bl true) = some (xs.map fun _ => true)
  | [] => rfl
  | x :: xs => by simp only [List.map_cons, allB, isBl, allB_true xs]
theorem all_map_true {α : Type} (xs : List α) : (xs.map fun _ => true).all id = true := by simp
theorem filterMap_some {α β : Type} (f : α → β) (xs : List α) : xs.filterMap (fun x => some (f x)) = xs.map f := by simp
theorem charsL_mem {z : Str} {x : Vl} (h : x ∈ charsL z) : ∃ c ∈ z.cps.toList, x = .str ⟨#[c]⟩ := by
  unfold charsL at h
  obtain ⟨c, h1, rfl⟩ := List.mem_map.mp h
  exact ⟨c, h1, rfl⟩
theorem charsL_len (z : Str) : (charsL z).length = z.length := by
  unfold charsL
  rw [List.length_map]; rfl
theorem small_sz {n : Nat} (h : n ≤ 1000000) : n ≤ sizeLine := Nat.le_trans h (by decide)

theorem e_is_word (n : Nat) {z : Str} (h : Word z) {a b c : Option Vl} (S : Hs) : evf (Mn n) q1_is_word [some (.str z), a, b, c] S = .ok (.lst ((charsL z).map fun _ => .bl true)) S := by
  unfold q1_is_word
  simp only [evf, evS, ev, Res.bind, List.getElem?_cons_zero]
  rw [compL_ok (fun _ => some (.bl true)) (lock_nil S) (charsL z) [] (by rw [charsL_len]; have := h.hi; simp; omega) (by simp only [nrs]) (fun x hx y hy => by cases hy; simp only [Vl.nr])
    (fun x hx acc ha => by
      obtain ⟨d, hd, rfl⟩ := charsL_mem hx
      have hd2 := h.al d hd
      simp only [bindT, wipeG, List.set_cons_succ, List.set_cons_zero, evAll, if_true, List.getElem?_cons_succ, List.getElem?_cons_zero, cmpop, memF, ofO, Res.bind]
      rw [if_pos (show (⟨#[d]⟩ : Str).length = 1 from rfl)]
      have e : decide (#[d].getD 0 0 ∈ (Str.ofString "abcdefghijklmnopqrstuvwxyz").cps.toList) = true := decide_eq_true hd2
      simp only [e])]
  rw [filterMap_some, List.nil_append]
theorem r_is_word (n : Nat) {z : Str} (h : Word z) {S : Hs} (hS : NR S) : (Mn (n + 1)).cal "is_word" [.str z, .int 1, .int 6] S = .ok (.val (.bl true)) S := by
  rw [u_is_word]
  refine cal_val (T := []) rfl ?_ hS (by simp only [Vl.nr])
  show exec (Mn n) b_is_word [some (.str z), some (.int 1), some (.int 6), none] S = _
  have h1 : z.length ≤ sizeLine := small_sz (by have := h.hi; omega)
  have h2 : decide ((1 : Int) ≤ z.length) = true := decide_eq_true (by have := h.lo; omega)
  have h3 : decide ((z.length : Int) ≤ 6) = true := decide_eq_true (by have := h.hi; omega)
  unfold b_is_word
  simp only [Oz.exec, exc1, ev, Res.bind, Res.out, ofO, List.getElem?_cons_zero, List.getElem?_cons_succ, b1op, cmpop, if_pos h1, h2, h3, if_true, e_is_word n h, Ob.inl, lstOf, Option.bind_some, allB_true, Option.map_some, all_map_true, List.append_nil]
/-! ### rows -/
def Nm (names : List Str) (x : Vl) : Prop := ∃ z ∈ names, x = .str z
/-- what a place of a row holds, by its kind -/
inductive Pl (names : List Str) (many : Int) : Nat → Vl → Prop
  | x (z : Str) : z ∈ names → Pl names many 120 (.str z)
  | f (z : Str) : z = "l" ∨ z = "r" → Pl names many 102 (.str z)
  | k (i : Int) : 0 ≤ i → i ≤ many → Pl names many 107 (.int i)
inductive Pls (names : List Str) (many : Int) : List Nat → List Vl → Prop
  | nil : Pls names many [] []
  | cons {c : Nat} {cs : List Nat} {x : Vl} {xs : List Vl} : Pl names many c x → Pls names many cs xs → Pls names many (c :: cs) (x :: xs)
def rowNames : List Nat → List Vl → List Str
  | c :: cs, x :: xs => (if c = 120 then (match x with | .str z => [z] | _ => []) else []) ++ rowNames cs xs
  | _, _ => []
def rn (v : Vl) : List Str := match v with
  | .tup (.str w :: xs) => (match kv_PLACES.lookup w with | some (.str k) => rowNames k.cps.toList xs | _ => [])
  | _ => []
structure Row (names : List Str) (many : Int) (v : Vl) : Prop where
  ex : ∃ (w k : Str) (xs : List Vl), v = .tup (.str w :: xs) ∧ kv_PLACES.lookup w = some (.str k) ∧ Pls names many k.cps.toList xs ∧ k.length ≤ 3 ∧ (rowNames k.cps.toList xs).length ≤ 2 ∧ w.length ≤ 5 ∧ PyData.strOk w = true
theorem Pls.len {names : List Str} {many : Int} : ∀ {cs : List Nat} {xs : List Vl}, Pls names many cs xs → cs.length = xs.length
  | _, _, .nil => rfl
  | _, _, .cons _ h => by simp only [List.length_cons, h.len]
theorem r_is_place (n : Nat) {names : List Str} (hw : ∀ z ∈ names, Word z) {many : Int} {c : Nat} {x : Vl} (h : Pl names many c x) {S : Hs} (hS : NR S) : (Mn (n + 2)).cal "is_place" [.str ⟨#[c]⟩, x, .int many] S = .ok (.val (.bl true)) S := by
  rw [u_is_place]
  refine cal_val (T := []) rfl ?_ hS (by simp only [Vl.nr])
  show exec (Mn (n + 1)) b_is_place [some (.str ⟨#[c]⟩), some x, some (.int many)] S = _
  unfold b_is_place
  cases h with
  | x z hz =>
    have e : decide ((⟨#[120]⟩ : Str) = Str.ofString "x") = true := by decide
    simp only [Oz.exec, exc1, ev, evs, Res.bind, Res.out, ofO, List.getElem?_cons_zero, List.getElem?_cons_succ, cmpop, eqop, eqS, e, calV, r_is_word n (hw z hz) hS, Rv.v, List.append_nil]
  | f z hz =>
    have e : decide ((⟨#[102]⟩ : Str) = Str.ofString "x") = false := by decide
    have e2 : decide ((⟨#[102]⟩ : Str) = Str.ofString "f") = true := by decide
    have e3 : (eqF (.str (Str.ofString "l")) (.str z) || (eqF (.str (Str.ofString "r")) (.str z) || false)) = true := by
      rcases hz with rfl | rfl <;> decide
    simp only [Oz.exec, exc1, ev, evs, Res.bind, Res.out, ofO, List.getElem?_cons_zero, List.getElem?_cons_succ, cmpop, eqop, eqS, e, e2, memF, dctOf, seqOf, Vl.flat, List.all_cons, List.all_nil, List.any_cons, List.any_nil, Bool.and_self, if_true, e3, List.append_nil]
  | k i h0 h1 =>
    have e : decide ((⟨#[107]⟩ : Str) = Str.ofString "x") = false := by decide
    have e2 : decide ((⟨#[107]⟩ : Str) = Str.ofString "f") = false := by decide
    simp only [Oz.exec, exc1, ev, evs, Res.bind, Res.out, ofO, List.getElem?_cons_zero, List.getElem?_cons_succ, cmpop, eqop, eqS, e, e2, decide_eq_true h0, decide_eq_true h1, if_true, List.append_nil]
def zc (cs : List Nat) : List Vl := cs.map fun c => .str ⟨#[c]⟩
theorem zip_len : ∀ (cs : List Nat) (xs : List Vl), (zipL (zc cs) xs).length ≤ cs.length
  | [], _ => by simp [zc, zipL]
  | _ :: _, [] => by simp [zc, zipL]
  | c :: cs, x :: xs => by have := zip_len cs xs; simp only [zc, List.map_cons, zipL, List.length_cons] at this ⊢; omega
theorem zip_mem {names : List Str} {many : Int} : ∀ {cs : List Nat} {xs : List Vl}, Pls names many cs xs → ∀ p ∈ zipL (zc cs) xs, ∃ c x, p = .tup [.str ⟨#[c]⟩, x] ∧ Pl names many c x
  | _, _, .nil, p, hp => by simp [zc, zipL] at hp
  | c :: cs, x :: xs, .cons h r, p, hp => by
    simp only [zc, List.map_cons, zipL] at hp
    rcases List.mem_cons.mp hp with rfl | hp
    · exact ⟨c, x, rfl, h⟩
    · exact zip_mem r p hp
theorem e_is_row (n : Nat) {names : List Str} (hw : ∀ z ∈ names, Word z) {many : Int} {w k : Str} {xs : List Vl} (hk : kv_PLACES.lookup w = some (.str k)) (hp : Pls names many k.cps.toList xs) (h3 : k.length ≤ 3) {a b c : Option Vl} {S : Hs} (hS : NR S) :
    evf (Mn (n + 2)) q1_is_row [a, some (.int many), some (.str w), some (.lst xs), b, c] S = .ok (.lst ((zipL (charsL k) xs).map fun _ => .bl true)) S := by
  unfold q1_is_row
  simp only [evf, evS, ev, Res.bind, List.getElem?_cons_zero, List.getElem?_cons_succ, kd_PLACES, hk, ofO, walkT, walkS, List.append_nil]
  rw [compL_ok (fun _ => some (.bl true)) (lock_nil S) (zipL (charsL k) xs) [] (by have := zip_len k.cps.toList xs; have e : k.cps.toList.length = k.length := rfl; simp only [List.length_nil, Nat.zero_add]; exact Nat.le_trans this (by omega)) (by simp only [nrs]) (fun x hx y hy => by cases hy; simp only [Vl.nr])
    (fun x hx acc ha => by
      obtain ⟨d, y, rfl, hy⟩ := zip_mem hp x hx
      have hS2 : NR (S ++ [.lst acc]) := hS.one ha
      simp only [bindT, bindTs, wipeG, List.set_cons_succ, List.set_cons_zero, evAll, if_true, ev, evs, List.getElem?_cons_succ, List.getElem?_cons_zero, Res.bind, calV, r_is_place n hw hy hS2, Rv.v])]
  rw [filterMap_some, List.nil_append]
theorem r_is_row (n : Nat) {names : List Str} (hw : ∀ z ∈ names, Word z) {many : Int} {v : Vl} (h : Row names many v) {S : Hs} (hS : NR S) : (Mn (n + 3)).cal "is_row" [v, .int many] S = .ok (.val (.bl true)) S := by
  obtain ⟨w, k, xs, rfl, hk, hp, h3, _⟩ := h.ex
  rw [u_is_row]
  refine cal_val (T := []) rfl ?_ hS (by simp only [Vl.nr])
  show exec (Mn (n + 2)) b_is_row [some (.tup (.str w :: xs)), some (.int many), none, none, none, none] S = _
  unfold b_is_row
  have e0 : decide ((((Vl.str w :: xs).length : Nat) : Int) = 0) = false := decide_eq_false (by simp only [List.length_cons]; omega)
  have e1 : atI (Vl.str w :: xs) 0 = some (.str w) := atI_nat (j := 0) rfl
  have e2 : k.length ≤ sizeLine := small_sz (by omega)
  have e3 : decide (((xs.length : Nat) : Int) = (k.length : Int)) = true := decide_eq_true (by have := hp.len; have e : k.cps.toList.length = k.length := rfl; omega)
  simp only [Oz.exec, exc1, ev, evs, evf, Res.bind, Res.out, ofO, List.getElem?_cons_zero, List.getElem?_cons_succ, cmpop, eqop, eqS, b1op, dctOf, seqOf, Option.map_some, e0, idxop, e1, kd_PLACES, hk, Option.isSome_some, Bool.not_true, if_true, bindN, List.set_cons_zero, List.set_cons_succ, if_pos e2, e3,
    e_is_row n hw hk hp h3 hS, Ob.inl, lstOf, Option.bind_some, allB_true, all_map_true, List.append_nil]
/-! ### names -/
theorem flat_names {names : List Str} {many : Int} : ∀ {cs : List Nat} {xs : List Vl}, Pls names many cs xs → (zipL (zc cs) xs).flatMap (fun p => match p with | .tup [.str c, .str z] => if c = "x" then [z] else [] | _ => []) = rowNames cs xs
  | _, _, .nil => by simp [zc, zipL, rowNames]
  | c :: cs, x :: xs, .cons h r => by
    have ih := flat_names r
    simp only [zc, List.map_cons, zipL, List.flatMap_cons, rowNames] at ih ⊢
    rw [ih]
    cases h with
    | x z hz =>
      have e2 : (⟨#[120]⟩ : Str) = Str.ofString "x" := by decide
      simp only [if_pos e2, if_true]
    | f z hz =>
      have e2 : ¬ (⟨#[102]⟩ : Str) = Str.ofString "x" := by decide
      simp only [if_neg e2]
      simp
    | k i h0 h1 => simp
theorem cut1 {v : Vl} {xs : List Vl} : sltop (.tup (v :: xs)) (some 1) none = some (.tup xs) := by
  unfold sltop
  simp only [HT.sIx_none]
  have e : HT.sIx (v :: xs).length 0 (some (1 : Int)) = 1 := by
    rw [show HT.sIx (v :: xs).length 0 (some (1 : Int)) = min 1 (v :: xs).length from HT.sIx_nat _ _ 1]
    simp only [List.length_cons]; omega
  rw [if_neg (by rw [e]; simp)]
  unfold Oz.cutG
  rw [e, HT.sIx_none]
  simp
theorem e_names_in (n : Nat) {names : List Str} {many : Int} {rows : List Vl} (h : ∀ v ∈ rows, Row names many v) {a b c : Option Vl} {v : Vl} {lk : List Lk} {S : Hs} (hv : walkS S v = some (lk, rows)) (hl : lockd lk S) (hn : (rows.flatMap rn).length < 64) :
    evf (Mn n) q1_names_in [some v, a, b, c] S = .ok (.lst ((sortStr (dedupS (rows.flatMap rn))).map .str)) S := by
  unfold q1_names_in
  simp only [evf, evS, ev, Res.bind, List.getElem?_cons_zero, hv, ofO]
  rw [compS_ok rn hl rows fun y hy => ?_]
  · simp only
    rw [if_pos hn]
  · obtain ⟨w, k, xs, rfl, hk, hp, h3, _⟩ := (h y hy).ex
    have e1 : atI (Vl.str w :: xs) 0 = some (.str w) := atI_nat (j := 0) rfl
    simp only [bindT, wipeG, List.set_cons_succ, List.set_cons_zero, evAll, if_true, evo, ev, List.getElem?_cons_succ, List.getElem?_cons_zero, Res.bind, ofO, idxop, dctOf, seqOf, e1, kd_PLACES, hk, walkT, walkS, cut1, List.append_nil]
    refine (compS_ok (fun p => match p with | .tup [.str c, .str z] => if c = "x" then [z] else [] | _ => []) (lock_nil S) (zipL (charsL k) xs) (fun p hq => ?_)).trans ?_
    · obtain ⟨c, y, rfl, hy⟩ := zip_mem hp p hq
      cases hy with
      | x z hz =>
        have e : decide ((⟨#[120]⟩ : Str) = Str.ofString "x") = true := by decide
        have e2 : (⟨#[120]⟩ : Str) = Str.ofString "x" := by decide
        simp only [bindT, bindTs, List.set_cons_succ, List.set_cons_zero, List.getElem?_cons_succ, List.getElem?_cons_zero, cmpop, eqop, eqS, e, if_pos e2, if_true]
      | f z hz =>
        have e : decide ((⟨#[102]⟩ : Str) = Str.ofString "x") = false := by decide
        have e2 : ¬ (⟨#[102]⟩ : Str) = Str.ofString "x" := by decide
        simp only [bindT, bindTs, List.set_cons_succ, List.set_cons_zero, List.getElem?_cons_succ, List.getElem?_cons_zero, cmpop, eqop, eqS, e, if_neg e2, Bool.false_eq_true, if_false]
      | k i h0 h1 =>
        have e : decide ((⟨#[107]⟩ : Str) = Str.ofString "x") = false := by decide
        simp only [bindT, bindTs, List.set_cons_succ, List.set_cons_zero, List.getElem?_cons_succ, List.getElem?_cons_zero, cmpop, eqop, eqS, e, Bool.false_eq_true, if_false]
    · have e : (zipL (charsL k) xs).flatMap (fun p => match p with | .tup [.str c, .str z] => if c = "x" then [z] else [] | _ => []) = rn (.tup (.str w :: xs)) := by
        simp only [rn, hk]
        exact flat_names hp
      rw [e]
theorem r_names_in (n : Nat) {names : List Str} {many : Int} {rows : List Vl} (h : ∀ v ∈ rows, Row names many v) {v : Vl} {lk : List Lk} {S : Hs} (hS : NR S) (hv : walkS S v = some (lk, rows)) (hl : lockd lk S) (hn : (rows.flatMap rn).length < 64) :
    (Mn (n + 1)).cal "names_in" [v] S = .ok (.frs (.lst ((sortStr (dedupS (rows.flatMap rn))).map .str))) S := by
  rw [u_names_in]
  refine cal_frs (T := []) rfl ?_ hS (nrs_map_str _)
  show exec (Mn n) b_names_in [some v, none, none, none] S = _
  unfold b_names_in
  simp only [Oz.exec, exc1, Res.out, e_names_in n h hv hl hn, List.append_nil]

/-! ### sets -/
theorem dedup_mem {z : Str} : ∀ {xs : List Str}, z ∈ dedupS xs ↔ z ∈ xs
  | [] => by simp [dedupS]
  | x :: xs => by
    unfold dedupS
    by_cases h : x ∈ xs
    · rw [if_pos h, dedup_mem]
      constructor
      · exact fun q => List.mem_cons_of_mem _ q
      · intro q
        rcases List.mem_cons.mp q with rfl | q
        · exact h
        · exact q
    · rw [if_neg h, List.mem_cons, List.mem_cons, dedup_mem]
theorem dedup_nodup : ∀ xs : List Str, (dedupS xs).Nodup
  | [] => by simp [dedupS]
  | x :: xs => by
    unfold dedupS
    by_cases h : x ∈ xs
    · rw [if_pos h]; exact dedup_nodup xs
    · rw [if_neg h, List.nodup_cons]
      exact ⟨fun q => h (dedup_mem.mp q), dedup_nodup xs⟩
theorem ins_len (x : Str) : ∀ xs : List Str, (insStr x xs).length = xs.length + 1
  | [] => rfl
  | y :: ys => by
    unfold insStr
    split
    · simp only [List.length_cons, ins_len x ys]
    · rfl
theorem sort_len : ∀ xs : List Str, (sortStr xs).length = xs.length
  | [] => rfl
  | x :: xs => by unfold sortStr; rw [ins_len, sort_len xs]; rfl
theorem ins_mem {z x : Str} : ∀ {xs : List Str}, z ∈ insStr x xs ↔ z = x ∨ z ∈ xs
  | [] => by simp [insStr]
  | y :: ys => by
    unfold insStr
    split
    · rw [List.mem_cons, ins_mem, List.mem_cons]
      constructor <;> rintro (h | h | h) <;> simp [h]
    · rw [List.mem_cons]
theorem sort_mem {z : Str} : ∀ {xs : List Str}, z ∈ sortStr xs ↔ z ∈ xs
  | [] => by simp [sortStr]
  | x :: xs => by unfold sortStr; rw [ins_mem, sort_mem, List.mem_cons]
theorem nodup_len {α : Type} [DecidableEq α] : ∀ {xs ys : List α}, xs.Nodup → (∀ x ∈ xs, x ∈ ys) → xs.length ≤ ys.length
  | [], _, _, _ => Nat.zero_le _
  | x :: xs, ys, h, k => by
    rw [List.nodup_cons] at h
    have hx := k x (List.mem_cons_self ..)
    have := nodup_len (ys := ys.erase x) h.2 fun y hy => (List.mem_erase_of_ne fun e => h.1 (by rw [← e]; exact hy)).mpr (k y (List.mem_cons_of_mem _ hy))
    rw [List.length_erase_of_mem hx] at this
    have := List.length_pos_of_mem hx
    simp only [List.length_cons]; omega
theorem set_len {xs ys : List Str} (h : ∀ x ∈ xs, x ∈ ys) : (sortStr (dedupS xs)).length ≤ ys.length := by
  rw [sort_len]
  exact nodup_len (dedup_nodup xs) fun x hx => h x (dedup_mem.mp hx)
theorem rowNames_mem {names : List Str} {many : Int} : ∀ {cs : List Nat} {xs : List Vl}, Pls names many cs xs → ∀ z ∈ rowNames cs xs, z ∈ names
  | _, _, .nil, z, h => by simp [rowNames] at h
  | c :: cs, x :: xs, .cons h r, z, hz => by
    simp only [rowNames] at hz
    rcases List.mem_append.mp hz with q | q
    · cases h with
      | x w hw => simp at q; rw [q]; exact hw
      | f w hw => simp at q
      | k i h0 h1 => simp at q
    · exact rowNames_mem r z q
theorem rn_mem {names : List Str} {many : Int} {rows : List Vl} (h : ∀ v ∈ rows, Row names many v) : ∀ z ∈ rows.flatMap rn, z ∈ names := fun z hz => by
  obtain ⟨v, hv, q⟩ := List.mem_flatMap.mp hz
  obtain ⟨w, k, xs, rfl, hk, hp, _⟩ := (h v hv).ex
  simp only [rn, hk] at q
  exact rowNames_mem hp z q
theorem rn_len {names : List Str} {many : Int} : ∀ {rows : List Vl}, (∀ v ∈ rows, Row names many v) → (rows.flatMap rn).length ≤ 2 * rows.length
  | [], _ => by simp
  | v :: rows, h => by
    obtain ⟨w, k, xs, rfl, hk, hp, _, h2, _⟩ := (h v (List.mem_cons_self ..)).ex
    have := rn_len fun y hy => h y (List.mem_cons_of_mem _ hy)
    rw [List.flatMap_cons, List.length_append, List.length_cons]
    have e : rn (.tup (.str w :: xs)) = rowNames k.cps.toList xs := by simp only [rn, hk]
    rw [e]; omega
theorem Pl.nr {names : List Str} {many : Int} {c : Nat} {x : Vl} (h : Pl names many c x) : x.nr = true := by cases h <;> simp only [Vl.nr]
theorem Pls.nr {names : List Str} {many : Int} : ∀ {cs : List Nat} {xs : List Vl}, Pls names many cs xs → nrs xs = true
  | _, _, .nil => by simp only [nrs]
  | _, _, .cons h r => by simp only [nrs, h.nr, r.nr, Bool.and_self]
theorem Row.nr {names : List Str} {many : Int} {v : Vl} (h : Row names many v) : v.nr = true := by
  obtain ⟨w, k, xs, rfl, hk, hp, _⟩ := h.ex
  simp only [Vl.nr, nrs, hp.nr, Bool.and_self]
theorem rows_nr {names : List Str} {many : Int} {rows : List Vl} (h : ∀ v ∈ rows, Row names many v) : nrs rows = true := nrs_of fun v hv => (h v hv).nr
theorem Row.tup {names : List Str} {many : Int} {v : Vl} (h : Row names many v) (S : Hs) : b1op .tuple S v = some v := by
  obtain ⟨w, k, xs, rfl, _⟩ := h.ex
  rfl
/-! ### Program -/
def prog (rows : List Vl) (b : Bool) : Ob := .ins "Program" ["lines", "lossy"] [.lst rows, .bl b]
theorem prog_nr {names : List Str} {many : Int} {rows : List Vl} (h : ∀ v ∈ rows, Row names many v) (b : Bool) : (prog rows b).nr = true := by
  simp only [prog, Ob.nr, nrs, Vl.nr, rows_nr h, Bool.and_self]
theorem walk_len {S : Hs} {v : Vl} {lk : List Lk} {rows : List Vl} (h : walkS S v = some (lk, rows)) : b1op .len S v = some (.int rows.length) := by
  cases v with
  | tup xs => simp only [walkS] at h; cases h; rfl
  | lst xs => simp only [walkS] at h; cases h; rfl
  | ref r =>
    simp only [walkS] at h
    split at h
    · rename_i xs e
      cases h
      simp only [b1op, dctOf, seqOf, e, Option.map_some]
    · cases h
  | _ => simp [walkS] at h
theorem enum_at {rows : List Vl} {i : Nat} {x : Vl} (h : (enumL 0 rows)[i]? = some x) : ∃ v ∈ rows, x = .tup [.int i, v] := by
  obtain ⟨a, h1, h2⟩ := enumL_at h
  exact ⟨a, List.mem_of_getElem? h1, by rw [h2, Int.zero_add]⟩
theorem r_init (n : Nat) {names : List Str} (hw : ∀ z ∈ names, Word z) (h6 : names.length ≤ 6) {rows : List Vl} (h : ∀ v ∈ rows, Row names rows.length v) (h1 : 1 ≤ rows.length) (h24 : rows.length ≤ 24) {v : Vl} {lk : List Lk} {S : Hs} (hS : NR S) (b : Bool) (hv : walkS (S ++ [.ins "Program" [] []]) v = some (lk, rows)) (hl : lockd lk (S ++ [.ins "Program" [] []])) :
    (Mn (n + 4)).cal (dot "Program" "__init__") [.ref S.length, v, .bl b] (S ++ [.ins "Program" [] []]) = .ok (.val .non) (S ++ [prog rows b]) := by
  rw [u_Programu_initu]
  refine cal_init rfl ?_ hS (prog_nr h b)
  show ∃ η, exec (Mn (n + 3)) b_Programu_initu [some (.ref S.length), some v, some (.bl b), none, none] _ = _
  have hS0 : NR (S ++ [.ins "Program" [] []]) := hS.one (by simp only [Ob.nr, nrs])
  obtain ⟨η', S', e1, e2, a3, a4, e3⟩ := for_ok (body := fun η1 S2 => Oz.exec (Mn (n + 3)) w1_Programu_initu η1 S2) (t := .tp (.cons (.nm 3) (.cons (.nm 4) .nil))) (lk := lk) (xs := enumL 0 rows) (η := [some (.ref S.length), some v, some (.bl b), none, none]) (S := S ++ [.ins "Program" [] []])
    (fun i η T => T = S ++ [.ins "Program" [] []] ∧ ∃ a3 a4, η = [some (.ref S.length), some v, some (.bl b), a3, a4]) ⟨rfl, _, _, rfl⟩ (fun i η T q => by rw [q.1]; exact hl)
    (fun i x η T ex ⟨q1, a3, a4, q2⟩ => by
      subst q1 q2
      obtain ⟨y, hy, rfl⟩ := enum_at ex
      refine ⟨_, rfl, [some (.ref S.length), some v, some (.bl b), some (.int i), some y], S ++ [.ins "Program" [] []], .inl ?_, rfl, _, _, rfl⟩
      have hc := r_is_row n hw (h y hy) hS0
      unfold w1_Programu_initu
      simp only [Oz.exec, exc1, ev, evs, Res.bind, Res.out, ofO, List.set_cons_zero, List.set_cons_succ, List.getElem?_cons_zero, List.getElem?_cons_succ, walk_len hv, calV, hc, Rv.v, Bool.not_true])
  subst e2 e3
  have hN := r_names_in (n + 2) h hS0 hv hl (by have := rn_len h; omega)
  have hc : decide ((6 : Int) < ((((sortStr (dedupS (rows.flatMap rn))).map Vl.str).length : Nat) : Int)) = false := decide_eq_false (by
    have := set_len (rn_mem h)
    rw [List.length_map]; omega)
  have d1 : decide ((1 : Int) ≤ (rows.length : Int)) = true := decide_eq_true (by omega)
  have d2 : decide ((rows.length : Int) ≤ (24 : Int)) = true := decide_eq_true (by omega)
  have hq : evf (Mn (n + 3)) q2_Programu_initu [some (.ref S.length), some v, some (.bl b), a3, a4] (S ++ [.ins "Program" [] []]) = .ok (.lst rows) (S ++ [.ins "Program" [] []]) := by
    unfold q2_Programu_initu
    simp only [evf, evS, ev, Res.bind, List.getElem?_cons_zero, List.getElem?_cons_succ, hv, ofO]
    rw [compL_ok (fun x => some x) hl rows [] (by simp; omega) (by simp only [nrs]) (fun x hx y hy => by cases hy; exact (h x hx).nr) (fun x hx acc ha => by
      simp only [bindT, wipeG, List.set_cons_succ, List.set_cons_zero, evAll, if_true, ev, List.getElem?_cons_succ, List.getElem?_cons_zero, (h x hx).tup, Res.bind, ofO])]
    simp
  unfold b_Programu_initu
  simp only [Oz.exec, exc1, ev, evs, evS, Res.bind, Res.out, ofO, List.getElem?_cons_zero, List.getElem?_cons_succ, walk_len hv, hv, cmpop, d1, d2, if_true, Bool.not_true, e1, calV, hN, Rv.v, Ob.inl, len_lst, hc, hq, List.getElem?_concat_length, List.length_nil, putG, set_last, List.length_cons, Nat.reduceAdd, Nat.reduceLT]
  rw [if_neg (by decide)]
  exact ⟨_, rfl⟩
theorem lock_walk {S T : Hs} {v : Vl} {lk : List Lk} {rows : List Vl} (h : walkS S v = some (lk, rows)) : walkS (S ++ T) v = some (lk, rows) := by
  cases v with
  | ref r =>
    simp only [walkS] at h ⊢
    split at h
    · rename_i xs e
      rw [List.getElem?_append_left (List.getElem?_eq_some_iff.mp e).1, e]
      exact h
    · cases h
  | _ => exact h
theorem lock_of {S : Hs} {v : Vl} {lk : List Lk} {rows : List Vl} (h : walkS S v = some (lk, rows)) : lockd lk S := by
  cases v with
  | tup xs => simp only [walkS] at h; cases h; exact lock_nil S
  | lst xs => simp only [walkS] at h; cases h; exact lock_nil S
  | ref r =>
    simp only [walkS] at h
    split at h
    · rename_i xs e
      cases h
      intro p hp
      simp at hp
      subst hp
      exact e
    · cases h
  | _ => simp [walkS] at h
/-- rows of which a program may be made -/
structure Rows (names : List Str) (rows : List Vl) : Prop where
  w : ∀ z ∈ names, Word z
  n6 : names.length ≤ 6
  ok : ∀ v ∈ rows, Row names rows.length v
  lo : 1 ≤ rows.length
  hi : rows.length ≤ 24
theorem e_new (n : Nat) {names : List Str} {rows : List Vl} (R : Rows names rows) {es : Es} {η : Sg} {v : Vl} {lk : List Lk} {S : Hs} (hS : NR S) (b : Bool) (hes : evs (Mn (n + 4)) es η S = .ok [v, .bl b] S) (hv : walkS S v = some (lk, rows)) : evf (Mn (n + 4)) (.new "Program" es) η S = .ok (prog rows b) S := by
  have h1 := lock_walk (T := [.ins "Program" [] []]) hv
  have := r_init n R.w R.n6 R.ok R.lo R.hi hS b h1 (lock_of h1)
  simp only [evf, hes, Res.bind, this]
  exact newR_done hS (prog_nr R.ok b)
/-- a program's fields -/
structure IsP (S : Hs) (x : Vl) (rows : List Vl) (b : Bool) : Prop where
  ins : insOf S x = some (("Program" : Str), (["lines", "lossy"] : List Str), ([.lst rows, .bl b] : List Vl))
theorem isP_obj (S : Hs) (rows : List Vl) (b : Bool) : IsP S (prog rows b).inl rows b := ⟨rfl⟩
theorem isP_ref {S : Hs} {r : Nat} {rows : List Vl} {b : Bool} (h : S[r]? = some (prog rows b)) : IsP S (.ref r) rows b := ⟨by simp only [insOf, h, prog]⟩
section
variable {names : List Str} {rows rows2 : List Vl} {b b2 : Bool} {x y : Vl} {S : Hs}
theorem look_lines {u v : Vl} : lookG (["lines", "lossy"] : List Str) [u, v] "lines" = some u := by
  unfold lookG; rw [if_pos rfl]
theorem look_lossy {u v : Vl} : lookG (["lines", "lossy"] : List Str) [u, v] "lossy" = some v := by
  unfold lookG; rw [if_neg (by decide)]; unfold lookG; rw [if_pos rfl]
theorem IsP.hasM (h : IsP S x rows b) {m : Str} (hm : ((["lines", "lossy"] : List Str).contains m) = false) : Oz.hasM S x "Program" m = true := by
  simp only [Oz.hasM, h.ins, decide_true, hm, Bool.not_false, Bool.and_self]
theorem r_row_rows (n : Nat) (hS : NR S) (hr : nrs rows = true) (h : IsP S x rows b) : (Mn (n + 1)).cal (dot "Program" "row_rows") [x] S = .ok (.frs (.lst rows)) S := by
  rw [u_Program_row_rows]
  refine cal_frs (T := []) rfl ?_ hS hr
  show exec (Mn n) b_Program_row_rows [some x] S = _
  unfold b_Program_row_rows
  simp only [Oz.exec, exc1, evf, ev, Res.out, Res.bind, List.getElem?_cons_zero, h.ins, ofO, look_lines, seqOf, List.append_nil]
theorem r_names (n : Nat) (hS : NR S) (R : Rows names rows) (h : IsP S x rows b) : (Mn (n + 2)).cal (dot "Program" "names") [x] S = .ok (.frs (.lst ((sortStr (dedupS (rows.flatMap rn))).map .str))) S := by
  rw [u_Program_names]
  refine cal_frs (T := []) rfl ?_ hS (nrs_map_str _)
  show exec (Mn (n + 1)) b_Program_names [some x] S = _
  unfold b_Program_names
  have hN := r_names_in n R.ok hS (v := .lst rows) (lk := []) rfl (lock_nil S) (by have := rn_len R.ok; have := R.hi; omega)
  simp only [Oz.exec, exc1, evf, evs, ev, Res.out, Res.bind, List.getElem?_cons_zero, h.ins, ofO, look_lines, hN, List.append_nil]
theorem r_len (n : Nat) (hS : NR S) (h : IsP S x rows b) : (Mn (n + 1)).cal (dot "Program" "__len__") [x] S = .ok (.val (.int rows.length)) S := by
  rw [u_Programu_lenu]
  refine cal_val (T := []) rfl ?_ hS (by simp only [Vl.nr])
  show exec (Mn n) b_Programu_lenu [some x] S = _
  unfold b_Programu_lenu
  simp only [Oz.exec, exc1, ev, Res.out, Res.bind, List.getElem?_cons_zero, h.ins, ofO, look_lines, len_lst, List.append_nil]
theorem r_eq (n : Nat) (hS : NR S) (h : IsP S x rows b) (k : IsP S y rows2 b2) {e : Bool} (he : dataEq S (.lst rows) (.lst rows2) = some e) : (Mn (n + 1)).cal (dot "Program" "__eq__") [x, y] S = .ok (.val (.bl (e && decide (b = b2)))) S := by
  rw [u_Programu_equ]
  refine cal_val (T := []) rfl ?_ hS (by simp only [Vl.nr])
  show exec (Mn n) b_Programu_equ [some x, some y] S = _
  unfold b_Programu_equ
  cases e <;> simp only [Oz.exec, exc1, ev, Res.out, Res.bind, List.getElem?_cons_zero, List.getElem?_cons_succ, h.ins, k.ins, if_true, ofO, look_lines, look_lossy, cmpop, eqop, eqS, he, List.append_nil, Bool.false_and, Bool.true_and]
theorem r_eq_lst (n : Nat) (hS : NR S) (h : IsP S x rows b) (k : insOf S y = none) : (Mn (n + 1)).cal (dot "Program" "__eq__") [x, y] S = .ok (.val (.bl false)) S := by
  rw [u_Programu_equ]
  refine cal_val (T := []) rfl ?_ hS (by simp only [Vl.nr])
  show exec (Mn n) b_Programu_equ [some x, some y] S = _
  unfold b_Programu_equ
  simp only [Oz.exec, exc1, ev, Res.out, Res.bind, List.getElem?_cons_zero, List.getElem?_cons_succ, k, List.append_nil]
end

end K16
set_option Elab.async false
set_option linter.all false
set_option maxRecDepth 100000
set_option maxHeartbeats 4000000
namespace K16
open PySem L2 Oz

def zs (ns : List Int) : Vl := .lst (ns.map .int)
theorem zs_nr (ns : List Int) : (zs ns).nr = true := by simp only [zs, Vl.nr, nrs_map_int]
theorem get_ints {ns : List Int} {i : Nat} {x : Vl} (h : (ns.map Vl.int)[i]? = some x) : ∃ z, ns[i]? = some z ∧ x = .int z := by
  rw [List.getElem?_map] at h
  obtain ⟨z, h1, rfl⟩ := Option.map_eq_some_iff.mp h
  exact ⟨z, h1, rfl⟩
theorem r_cell (n : Nat) (ns : List Int) {k : Nat} {S : Hs} (hS : NR S) : ∃ z : Int, (Mn (n + 1)).cal "_law_cell" [zs ns, .int k] S = .ok (.val (.int z)) S := by
  by_cases hk : k < ns.length
  · obtain ⟨z, hz⟩ : ∃ z, ns[k]? = some z := ⟨_, List.getElem?_eq_getElem hk⟩
    refine ⟨z, ?_⟩
    rw [u__law_cell]
    refine cal_val (T := []) rfl ?_ hS (by simp only [Vl.nr])
    show exec (Mn n) b__law_cell [some (zs ns), some (.int k), none, none] S = _
    have h1 : decide ((k : Int) < (((ns.map Vl.int).length : Nat) : Int)) = true := decide_eq_true (by rw [List.length_map]; omega)
    have h2 : (ns.map Vl.int)[k]? = some (.int z) := by rw [List.getElem?_map, hz]; rfl
    unfold b__law_cell
    simp only [Oz.exec, exc1, ev, Res.out, Res.bind, List.getElem?_cons_zero, List.getElem?_cons_succ, zs, len_lst, ofO, cmpop, h1, ix_lst h2, List.append_nil]
  · have h1 : decide ((k : Int) < (((ns.map Vl.int).length : Nat) : Int)) = false := decide_eq_false (by rw [List.length_map]; omega)
    obtain ⟨η', S', e1, e2, b, a3, hb0, hb1, e3⟩ := for_ok (body := fun η1 S2 => Oz.exec (Mn n) w1__law_cell η1 S2) (t := .nm 3) (lk := []) (xs := ns.map Vl.int) (η := [some (zs ns), some (.int k), some (.int 17), none]) (S := S)
      (fun i η T => T = S ∧ ∃ (b : Int) (a3 : Option Vl), 0 ≤ b ∧ b < 1000003 ∧ η = [some (zs ns), some (.int k), some (.int b), a3]) ⟨rfl, 17, none, by omega, by omega, rfl⟩ (fun _ _ _ _ => lock_nil _)
      (fun i x η T ex ⟨q1, b, a3, q2, q3, q4⟩ => by
        subst q1 q4
        obtain ⟨z, _, rfl⟩ := get_ints ex
        refine ⟨_, rfl, [some (zs ns), some (.int k), some (.int ((b * 31 + z) % 1000003)), some (.int z)], T, .inl ?_, rfl, _, _, Int.emod_nonneg _ (by omega), Int.emod_lt_of_pos _ (by omega), rfl⟩
        unfold w1__law_cell
        simp only [Oz.exec, exc1, ev, Res.out, Res.bind, List.getElem?_cons_zero, List.getElem?_cons_succ, List.set_cons_zero, List.set_cons_succ, ofO, bindT, b_add, b_mulR (i := b) (j := 31) (by omega) (by omega), b_mod (j := 1000003) (by omega)])
    subst e2 e3
    refine ⟨(b + 1) * (k + 3) * 7919 % 2147483629, ?_⟩
    rw [u__law_cell]
    refine cal_val (T := []) rfl ?_ hS (by simp only [Vl.nr])
    show exec (Mn n) b__law_cell [some (zs ns), some (.int k), none, none] S' = _
    have m1 := b_mulL (i := b + 1) (j := k + 3) (by omega) (by omega)
    unfold b__law_cell
    simp only [zs] at e1
    simp only [Oz.exec, exc1, ev, evS, walkS, Res.out, Res.bind, List.getElem?_cons_zero, List.getElem?_cons_succ, List.set_cons_zero, List.set_cons_succ, bindT, zs, len_lst, ofO, cmpop, h1, e1, b_add, m1, b_mulR (i := (b + 1) * (k + 3)) (j := 7919) (by omega) (by omega), b_mod (j := 2147483629) (by omega), List.append_nil]
/-- digits: within their sizes -/
structure Digs (sizes ds : List Int) : Prop where
  len : ds.length = sizes.length
  at_ : ∀ (i : Nat) (d s : Int), ds[i]? = some d → sizes[i]? = some s → 0 ≤ d ∧ d < s
theorem app_range {sizes ds : List Int} {y s : Int} (h : ∀ (i : Nat) (d s : Int), ds[i]? = some d → sizes[i]? = some s → 0 ≤ d ∧ d < s) (hs : sizes[ds.length]? = some s) (h0 : 0 ≤ y) (h1 : y < s) : ∀ (i : Nat) (d s : Int), (ds ++ [y])[i]? = some d → sizes[i]? = some s → 0 ≤ d ∧ d < s := by
  intro i d s' e1 e2
  by_cases hi : i < ds.length
  · rw [List.getElem?_append_left hi] at e1
    exact h i d s' e1 e2
  · by_cases hj : i = ds.length
    · subst hj
      rw [List.getElem?_concat_length] at e1
      cases e1
      rw [hs] at e2; cases e2
      exact ⟨h0, h1⟩
    · rw [List.getElem?_eq_none (by simp; omega)] at e1; cases e1
theorem digits_big (n : Nat) (ns : List Int) {k : Nat} {sizes : List Int} (hz : ∀ s ∈ sizes, 0 < s ∧ s < 1073741824) (hl : sizes.length ≤ 1000) {S : Hs} (hS : NR S) {c p : Int} (hc : (Mn (n + 1)).cal "_law_cell" [zs ns, .int k] S = .ok (.val (.int c)) S) (hp : binop .Pow (.int 10) (.int 18) = some (.int p)) (hb : p ≤ c) : ∃ ds : List Int, Digs sizes ds ∧ (Mn (n + 2)).cal "_law_digits" [zs ns, .int k, zs sizes] S = .ok (.frs (.lst (ds.map .int))) S := by
  obtain ⟨η', S', e1, ds, rest, a6, hd, hd2, e2, e3⟩ := for_ok (body := fun η1 S2 => Oz.exec (Mn (n + 1)) w1__law_digits η1 S2) (t := .nm 6) (lk := []) (xs := sizes.map Vl.int) (η := [some (zs ns), some (.int k), some (zs sizes), some (.int c), some (.ref S.length), some (.int (c - p)), none, none, none, none]) (S := S ++ [.lst []])
    (fun i η T => ∃ (ds : List Int) (rest : Int) (a6 : Option Vl), ds.length = i ∧ (∀ (i : Nat) (d s : Int), ds[i]? = some d → sizes[i]? = some s → 0 ≤ d ∧ d < s) ∧ T = S ++ [.lst (ds.map .int)] ∧ η = [some (zs ns), some (.int k), some (zs sizes), some (.int c), some (.ref S.length), some (.int rest), a6, none, none, none])
    ⟨[], _, none, rfl, fun i d s e => by simp at e, rfl, rfl⟩ (fun _ _ _ _ => lock_nil _)
    (fun i x η T ex ⟨ds, rest, a6, q1, q2, q3, q4⟩ => by
      subst q3 q4
      obtain ⟨s, hs, rfl⟩ := get_ints ex
      have ss := hz s (List.mem_of_getElem? hs)
      have il : i < sizes.length := (List.getElem?_eq_some_iff.mp hs).1
      refine ⟨_, rfl, [some (zs ns), some (.int k), some (zs sizes), some (.int c), some (.ref S.length), some (.int (rest / s)), some (.int s), none, none, none], S ++ [.lst ((ds ++ [rest % s]).map .int)], .inl ?_, ds ++ [rest % s], _, _, by simp [q1], app_range q2 (by rw [q1]; exact hs) (Int.emod_nonneg _ (by omega)) (Int.emod_lt_of_pos _ ss.1), rfl, rfl⟩
      have hm := mut_app (xs := ds.map Vl.int) (y := .int (rest % s)) (by rw [List.length_map]; omega)
      unfold w1__law_digits
      simp only [Oz.exec, exc1, ev, evs, Res.out, Res.bind, List.getElem?_cons_zero, List.getElem?_cons_succ, List.set_cons_zero, List.set_cons_succ, ofO, bindT, lstAt_last, b_mod ss.1, b_fdiv ss.1 ss.2, List.getElem?_concat_length, hm, set_last, List.map_append, List.map_cons, List.map_nil])
  subst e2 e3
  refine ⟨ds, ⟨by rw [hd, List.length_map], hd2⟩, ?_⟩
  rw [u__law_digits]
  refine cal_ref (r := 0) (T := [.lst (ds.map .int)]) rfl ?_ hS rfl (nrs_map_int _)
  show exec (Mn (n + 1)) b__law_digits [some (zs ns), some (.int k), some (zs sizes), none, none, none, none, none, none, none] S = _
  have h1 : decide (p ≤ c) = true := decide_eq_true hb
  unfold b__law_digits
  simp only [zs] at e1 hc
  simp only [Oz.exec, exc1, ev, evs, evf, evS, walkS, Res.out, Res.bind, List.getElem?_cons_zero, List.getElem?_cons_succ, List.set_cons_zero, List.set_cons_succ, bindT, zs, ofO, calV, hc, Rv.v, List.length_nil, sizeLine, Nat.zero_le, if_true, hp, cmpop, h1, b_sub, e1, Nat.add_zero]
theorem digits_small (n : Nat) (ns : List Int) {k : Nat} {sizes : List Int} (hz : ∀ s ∈ sizes, 0 < s ∧ s < 1073741824) (hl : sizes.length ≤ 1000) {S : Hs} (hS : NR S) {c p : Int} (hc : (Mn (n + 1)).cal "_law_cell" [zs ns, .int k] S = .ok (.val (.int c)) S) (hp : binop .Pow (.int 10) (.int 18) = some (.int p)) (hb : ¬ p ≤ c) : ∃ ds : List Int, Digs sizes ds ∧ (Mn (n + 2)).cal "_law_digits" [zs ns, .int k, zs sizes] S = .ok (.frs (.lst (ds.map .int))) S := by
  obtain ⟨η', S', e1, ds, one, a8, a9, hd, h0, hq, hd2, e2, e3⟩ := for_ok (body := fun η1 S2 => Oz.exec (Mn (n + 1)) w2__law_digits η1 S2) (t := .nm 8) (lk := []) (xs := rngL 0 sizes.length) (η := [some (zs ns), some (.int k), some (zs sizes), some (.int c), some (.ref S.length), none, none, some (.int (c % 2147483647)), none, none]) (S := S ++ [.lst []])
    (fun i η T => ∃ (ds : List Int) (one : Int) (a8 a9 : Option Vl), ds.length = i ∧ 0 ≤ one ∧ one < 2147483648 ∧ (∀ (i : Nat) (d s : Int), ds[i]? = some d → sizes[i]? = some s → 0 ≤ d ∧ d < s) ∧ T = S ++ [.lst (ds.map .int)] ∧ η = [some (zs ns), some (.int k), some (zs sizes), some (.int c), some (.ref S.length), none, none, some (.int one), a8, a9])
    ⟨[], _, none, none, rfl, Int.emod_nonneg _ (by omega), Int.lt_trans (Int.emod_lt_of_pos _ (by omega)) (by omega), fun i d s e => by simp at e, rfl, rfl⟩ (fun _ _ _ _ => lock_nil _)
    (fun i x η T ex ⟨ds, one, a8, a9, q1, p0, p1, q2, q3, q4⟩ => by
      subst q3 q4
      obtain ⟨il, rfl⟩ := rng_at ex
      obtain ⟨s, hs⟩ : ∃ s, sizes[i]? = some s := ⟨_, List.getElem?_eq_getElem il⟩
      have ss := hz s (List.mem_of_getElem? hs)
      have hs2 : (sizes.map Vl.int)[i]? = some (.int s) := by rw [List.getElem?_map, hs]; rfl
      obtain ⟨one', ho⟩ : ∃ o, o = (one * 48271 + 10007 * ((i : Int) + 1)) % 2147483629 := ⟨_, rfl⟩
      have o0 : 0 ≤ one' := by rw [ho]; exact Int.emod_nonneg _ (by omega)
      have o1 : one' < 2147483629 := by rw [ho]; exact Int.emod_lt_of_pos _ (by omega)
      obtain ⟨two, ht⟩ : ∃ o, o = (one' * one' + 69621 * one' + (i : Int)) % 2147483563 := ⟨_, rfl⟩
      refine ⟨_, rfl, [some (zs ns), some (.int k), some (zs sizes), some (.int c), some (.ref S.length), none, none, some (.int one'), some (.int i), some (.int two)], S ++ [.lst ((ds ++ [two / 11 % s]).map .int)], .inl ?_, ds ++ [two / 11 % s], one', _, _, by simp [q1], o0, by omega, app_range q2 (by rw [q1]; exact hs) (Int.emod_nonneg _ (by omega)) (Int.emod_lt_of_pos _ ss.1), rfl, rfl⟩
      have hm := mut_app (xs := ds.map Vl.int) (y := .int (two / 11 % s)) (by rw [List.length_map]; omega)
      unfold w2__law_digits
      simp only [Oz.exec, exc1, ev, evs, Res.out, Res.bind, List.getElem?_cons_zero, List.getElem?_cons_succ, List.set_cons_zero, List.set_cons_succ, ofO, bindT, lstAt_last, b_add, b_mulR (i := one) (j := 48271) (by omega) (by omega), b_mulL (i := 10007) (j := (i : Int) + 1) (by omega) (by omega), b_mod (j := 2147483629) (by omega), ← ho,
        b_mulL (i := one') (j := one') (by omega) (by omega), b_mulL (i := 69621) (j := one') (by omega) (by omega), b_mod (j := 2147483563) (by omega), ← ht, b_fdiv (i := two) (j := 11) (by omega) (by omega), zs, ix_lst hs2, b_mod ss.1, List.getElem?_concat_length, hm, set_last, List.map_append, List.map_cons, List.map_nil])
  subst e2 e3
  refine ⟨ds, ⟨by rw [hd, rngL_len], hd2⟩, ?_⟩
  rw [u__law_digits]
  refine cal_ref (r := 0) (T := [.lst (ds.map .int)]) rfl ?_ hS rfl (nrs_map_int _)
  show exec (Mn (n + 1)) b__law_digits [some (zs ns), some (.int k), some (zs sizes), none, none, none, none, none, none, none] S = _
  have h1 : decide (p ≤ c) = false := decide_eq_false hb
  have es : evS (Mn (n + 1)) (.rng1 (.b1 .len (.var 2))) [some (zs ns), some (.int k), some (zs sizes), some (.int c), some (.ref S.length), none, none, some (.int (c % 2147483647)), none, none] (S ++ [.lst []]) = .ok ([], rngL 0 sizes.length) (S ++ [.lst []]) := ev_rng1 (by simp only [ev, zs, Res.bind, ofO, List.getElem?_cons_zero, List.getElem?_cons_succ, len_lst, List.length_map]) (by omega)
  unfold b__law_digits
  refine ex_nx (x_asg (.int c) S (by simp only [ev, evs, Res.bind, List.getElem?_cons_zero, List.getElem?_cons_succ, calV, hc, Rv.v]) rfl) ?_
  refine ex_nx (x_asg (.ref S.length) (S ++ [.lst []]) (by simp only [ev, evf, evs, Res.bind, List.length_nil, sizeLine, Nat.zero_le, if_true]) rfl) ?_
  refine ex_nx (x_ite0 (S ++ [.lst []]) (by simp only [ev, Res.bind, List.getElem?_cons_zero, List.getElem?_cons_succ, List.set_cons_zero, List.set_cons_succ, hp, ofO, cmpop, h1]) ex_nil) ?_
  refine ex_nx (x_asg (.int (c % 2147483647)) (S ++ [.lst []]) (by simp only [ev, Res.bind, List.getElem?_cons_zero, List.getElem?_cons_succ, List.set_cons_zero, List.set_cons_succ, ofO, b_mod (j := 2147483647) (by omega)]) rfl) ?_
  refine ex_nx (x_for [] _ _ es e1) ?_
  exact ex_ret (x_ret _ _ (by simp only [ev, List.getElem?_cons_zero, List.getElem?_cons_succ, Nat.add_zero]))
theorem r_digits (n : Nat) (ns : List Int) {k : Nat} {sizes : List Int} (hz : ∀ s ∈ sizes, 0 < s ∧ s < 1073741824) (hl : sizes.length ≤ 1000) {S : Hs} (hS : NR S) : ∃ ds : List Int, Digs sizes ds ∧ (Mn (n + 2)).cal "_law_digits" [zs ns, .int k, zs sizes] S = .ok (.frs (.lst (ds.map .int))) S := by
  obtain ⟨c, hc⟩ := r_cell n ns (k := k) hS
  obtain ⟨p, hp⟩ : ∃ p : Int, binop .Pow (.int 10) (.int 18) = some (.int p) := ⟨_, b_pow (i := 10) (j := 18) (by decide) (by decide) (by decide)⟩
  by_cases hb : p ≤ c
  · exact digits_big n ns hz hl hS hc hp hb
  · exact digits_small n ns hz hl hS hc hp hb
end K16
set_option Elab.async false
set_option linter.all false
set_option maxRecDepth 100000
set_option maxHeartbeats 4000000
namespace K16
open PySem L2 Oz

/-! ### texts -/
def al (z : Str) : Prop := ∀ c ∈ z.cps.toList, c ∈ abc.cps.toList
theorem tl_app (x y : Str) : (x ++ y).cps.toList = x.cps.toList ++ y.cps.toList := by
  show (x.cps ++ y.cps).toList = _
  simp
theorem len_tl (x : Str) : x.length = x.cps.toList.length := rfl
theorem len_app (x y : Str) : (x ++ y).length = x.length + y.length := by rw [len_tl, tl_app, List.length_append]; rfl
theorem al_app {x y : Str} (h : al x) (k : al y) : al (x ++ y) := fun c hc => by
  rw [tl_app] at hc
  exact (List.mem_append.mp hc).elim (h c) (k c)
theorem al_one {c : Nat} (h : c ∈ abc.cps.toList) : al ⟨#[c]⟩ := fun d hd => by
  simp at hd
  rw [hd]; exact h
theorem joinL_one : ∀ gs : List Nat, TL.joinL [] (gs.map fun c => [c]) = gs
  | [] => rfl
  | [c] => rfl
  | c :: d :: r => by
    have := joinL_one (d :: r)
    simp only [List.map_cons, TL.joinL, List.nil_append] at this ⊢
    rw [this]; rfl
theorem join_tl (gs : List Nat) : (Txt.join (Str.ofString "") (gs.map fun c => (⟨#[c]⟩ : Str))).cps.toList = gs := by
  rw [TL.join_eq]
  have := TL.tl_join (Str.ofString "") (gs.map fun c => (⟨#[c]⟩ : Str))
  have e : TL.tl (Str.ofString "") = [] := by decide
  rw [e, List.map_map] at this
  exact this.trans (joinL_one gs)
theorem abc_len : abc.cps.toList.length = 26 := by decide
theorem letter (m : Int) : ∃ c ∈ abc.cps.toList, abc.cps.toList[(m % 26).toNat]? = some c := by
  have h0 := Int.emod_nonneg m (show (26 : Int) ≠ 0 by omega)
  have h1 := Int.emod_lt_of_pos m (show (0 : Int) < 26 by omega)
  have : (m % 26).toNat < abc.cps.toList.length := by rw [abc_len]; omega
  exact ⟨_, List.getElem_mem this, List.getElem?_eq_getElem this⟩
theorem ix_abc {S : Hs} {m : Int} {c : Nat} (h : abc.cps.toList[(m % 26).toNat]? = some c) : idxop S (.str abc) (.int (m % 26)) = some (.str ⟨#[c]⟩) := by
  have h0 := Int.emod_nonneg m (show (26 : Int) ≠ 0 by omega)
  have := ix_str (S := S) (z := abc) (i := (m % 26).toNat) (by rw [len_tl, abc_len]; omega) h
  rwa [Int.toNat_of_nonneg h0] at this
theorem filt {f : Vl → Option Vl} : ∀ (xs : List Vl), (∀ x ∈ xs, ∃ c ∈ abc.cps.toList, f x = some (.str ⟨#[c]⟩)) → ∃ gs : List Nat, xs.filterMap f = gs.map (fun c => Vl.str ⟨#[c]⟩) ∧ gs.length = xs.length ∧ ∀ c ∈ gs, c ∈ abc.cps.toList
  | [], _ => ⟨[], rfl, rfl, fun c h => by simp at h⟩
  | x :: xs, h => by
    obtain ⟨c, hc, e⟩ := h x (List.mem_cons_self ..)
    obtain ⟨gs, e1, e2, e3⟩ := filt xs fun y hy => h y (List.mem_cons_of_mem _ hy)
    refine ⟨c :: gs, by simp [e, e1], by simp [e2], fun d hd => ?_⟩
    rcases List.mem_cons.mp hd with rfl | hd
    · exact hc
    · exact e3 d hd
theorem allS_ones (gs : List Nat) : allS (gs.map fun c => Vl.str ⟨#[c]⟩) = some (gs.map fun c => (⟨#[c]⟩ : Str)) := by
  induction gs with
  | nil => rfl
  | cons c gs ih => simp only [List.map_cons, allS, ih, Option.map_some]
theorem allS_strs : ∀ zs : List Str, allS (zs.map Vl.str) = some zs
  | [] => rfl
  | z :: zs => by simp only [List.map_cons, allS, allS_strs zs, Option.map_some]
theorem sum_ones (gs : List Nat) : ((gs.map fun c => (⟨#[c]⟩ : Str)).map (·.length)).sum = gs.length := by
  induction gs with
  | nil => rfl
  | cons c gs ih =>
    simp only [List.map_cons, List.sum_cons, ih, List.length_cons]
    have : (⟨#[c]⟩ : Str).length = 1 := rfl
    omega
theorem join_ones {S : Hs} {gs : List Nat} (h : gs.length ≤ 1000) : tmop .join S (Str.ofString "") (.lst (gs.map fun c => Vl.str ⟨#[c]⟩)) = some (.str (Txt.join (Str.ofString "") (gs.map fun c => (⟨#[c]⟩ : Str)))) := by
  unfold tmop
  simp only [seqOf, Option.bind_some, allS_ones]
  have e : (Str.ofString "").length = 0 := by decide
  rw [if_pos (by rw [sum_ones, e]; omega)]
/-- the cut and the letter put in -/
theorem cut_lo {z : Str} {p : Nat} : (cutS z none (some (p : Int))).cps.toList = z.cps.toList.take p := by
  unfold cutS
  rw [HT.sIx_none, HT.sIx_nat]
  simp only [List.drop_zero, Nat.sub_zero]
  rw [len_tl, Nat.min_comm, ← List.take_take]
  simp only [List.take_of_length_le (show (z.cps.toList.take p).length ≤ z.cps.toList.length by rw [List.length_take]; exact Nat.min_le_right _ _)]
theorem cut_hi {z : Str} {p : Nat} : (cutS z (some (p : Int)) none).cps.toList = z.cps.toList.drop p := by
  unfold cutS
  rw [HT.sIx_none, HT.sIx_nat, len_tl]
  simp only
  by_cases h : p ≤ z.cps.toList.length
  · rw [Nat.min_eq_left h, List.take_of_length_le (by simp)]
  · rw [Nat.min_eq_right (by omega), List.drop_length, List.drop_of_length_le (by omega)]
    simp
theorem slt_lo {z : Str} {p : Nat} (h : z.length ≤ 1000) : sltop (.str z) none (some (p : Int)) = some (.str (cutS z none (some (p : Int)))) := if_pos (Nat.le_trans h (by decide))
theorem slt_hi {z : Str} {p : Nat} (h : z.length ≤ 1000) : sltop (.str z) (some (p : Int)) none = some (.str (cutS z (some (p : Int)) none)) := if_pos (Nat.le_trans h (by decide))
theorem mem_strs {S : Hs} {v : Vl} {fs : List Str} {z : Str} (h : seqOf S v = some (fs.map .str)) (hd : dctOf S v = none) (hv : ∀ y, v ≠ .str y) : memF S (.str z) v = some (decide (z ∈ fs)) := by
  have hf : (fs.map Vl.str).all Vl.flat = true := List.all_eq_true.mpr fun x hx => by
    obtain ⟨y, _, rfl⟩ := List.mem_map.mp hx
    rfl
  have ha : ((fs.map Vl.str).any fun y => eqF y (.str z)) = decide (z ∈ fs) := by
    rw [Bool.eq_iff_iff, List.any_eq_true, decide_eq_true_eq]
    constructor
    · rintro ⟨x, hx, e⟩
      obtain ⟨y, hy, rfl⟩ := List.mem_map.mp hx
      simp only [eqF, beq_iff_eq] at e
      rw [← e]; exact hy
    · intro hz
      exact ⟨.str z, List.mem_map_of_mem hz, by simp only [eqF, beq_self_eq_true]⟩
  unfold memF
  cases v with
  | str y => exact absurd rfl (hv y)
  | _ =>
    simp only [hd, h]
    rw [hf]
    simp only [Vl.flat, Bool.and_self, if_true, ha]
theorem mem_last {S : Hs} {fs : List Str} {z : Str} {T : Hs} : memF (S ++ [.lst (fs.map .str)] ++ T) (.str z) (.ref S.length) = some (decide (z ∈ fs)) := by
  have e : (S ++ [Ob.lst (fs.map .str)] ++ T)[S.length]? = some (.lst (fs.map .str)) := by rw [List.append_assoc, List.getElem?_append_right (Nat.le_refl _)]; simp
  exact mem_strs (by simp only [seqOf, e]) (by simp only [dctOf, e]) (fun y h => by cases h)
theorem nodup_map {α β : Type} {f : α → β} : ∀ {xs : List α}, (∀ a b, f a = f b → a = b) → xs.Nodup → (xs.map f).Nodup
  | [], _, _ => by simp
  | x :: xs, h, k => by
    rw [List.nodup_cons] at k
    rw [List.map_cons, List.nodup_cons]
    refine ⟨fun q => ?_, nodup_map h k.2⟩
    obtain ⟨y, hy, e⟩ := List.mem_map.mp q
    rw [h y x e] at hy
    exact k.1 hy
theorem digs4 {a b c d : Int} {ds : List Int} (h : Digs [a, b, c, d] ds) : ∃ w x y z, ds = [w, x, y, z] ∧ (0 ≤ w ∧ w < a) ∧ (0 ≤ x ∧ x < b) ∧ (0 ≤ y ∧ y < c) ∧ (0 ≤ z ∧ z < d) := by
  have hl := h.len
  match ds, hl with
  | [w, x, y, z], _ => exact ⟨w, x, y, z, rfl, h.at_ 0 _ _ rfl rfl, h.at_ 1 _ _ rfl rfl, h.at_ 2 _ _ rfl rfl, h.at_ 3 _ _ rfl rfl⟩
theorem digs2 {a b : Int} {ds : List Int} (h : Digs [a, b] ds) : ∃ w x, ds = [w, x] ∧ (0 ≤ w ∧ w < a) ∧ (0 ≤ x ∧ x < b) := by
  have hl := h.len
  match ds, hl with
  | [w, x], _ => exact ⟨w, x, rfl, h.at_ 0 _ _ rfl rfl, h.at_ 1 _ _ rfl rfl⟩
theorem digs5 {a b c d e : Int} {ds : List Int} (h : Digs [a, b, c, d, e] ds) : ∃ w x y z u, ds = [w, x, y, z, u] ∧ (0 ≤ w ∧ w < a) ∧ (0 ≤ x ∧ x < b) ∧ (0 ≤ y ∧ y < c) ∧ (0 ≤ z ∧ z < d) ∧ (0 ≤ u ∧ u < e) := by
  have hl := h.len
  match ds, hl with
  | [w, x, y, z, u], _ => exact ⟨w, x, y, z, u, rfl, h.at_ 0 _ _ rfl rfl, h.at_ 1 _ _ rfl rfl, h.at_ 2 _ _ rfl rfl, h.at_ 3 _ _ rfl rfl, h.at_ 4 _ _ rfl rfl⟩
end K16
set_option Elab.async false
set_option linter.all false
set_option maxRecDepth 100000
set_option maxHeartbeats 4000000
namespace K16
open PySem L2 Oz

/-- the text that is made of digits -/
def lf (j one two : Int) : Vl → Option Vl
  | .int i => (abc.cps.toList[((one + i * two + 3 * j) % 26).toNat]?).map fun c => .str ⟨#[c]⟩
  | _ => none
theorem lf_mem (j one two : Int) {sz : Nat} : ∀ x ∈ rngL 0 sz, ∃ i : Nat, i < sz ∧ x = .int i := fun x hx => by
  obtain ⟨i, hi⟩ := List.getElem?_of_mem hx
  exact ⟨i, rng_at hi⟩
theorem lf_at (j one two : Int) (i : Nat) : ∃ c ∈ abc.cps.toList, abc.cps.toList[((one + (i : Int) * two + 3 * j) % 26).toNat]? = some c ∧ lf j one two (.int i) = some (.str ⟨#[c]⟩) := by
  obtain ⟨c, hc, e⟩ := letter (one + (i : Int) * two + 3 * j)
  have h : lf j one two (.int i) = (abc.cps.toList[((one + (i : Int) * two + 3 * j) % 26).toNat]?).map fun c => .str ⟨#[c]⟩ := rfl
  exact ⟨c, hc, e, h.trans (congrArg (Option.map fun c => Vl.str ⟨#[c]⟩) e)⟩
theorem lf_step (n : Nat) {a0 a1 a2 a3 a9 a10 a11 a12 a13 a14 a15 a16 : Option Vl} (j one two : Int) (sz : Nat) (h1 : 0 ≤ two) (h2 : two < 26) (S : Hs) (i c : Nat) (e : abc.cps.toList[((one + (i : Int) * two + 3 * j) % 26).toNat]? = some c) :
    ev (Mn n) (.idx (.var 4) (.bin .Mod (.bin .Add (.bin .Add (.var 6) (.bin .Mult (.var 11) (.var 7))) (.bin .Mult (.cst (.int 3)) (.var 5))) (.cst (.int 26)))) [a0, a1, a2, a3, some (.str abc), some (.int j), some (.int one), some (.int two), some (.int sz), a9, a10, some (.int i), a12, a13, a14, a15, a16] S = .ok (.str ⟨#[c]⟩) S := by
  exact v_idx (v_var rfl) (v_bin (v_bin (v_bin (v_var rfl) (v_bin (v_var rfl) (v_var rfl) (b_mulR (by omega) (by omega))) (b_add _ _)) (v_bin v_cst (v_var rfl) (b_mulL (by omega) (by omega))) (b_add _ _)) v_cst (b_mod (by omega))) (ix_abc e)
theorem e_letters (n : Nat) {a0 a1 a2 a3 a9 a10 a11 a12 a13 a14 a15 a16 : Option Vl} (j one two : Int) (sz : Nat) (h1 : 0 ≤ two) (h2 : two < 26) (hs : sz ≤ 5) (S : Hs) : ∃ gs : List Nat, gs.length = sz ∧ (∀ c ∈ gs, c ∈ abc.cps.toList) ∧
    evf (Mn n) q1__law_names [a0, a1, a2, a3, some (.str abc), some (.int j), some (.int one), some (.int two), some (.int sz), a9, a10, a11, a12, a13, a14, a15, a16] S = .ok (.lst (gs.map fun c => Vl.str ⟨#[c]⟩)) S := by
  have es : evS (Mn n) (.rng1 (.var 8)) [a0, a1, a2, a3, some (.str abc), some (.int j), some (.int one), some (.int two), some (.int sz), a9, a10, a11, a12, a13, a14, a15, a16] S = .ok ([], rngL 0 sz) S := ev_rng1 (by simp only [ev, List.getElem?_cons_zero, List.getElem?_cons_succ]) (by omega)
  obtain ⟨gs, e1, e2, e3⟩ := filt (f := lf j one two) (rngL 0 sz) fun x hx => by
    obtain ⟨i, _, rfl⟩ := lf_mem j one two x hx
    obtain ⟨c, hc, _, e⟩ := lf_at j one two i
    exact ⟨c, hc, e⟩
  refine ⟨gs, by rw [e2, rngL_len], e3, ?_⟩
  rw [← e1]
  refine ev_comp (M := Mn n) (own := [11]) (t := .nm 11) [] (rngL 0 sz) (lf j one two) es (lock_nil S) (by rw [rngL_len]; omega) (fun x hx y hy => ?_) (fun x hx acc ha => ?_)
  · obtain ⟨i, _, rfl⟩ := lf_mem j one two x hx
    obtain ⟨c, hc, _, e⟩ := lf_at j one two i
    rw [e] at hy
    cases hy
    simp only [Vl.nr]
  · obtain ⟨i, _, rfl⟩ := lf_mem j one two x hx
    obtain ⟨c, hc, e, e5⟩ := lf_at j one two i
    exact ⟨_, _, rfl, lf_step n (a11 := none) j one two sz h1 h2 _ i c e, e5⟩
def tails : List Nat := (Str.ofString "ijklmnopqrst").cps.toList
def tries (c : Nat) : List Str := tails.map fun t => Str.ofString "z" ++ ⟨#[c]⟩ ++ ⟨#[t]⟩
theorem tries_nodup (c : Nat) : (tries c).Nodup := nodup_map (fun a b h => by
  have := congrArg (fun z : Str => z.cps.toList) h
  simp only [tl_app] at this
  have := List.append_cancel_left this
  simpa using this) (by decide)
theorem tries_len (c : Nat) : (tries c).length = 12 := by
  unfold tries
  rw [List.length_map]; decide
theorem tries_word {c : Nat} (hc : c ∈ abc.cps.toList) : ∀ z ∈ tries c, Word z := fun z hz => by
  obtain ⟨t, ht, rfl⟩ := List.mem_map.mp hz
  have hl : (Str.ofString "z" ++ ⟨#[c]⟩ ++ ⟨#[t]⟩ : Str).length = 3 := by
    rw [len_app, len_app]
    have e1 : (Str.ofString "z").length = 1 := by decide
    have e2 : (⟨#[c]⟩ : Str).length = 1 := rfl
    have e3 : (⟨#[t]⟩ : Str).length = 1 := rfl
    omega
  have hz : al (Str.ofString "z") := by unfold al; decide
  have ht2 : ∀ t ∈ tails, t ∈ abc.cps.toList := by decide
  exact ⟨by omega, by omega, al_app (al_app hz (al_one hc)) (al_one (ht2 t ht))⟩
theorem e_tries (n : Nat) {a0 a1 a2 a3 a6 a7 a8 a9 a10 a11 a12 a13 a14 a15 a16 : Option Vl} {j : Nat} {c : Nat} (hc : abc.cps.toList[j]? = some c) (S : Hs) :
    evf (Mn n) q2__law_names [a0, a1, a2, a3, some (.str abc), some (.int j), a6, a7, a8, a9, a10, a11, a12, a13, a14, a15, a16] S = .ok (.lst ((tries c).map .str)) S := by
  have hx0 : ∀ S : Hs, idxop S (.str abc) (.int j) = some (.str ⟨#[c]⟩) := fun S => ix_str (by rw [len_tl, abc_len]; omega) hc
  refine (ev_comp (M := Mn n) (own := [15]) (t := .nm 15) [] (charsL (Str.ofString "ijklmnopqrst")) (fun x => match x with | .str t => some (.str (Str.ofString "z" ++ ⟨#[c]⟩ ++ t)) | _ => none) (ev_chars (by simp only [ev])) (lock_nil S) (by rw [charsL_len]; decide) (fun x hx y hy => by
      obtain ⟨d, hd, rfl⟩ := charsL_mem hx
      cases hy
      simp only [Vl.nr]) (fun x hx acc ha => by
      obtain ⟨d, hd, rfl⟩ := charsL_mem hx
      have z1 : (Str.ofString "z").length = 1 := by decide
      have z2 : (⟨#[c]⟩ : Str).length = 1 := rfl
      have z3 : (⟨#[d]⟩ : Str).length = 1 := rfl
      have q1 : (Str.ofString "z").length + (⟨#[c]⟩ : Str).length ≤ sizeLine := small_sz (by omega)
      have q2 : (Str.ofString "z" ++ ⟨#[c]⟩ : Str).length + (⟨#[d]⟩ : Str).length ≤ sizeLine := small_sz (by rw [len_app]; omega)
      exact ⟨_, _, rfl, v_bin (v_bin v_cst (v_idx (v_var rfl) (v_var rfl) (hx0 _)) (b_adds q1)) (v_var rfl) (b_adds q2), rfl⟩)).trans ?_
  congr 2
theorem e_free (n : Nat) {a0 a1 a2 a4 a5 a6 a7 a8 a9 a10 a11 a12 a13 a15 a16 : Option Vl} {ts fs : List Str} (hl : ts.length ≤ 1000) (S : Hs) :
    evf (Mn n) q3__law_names [a0, a1, a2, some (.ref S.length), a4, a5, a6, a7, a8, a9, a10, a11, a12, a13, some (.lst (ts.map .str)), a15, a16] (S ++ [.lst (fs.map .str)]) = .ok (.lst ((ts.filter fun z => decide (z ∉ fs)).map .str)) (S ++ [.lst (fs.map .str)]) := by
  refine (ev_compI (M := Mn n) (own := [16]) (t := .nm 16) [] (ts.map .str) (fun x => match x with | .str t => if t ∈ fs then none else some (.str t) | _ => none) (ev_sq (v := .lst (ts.map .str)) (S1 := S ++ [.lst (fs.map .str)]) (by simp only [ev, List.getElem?_cons_succ, List.getElem?_cons_zero]) rfl) (lock_nil _) (by rw [List.length_map]; omega) (fun x hx y hy => by
      obtain ⟨d, hd, rfl⟩ := List.mem_map.mp hx
      simp only at hy
      split at hy
      · cases hy
      · cases hy; simp only [Vl.nr]) (fun x hx acc ha => by
      obtain ⟨d, hd, rfl⟩ := List.mem_map.mp hx
      refine ⟨_, rfl, ?_⟩
      by_cases hm : d ∈ fs
      · exact .inl ⟨v_cmp (d := false) (v_var rfl) (v_var rfl) (by simp only [cmpop, mem_last, Option.map_some, decide_eq_true hm, Bool.not_true]), by simp only [if_pos hm]⟩
      · exact .inr ⟨v_cmp (d := true) (v_var rfl) (v_var rfl) (by simp only [cmpop, mem_last, Option.map_some, decide_eq_false hm, Bool.not_false]), .str d, v_var rfl, by simp only [if_neg hm]⟩)).trans ?_
  congr 2
  clear hl
  induction ts with
  | nil => rfl
  | cons t ts ih =>
    by_cases hm : t ∈ fs
    · rw [List.map_cons, List.filterMap_cons, List.filter_cons]
      simp only [if_pos hm, ih]
      simp [hm]
    · rw [List.map_cons, List.filterMap_cons, List.filter_cons]
      simp only [if_neg hm, ih]
      simp [hm]
end K16
set_option Elab.async false
set_option linter.all false
set_option maxRecDepth 100000
set_option maxHeartbeats 4000000
namespace K16
open PySem L2 Oz

theorem nat_of {x : Int} (h : 0 ≤ x) : ∃ n : Nat, x = n := ⟨x.toNat, by omega⟩
theorem word_of {gs : List Nat} {c p : Nat} {R : Str} (hR : R.cps.toList = gs) (hg : ∀ d ∈ gs, d ∈ abc.cps.toList) (hc : c ∈ abc.cps.toList) (h5 : gs.length ≤ 5) : Word (cutS R none (some (p : Int)) ++ ⟨#[c]⟩ ++ cutS R (some (p : Int)) none) := by
  have l1 : (⟨#[c]⟩ : Str).length = 1 := rfl
  have l2 : (cutS R none (some (p : Int))).length + (cutS R (some (p : Int)) none).length = gs.length := by
    rw [len_tl, len_tl, cut_lo, cut_hi, hR, List.length_take, List.length_drop]; omega
  refine ⟨by rw [len_app, len_app]; omega, by rw [len_app, len_app]; omega, al_app (al_app (fun d hd => ?_) (al_one hc)) (fun d hd => ?_)⟩
  · rw [cut_lo, hR] at hd; exact hg d (List.mem_of_mem_take hd)
  · rw [cut_hi, hR] at hd; exact hg d (List.mem_of_mem_drop hd)
def sh (s : Vl) (k many : Int) (r : Nat) (a5 a6 a7 a8 a9 a10 a12 a13 a14 : Option Vl) : Sg := [some s, some (.int k), some (.int many), some (.ref r), some (.str abc), a5, a6, a7, a8, a9, a10, none, a12, a13, a14, none, none]
theorem names_step (n : Nat) (ns : List Int) {k i : Nat} {many : Int} {fs : List Str} {S : Hs} (hS : NR S) (hl : fs.length = i) (h5 : i ≤ 5) (hn : fs.Nodup) (a6 a7 a8 a9 a10 a12 a13 a14 : Option Vl) :
    ∃ z b6 b7 b8 b9 b10 b12 b13 b14, Word z ∧ z ∉ fs ∧ exec (Mn (n + 2)) w4__law_names (sh (zs ns) k many S.length (some (.int i)) a6 a7 a8 a9 a10 a12 a13 a14) (S ++ [.lst (fs.map .str)]) = .nx (sh (zs ns) k many S.length (some (.int i)) b6 b7 b8 b9 b10 b12 b13 b14) (S ++ [.lst ((fs ++ [z]).map .str)]) := by
  have hT : NR (S ++ [.lst (fs.map .str)]) := hS.one (nrs_map_str fs)
  obtain ⟨ds, hd, hc⟩ := r_digits n ns (k := k + i % 2) (sizes := [26, 26, 6, 5]) (by decide) (by decide) hT
  obtain ⟨one, two, size, place, rfl, ⟨o0, o1⟩, ⟨t0, t1⟩, ⟨s0, s1⟩, ⟨p0, p1⟩⟩ := digs4 hd
  obtain ⟨sz, rfl⟩ := nat_of s0
  obtain ⟨pl, rfl⟩ := nat_of p0
  have hk : ((k + i % 2 : Nat) : Int) = (k : Int) + (i : Int) % 2 := by omega
  rw [hk] at hc
  obtain ⟨gs, g1, g2, g3⟩ := e_letters (n + 2) (a0 := some (zs ns)) (a1 := some (.int k)) (a2 := some (.int many)) (a3 := some (.ref S.length)) (a9 := some (.int pl)) (a10 := a10) (a11 := none) (a12 := a12) (a13 := a13) (a14 := a14) (a15 := none) (a16 := none) i one two sz t0 t1 (by omega) (S ++ [.lst (fs.map .str)])
  obtain ⟨c, c1, c2⟩ := letter (one + 7 * i + 11)
  obtain ⟨R, hJ, hR⟩ : ∃ R : Str, tmop .join (S ++ [.lst (fs.map .str)]) (Str.ofString "") (.lst (gs.map fun c => Vl.str ⟨#[c]⟩)) = some (.str R) ∧ R.cps.toList = gs := ⟨_, join_ones (by omega), join_tl gs⟩
  have hW := word_of (p := pl) hR g2 c1 (by omega)
  have hRl : R.length ≤ 1000 := by rw [len_tl, hR]; omega
  have tot := hW.hi
  have q1 : (cutS R none (some (pl : Int))).length + (⟨#[c]⟩ : Str).length ≤ sizeLine := small_sz (by
    rw [len_app, len_app] at tot; omega)
  have q2 : (cutS R none (some (pl : Int)) ++ ⟨#[c]⟩ : Str).length + (cutS R (some (pl : Int)) none).length ≤ sizeLine := small_sz (by
    rw [len_app] at tot; omega)
  obtain ⟨W, hWe⟩ : ∃ W, W = cutS R none (some (pl : Int)) ++ ⟨#[c]⟩ ++ cutS R (some (pl : Int)) none := ⟨_, rfl⟩
  rw [← hWe] at hW
  have hap : ∀ z : Str, mutop .append (fs.map Vl.str) [.str z] = some (.non, (fs ++ [z]).map Vl.str) := fun z => by
    rw [mut_app (by rw [List.length_map]; omega), List.map_append]; rfl
  have hlast : (S ++ [Ob.lst (fs.map .str)])[S.length]? = some (.lst (fs.map .str)) := List.getElem?_concat_length
  -- up to the test
  have head : ∀ r : Out, exec (Mn (n + 2)) (.cons (.ite (.cmp .In (.var 13) (.var 3)) (.cons (.asg (.nm 14) (.inl q2__law_names)) (.cons (.asg (.nm 13) (.idx (.inl q3__law_names) (.cst (.int 0)))) .nil)) .nil) (.cons (.ex (.mut .append (.var 3) (.cons (.var 13) .nil))) .nil)) (sh (zs ns) k many S.length (some (.int i)) (some (.int one)) (some (.int two)) (some (.int sz)) (some (.int pl)) (some (.str R)) (some (.str ⟨#[c]⟩)) (some (.str W)) a14) (S ++ [.lst (fs.map .str)]) = r →
      exec (Mn (n + 2)) w4__law_names (sh (zs ns) k many S.length (some (.int i)) a6 a7 a8 a9 a10 a12 a13 a14) (S ++ [.lst (fs.map .str)]) = r := fun r hr => by
    unfold w4__law_names
    refine ex_nx (x_asg (.lst [.int one, .int two, .int sz, .int pl]) _ (v_call (vs_cons (v_var rfl) (vs_cons (v_bin (v_var rfl) (v_bin (v_var rfl) v_cst (b_mod (by omega))) (b_add _ _)) (vs_cons (v_inl (f_lst (vs_cons v_cst (vs_cons v_cst (vs_cons v_cst (vs_cons v_cst vs_nil)))) (by decide))) vs_nil))) hc) rfl) ?_
    refine ex_nx (x_asg _ _ (v_join v_cst (v_inl g3) hJ) rfl) ?_
    refine ex_nx (x_asg _ _ (v_idx (v_var rfl) (v_bin (v_bin (v_bin (v_var rfl) (v_bin v_cst (v_var rfl) (b_mulL (by omega) (by omega))) (b_add _ _)) v_cst (b_add _ _)) v_cst (b_mod (by omega))) (ix_abc c2)) rfl) ?_
    refine ex_nx (x_asg (.str W) _ (by rw [hWe]; exact v_bin (v_bin (v_slt (v_var rfl) o_none (o_some (v_var rfl)) (slt_lo hRl)) (v_var rfl) (b_adds q1)) (v_slt (v_var rfl) (o_some (v_var rfl)) o_none (slt_hi hRl)) (b_adds q2)) rfl) ?_
    exact hr
  by_cases hm : W ∈ fs
  · have hi : i < abc.cps.toList.length := by rw [abc_len]; omega
    obtain ⟨d, hd1⟩ : ∃ d, abc.cps.toList[i]? = some d := ⟨_, List.getElem?_eq_getElem hi⟩
    have dm : d ∈ abc.cps.toList := List.mem_of_getElem? hd1
    have tl := tries_len d
    cases hf : (tries d).filter (fun z => decide (z ∉ fs)) with
    | nil =>
      have := nodup_len (tries_nodup d) (ys := fs) fun x hx => by
        have := List.filter_eq_nil_iff.mp hf x hx
        simpa using this
      omega
    | cons z rest =>
      have zm : z ∈ (tries d).filter (fun z => decide (z ∉ fs)) := by rw [hf]; exact List.mem_cons_self ..
      rw [List.mem_filter, decide_eq_true_eq] at zm
      have et := e_tries (n + 2) (a0 := some (zs ns)) (a1 := some (.int k)) (a2 := some (.int many)) (a3 := some (.ref S.length)) (a6 := some (.int one)) (a7 := some (.int two)) (a8 := some (.int sz)) (a9 := some (.int pl)) (a10 := some (.str R)) (a11 := none) (a12 := some (.str ⟨#[c]⟩)) (a13 := some (.str W)) (a14 := a14) (a15 := none) (a16 := none) hd1 (S ++ [.lst (fs.map .str)])
      have ef := e_free (n + 2) (a0 := some (zs ns)) (a1 := some (.int k)) (a2 := some (.int many)) (a4 := some (.str abc)) (a5 := some (.int i)) (a6 := some (.int one)) (a7 := some (.int two)) (a8 := some (.int sz)) (a9 := some (.int pl)) (a10 := some (.str R)) (a11 := none) (a12 := some (.str ⟨#[c]⟩)) (a13 := some (.str W)) (a15 := none) (a16 := none) (ts := tries d) (fs := fs) (by omega) S
      rw [hf] at ef
      refine ⟨z, some (.int one), some (.int two), some (.int sz), some (.int pl), some (.str R), some (.str ⟨#[c]⟩), some (.str z), some (.lst ((tries d).map .str)), tries_word dm z zm.1, zm.2, head _ ?_⟩
      refine ex_nx (x_ite1 _ (v_cmp (d := true) (v_var rfl) (v_var rfl) ?_) (ex_nx (x_asg _ _ (v_inl et) rfl) (ex_nx (x_asg (.str z) _ (v_idx (v_inl ef) v_cst (ix_lst (i := 0) rfl)) rfl) ex_nil))) ?_
      · have := mem_last (S := S) (fs := fs) (z := W) (T := [])
        rw [List.append_nil, decide_eq_true hm] at this
        exact this
      · refine ex_nx (x_ex _ _ (v_mut (v_var rfl) (lstAt_last _ _) (vs_cons (v_var rfl) vs_nil) hlast (hap z))) ?_
        rw [set_last]
        exact ex_nil
  · refine ⟨W, some (.int one), some (.int two), some (.int sz), some (.int pl), some (.str R), some (.str ⟨#[c]⟩), some (.str W), a14, hW, hm, head _ ?_⟩
    refine ex_nx (x_ite0 _ (v_cmp (d := false) (v_var rfl) (v_var rfl) ?_) ex_nil) ?_
    · have := mem_last (S := S) (fs := fs) (z := W) (T := [])
      rw [List.append_nil, decide_eq_false hm] at this
      exact this
    · refine ex_nx (x_ex _ _ (v_mut (v_var rfl) (lstAt_last _ _) (vs_cons (v_var rfl) vs_nil) hlast (hap W))) ?_
      rw [set_last]
      exact ex_nil
/-- names: words, all unlike -/
structure Names (fs : List Str) : Prop where
  w : ∀ z ∈ fs, Word z
  nd : fs.Nodup
theorem r_lnames (n : Nat) (ns : List Int) {k many : Nat} (h6 : many ≤ 6) {S : Hs} (hS : NR S) : ∃ fs : List Str, Names fs ∧ fs.length = many ∧ (Mn (n + 3)).cal "_law_names" [zs ns, .int k, .int many] S = .ok (.frs (.lst (fs.map .str))) S := by
  obtain ⟨η', S', e1, fs, a5, a6, a7, a8, a9, a10, a12, a13, a14, f1, f2, e2, e3⟩ := for_ok (body := fun η1 S2 => Oz.exec (Mn (n + 2)) w4__law_names η1 S2) (t := .nm 5) (lk := []) (xs := rngL 0 many) (η := sh (zs ns) k many S.length none none none none none none none none none) (S := S ++ [.lst []])
    (fun i η T => ∃ fs a5 a6 a7 a8 a9 a10 a12 a13 a14, fs.length = i ∧ Names fs ∧ T = S ++ [.lst (fs.map .str)] ∧ η = sh (zs ns) k many S.length a5 a6 a7 a8 a9 a10 a12 a13 a14)
    ⟨[], _, _, _, _, _, _, _, _, _, rfl, ⟨fun z h => by simp at h, List.nodup_nil⟩, rfl, rfl⟩ (fun _ _ _ _ => lock_nil _)
    (fun i x η T ex ⟨fs, a5, a6, a7, a8, a9, a10, a12, a13, a14, q1, q2, q3, q4⟩ => by
      subst q3 q4
      obtain ⟨il, rfl⟩ := rng_at ex
      obtain ⟨z, b6, b7, b8, b9, b10, b12, b13, b14, z1, z2, z3⟩ := names_step n ns (k := k) (i := i) (many := many) hS q1 (by omega) q2.nd a6 a7 a8 a9 a10 a12 a13 a14
      refine ⟨_, rfl, _, _, .inl z3, fs ++ [z], _, _, _, _, _, _, _, _, _, by simp [q1], ⟨fun y hy => ?_, ?_⟩, rfl, rfl⟩
      · rcases List.mem_append.mp hy with hy | hy
        · exact q2.w y hy
        · simp at hy; rw [hy]; exact z1
      · rw [List.nodup_append]
        refine ⟨q2.nd, by simp, fun y hy w hw => ?_⟩
        simp at hw
        rw [hw]
        intro e; subst e; exact z2 hy)
  subst e2 e3
  refine ⟨fs, f2, by rw [f1, rngL_len], ?_⟩
  rw [u__law_names]
  refine cal_ref (r := 0) (T := [.lst (fs.map .str)]) rfl ?_ hS rfl (nrs_map_str _)
  show exec (Mn (n + 2)) b__law_names [some (zs ns), some (.int k), some (.int many), none, none, none, none, none, none, none, none, none, none, none, none, none, none] S = _
  unfold b__law_names
  refine ex_nx (x_asg (.tup [.ref S.length, .str abc]) (S ++ [.lst []]) (v_tup (vs_cons (v_alc (f_lst vs_nil (by decide))) (vs_cons v_cst vs_nil)) (show 2 ≤ 1000000 by decide)) rfl) ?_
  refine ex_nx (x_for [] (rngL 0 many) _ (ev_rng1 (v_var rfl) (by omega)) e1) ?_
  exact ex_ret (x_ret _ _ (v_var rfl))
end K16
set_option Elab.async false
set_option linter.all false
set_option maxRecDepth 100000
set_option maxHeartbeats 4000000
namespace K16
open PySem L2 Oz

/-! ### kinds of rows -/
def kw : List Str := ["new", "free", "copy", "nil", "read", "write", "clear", "same", "none", "maybe", "go"]
def kk : List Vl := [.str "x", .str "x", .str "xx", .str "x", .str "xxf", .str "xfx", .str "xf", .str "xxk", .str "xk", .str "k", .str "k"]
theorem r_kinds (n : Nat) {S : Hs} (hS : NR S) : (Mn (n + 1)).cal "_law_kinds" [] S = .ok (.frs (.dct (kw.map Sum.inr) kk)) S := by
  rw [u__law_kinds]
  refine cal_frs (T := []) rfl ?_ hS (by decide)
  show exec (Mn n) b__law_kinds [] S = _
  unfold b__law_kinds
  have hv : evs (Mn n) (.cons (.cst (.str "x")) (.cons (.cst (.str "x")) (.cons (.cst (.str "xx")) (.cons (.cst (.str "x")) (.cons (.cst (.str "xxf")) (.cons (.cst (.str "xfx")) (.cons (.cst (.str "xf")) (.cons (.cst (.str "xxk")) (.cons (.cst (.str "xk")) (.cons (.cst (.str "k")) (.cons (.cst (.str "k")) .nil))))))))))) [] (S ++ [.dct [] []]) = .ok kk (S ++ [.dct [] []]) :=
    vs_cons v_cst (vs_cons v_cst (vs_cons v_cst (vs_cons v_cst (vs_cons v_cst (vs_cons v_cst (vs_cons v_cst (vs_cons v_cst (vs_cons v_cst (vs_cons v_cst (vs_cons v_cst vs_nil))))))))))
  rw [List.append_nil]
  refine ex_ret (x_retf _ _ ?_)
  simp only [evf, hv]
  rw [if_pos ⟨trivial, nrs_lim _ _ (by decide), by decide, rfl, by decide⟩]
  rfl
structure WK (w k : Str) : Prop where
  l1 : kv_PLACES.lookup w = some (.str k)
  l2 : lookG (kw.map Sum.inr) kk (Sum.inr w : Key) = some (.str k)
  h3 : k.length ≤ 3
  h2 : (k.cps.toList.filter (· == 120)).length ≤ 2
  hc : ∀ c ∈ k.cps.toList, c = 120 ∨ c = 102 ∨ c = 107
  w5 : w.length ≤ 5
  ok : PyData.strOk w = true
theorem wk_all : ∀ w ∈ kw, ∃ k, WK w k := by
  intro w hw
  simp only [kw, List.mem_cons, List.not_mem_nil, or_false] at hw
  rcases hw with rfl | rfl | rfl | rfl | rfl | rfl | rfl | rfl | rfl | rfl | rfl
  · exact ⟨"x", rfl, rfl, by decide, by decide, by decide, by decide, by decide +kernel⟩
  · exact ⟨"x", rfl, rfl, by decide, by decide, by decide, by decide, by decide +kernel⟩
  · exact ⟨"xx", rfl, rfl, by decide, by decide, by decide, by decide, by decide +kernel⟩
  · exact ⟨"x", rfl, rfl, by decide, by decide, by decide, by decide, by decide +kernel⟩
  · exact ⟨"xxf", rfl, rfl, by decide, by decide, by decide, by decide, by decide +kernel⟩
  · exact ⟨"xfx", rfl, rfl, by decide, by decide, by decide, by decide, by decide +kernel⟩
  · exact ⟨"xf", rfl, rfl, by decide, by decide, by decide, by decide, by decide +kernel⟩
  · exact ⟨"xxk", rfl, rfl, by decide, by decide, by decide, by decide, by decide +kernel⟩
  · exact ⟨"xk", rfl, rfl, by decide, by decide, by decide, by decide, by decide +kernel⟩
  · exact ⟨"k", rfl, rfl, by decide, by decide, by decide, by decide, by decide +kernel⟩
  · exact ⟨"k", rfl, rfl, by decide, by decide, by decide, by decide, by decide +kernel⟩
theorem ix_kinds {S : Hs} {w k : Str} (h : WK w k) : idxop S (.dct (kw.map Sum.inr) kk) (.str w) = some (.str k) := h.l2
/-! ### a row -/
theorem rowNames_len {names : List Str} {many : Int} : ∀ {cs : List Nat} {xs : List Vl}, Pls names many cs xs → (rowNames cs xs).length = (cs.filter (· == 120)).length
  | _, _, .nil => rfl
  | c :: cs, x :: xs, .cons h r => by
    have ih := rowNames_len r
    simp only [rowNames, List.length_append, ih, List.filter_cons]
    cases h <;> simp <;> omega
def rs (s : Vl) (k : Int) (nm : Vl) (many : Int) (w : Str) (a5 a6 : Option Vl) (fl ju : Int) (a9 : Option Vl) (r : Nat) (row : List Vl) (a12 : Option Vl) : Sg := [some s, some (.int k), some nm, some (.int many), some (.str w), a5, a6, some (.int fl), some (.int ju), a9, some (.ref r), some (.tup row), a12]
theorem row_loop (n : Nat) {names : List Str} {s : Vl} {k : Int} {nm : Vl} {many : Int} (hm : 0 ≤ many) {w : Str} {a5 a6 : Option Vl} {fl ju : Int} (f0 : 0 ≤ fl) (f1 : fl < 2) {a9 : Option Vl} {S : Hs} : ∀ (cs : List Nat) (ts : List Str) (row : List Vl) (a12 : Option Vl), row.length + cs.length ≤ 1000 → row ≠ [] → (∀ c ∈ cs, c = 120 ∨ c = 102 ∨ c = 107) → (cs.filter (· == 120)).length ≤ ts.length → (∀ t ∈ ts, t ∈ names) →
    ∃ items ts' b12, Pls names many cs items ∧ forL (fun η1 S2 => exec (Mn n) w1__law_row η1 S2) (.nm 12) [] (zc cs) (rs s k nm many w a5 a6 fl ju a9 S.length row a12) (S ++ [.lst (ts.map .str)]) = .nx (rs s k nm many w a5 a6 fl ju a9 S.length (row ++ items) b12) (S ++ [.lst ((ts' : List Str).map .str)])
  | [], ts, row, a12, _, _, _, _, _ => ⟨[], ts, a12, .nil, by rw [List.append_nil]; unfold forL zc; rw [List.map_nil]; simp only; rw [if_pos (lock_nil _)]⟩
  | c :: cs, ts, row, a12, hl, h0, hc, hx, ht => by
    have go : ∀ (x : Vl) (ts1 : List Str), Pl names many c x → (cs.filter (· == 120)).length ≤ ts1.length → (∀ t ∈ ts1, t ∈ names) → exec (Mn n) w1__law_row (rs s k nm many w a5 a6 fl ju a9 S.length row (some (.str ⟨#[c]⟩))) (S ++ [.lst (ts.map .str)]) = .nx (rs s k nm many w a5 a6 fl ju a9 S.length (row ++ [x]) (some (.str ⟨#[c]⟩))) (S ++ [.lst (ts1.map .str)]) →
        ∃ items ts' b12, Pls names many (c :: cs) items ∧ forL (fun η1 S2 => exec (Mn n) w1__law_row η1 S2) (.nm 12) [] (zc (c :: cs)) (rs s k nm many w a5 a6 fl ju a9 S.length row a12) (S ++ [.lst (ts.map .str)]) = .nx (rs s k nm many w a5 a6 fl ju a9 S.length (row ++ items) b12) (S ++ [.lst ((ts' : List Str).map .str)]) := fun x ts1 px hx1 ht1 he => by
      obtain ⟨items, ts', b12, p, e⟩ := row_loop n hm f0 f1 cs ts1 (row ++ [x]) (some (.str ⟨#[c]⟩)) (by simp only [List.length_append, List.length_cons, List.length_nil] at hl ⊢; omega) (by simp) (fun d hd => hc d (List.mem_cons_of_mem _ hd)) hx1 ht1
      refine ⟨x :: items, ts', b12, .cons px p, ?_⟩
      have eb : bindT (.nm 12) (.str ⟨#[c]⟩) (rs s k nm many w a5 a6 fl ju a9 S.length row a12) = some (rs s k nm many w a5 a6 fl ju a9 S.length row (some (.str ⟨#[c]⟩))) := rfl
      show forL _ _ _ (.str ⟨#[c]⟩ :: zc cs) _ _ = _
      unfold forL
      rw [if_pos (lock_nil _), eb]
      simp only [he]
      rw [e]
      simp
    have la : row.length + 1 ≤ 1000000 := by rw [List.length_cons] at hl; omega
    rcases hc c (List.mem_cons_self ..) with rfl | rfl | rfl
    · have e : decide ((⟨#[120]⟩ : Str) = Str.ofString "x") = true := by decide
      cases ts with
      | nil => simp at hx
      | cons t ts =>
        refine go (.str t) ts (.x t (ht t (List.mem_cons_self ..))) (by simp at hx; simpa using hx) (fun u hu => ht u (List.mem_cons_of_mem _ hu)) ?_
        unfold w1__law_row
        have hlast : (S ++ [Ob.lst ((t :: ts).map .str)])[S.length]? = some (.lst (.str t :: ts.map .str)) := List.getElem?_concat_length
        have := v_mut (M := Mn n) (η := rs s k nm many w a5 a6 fl ju a9 S.length row (some (.str ⟨#[120]⟩))) (a := .var 10) (S := S ++ [Ob.lst ((t :: ts).map .str)]) (v_var rfl) (lstAt_last _ _) (vs_cons v_cst vs_nil) hlast (pop0 (x := .str t) (xs := ts.map .str))
        rw [set_last] at this
        refine ex_nx (x_ite1 _ (v_cmp (d := true) (v_var rfl) v_cst (by simp only [cmpop, eqop, eqS, e])) (ex_nx (x_asg _ _ (v_bin (v_var rfl) (v_tup (vs_cons this vs_nil) (show 1 ≤ 1000000 by decide)) (b_addt la h0)) rfl) ex_nil)) ?_
        exact ex_nil
    · have e : decide ((⟨#[102]⟩ : Str) = Str.ofString "x") = false := by decide
      have e2 : decide ((⟨#[102]⟩ : Str) = Str.ofString "f") = true := by decide
      have hf : fl = 0 ∨ fl = 1 := by omega
      obtain ⟨z, hz, hix⟩ : ∃ z : Str, (z = "l" ∨ z = "r") ∧ ∀ S, idxop S (.lst [.str "l", .str "r"]) (.int fl) = some (.str z) := by
        rcases hf with rfl | rfl
        · exact ⟨"l", .inl rfl, fun S => ix_lst (i := 0) rfl⟩
        · exact ⟨"r", .inr rfl, fun S => ix_lst (i := 1) rfl⟩
      refine go (.str z) ts (.f z hz) (by simpa using hx) ht ?_
      unfold w1__law_row
      refine ex_nx (x_ite0 _ (v_cmp (d := false) (v_var rfl) v_cst (by simp only [cmpop, eqop, eqS, e])) (ex_nx (x_asg _ _ (v_bin (v_var rfl) (v_tup (vs_cons (v_ite1 (v_cmp (d := true) (v_var rfl) v_cst (by simp only [cmpop, eqop, eqS, e2])) (v_idx (v_inl (f_lst (vs_cons v_cst (vs_cons v_cst vs_nil)) (by decide))) (v_var rfl) (hix _))) vs_nil) (show 1 ≤ 1000000 by decide)) (b_addt la h0)) rfl) ex_nil)) ?_
      exact ex_nil
    · have e : decide ((⟨#[107]⟩ : Str) = Str.ofString "x") = false := by decide
      have e2 : decide ((⟨#[107]⟩ : Str) = Str.ofString "f") = false := by decide
      refine go (.int (ju % (many + 1))) ts (.k _ (Int.emod_nonneg _ (by omega)) (by have := Int.emod_lt_of_pos ju (show 0 < many + 1 by omega); omega)) (by simpa using hx) ht ?_
      unfold w1__law_row
      refine ex_nx (x_ite0 _ (v_cmp (d := false) (v_var rfl) v_cst (by simp only [cmpop, eqop, eqS, e])) (ex_nx (x_asg _ _ (v_bin (v_var rfl) (v_tup (vs_cons (v_ite0 (v_cmp (d := false) (v_var rfl) v_cst (by simp only [cmpop, eqop, eqS, e2])) (v_bin (v_var rfl) (v_bin (v_var rfl) v_cst (b_add _ _)) (b_mod (by omega)))) vs_nil) (show 1 ≤ 1000000 by decide)) (b_addt la h0)) rfl) ex_nil)) ?_
      exact ex_nil
end K16
set_option Elab.async false
set_option linter.all false
set_option maxRecDepth 100000
set_option maxHeartbeats 4000000
namespace K16
open PySem L2 Oz

theorem ix_names {names : List Str} (h : names ≠ []) (m : Int) : ∃ t ∈ names, ∀ S, idxop S (.lst (names.map .str)) (.int (m % (((names.map Vl.str).length : Nat) : Int))) = some (.str t) := by
  have hl : 0 < names.length := List.length_pos_iff.mpr h
  have h0 := Int.emod_nonneg m (show ((names.map Vl.str).length : Int) ≠ 0 by rw [List.length_map]; omega)
  have h1 := Int.emod_lt_of_pos m (show (0 : Int) < ((names.map Vl.str).length : Int) by rw [List.length_map]; omega)
  obtain ⟨j, hj⟩ := nat_of h0
  rw [hj] at h1 ⊢
  rw [List.length_map] at h1
  have hj2 : j < names.length := by omega
  refine ⟨names[j], List.getElem_mem hj2, fun S => ix_lst ?_⟩
  rw [List.getElem?_map, List.getElem?_eq_getElem hj2]; rfl
def w15 : List Str := kw ++ (["read", "write", "none", "new"] : List Str)
theorem w15_mem : ∀ w ∈ w15, w ∈ kw := by decide
theorem r_row (n : Nat) (ns : List Int) {k : Nat} {names : List Str} (hne : names ≠ []) {many : Int} (hm : 0 ≤ many) {S : Hs} (hS : NR S) : ∃ v, Row names many v ∧ (Mn (n + 3)).cal "_law_row" [zs ns, .int k, .lst (names.map .str), .int many] S = .ok (.val v) S := by
  obtain ⟨ds, hd, hc⟩ := r_digits n ns (k := k) (sizes := [15, 97, 89, 2, 83]) (by decide) (by decide) hS
  obtain ⟨wd, one, two, fl, ju, rfl, ⟨w0, w1⟩, ⟨o0, o1⟩, ⟨t0, t1⟩, ⟨f0, f1⟩, _⟩ := digs5 hd
  obtain ⟨wi, rfl⟩ := nat_of w0
  have hwi : wi < w15.length := by
    have : w15.length = 15 := by decide
    omega
  obtain ⟨w, hw⟩ : ∃ w, w15[wi]? = some w := ⟨_, List.getElem?_eq_getElem hwi⟩
  obtain ⟨kd, hk⟩ := wk_all w (w15_mem w (List.mem_of_getElem? hw))
  have hw2 : (kw.map Vl.str ++ [Vl.str "read", .str "write", .str "none", .str "new"])[wi]? = some (.str w) := by
    have e : kw.map Vl.str ++ [Vl.str "read", .str "write", .str "none", .str "new"] = w15.map Vl.str := rfl
    rw [e, List.getElem?_map, hw]; rfl
  obtain ⟨ta, a1, a2⟩ := ix_names hne one
  obtain ⟨tb, b1, b2⟩ := ix_names hne two
  have hpos : (0 : Int) < (((names.map Vl.str).length : Nat) : Int) := by
    have := List.length_pos_iff.mpr hne
    rw [List.length_map]; omega
  have hT : NR (S ++ [.lst [.str ta, .str tb]]) := hS.one (by simp only [Ob.nr, nrs, Vl.nr, Bool.and_self])
  have len3 : kd.cps.toList.length ≤ 3 := hk.h3
  obtain ⟨items, ts', b12, p, e⟩ := row_loop (n + 2) (names := names) (s := zs ns) (k := k) (nm := .lst (names.map .str)) (many := many) hm (w := w) (a5 := some (.int one)) (a6 := some (.int two)) (fl := fl) (ju := ju) f0 f1 (a9 := some (.lst (kw.map .str))) (S := S) kd.cps.toList [ta, tb] [.str w] none (by simp only [List.length_cons, List.length_nil]; omega) (by simp) hk.hc hk.h2 (fun t ht => by
    simp at ht
    rcases ht with rfl | rfl
    · exact a1
    · exact b1)
  have R : Row names many (.tup (.str w :: items)) := ⟨w, kd, items, rfl, hk.l1, p, hk.h3, by rw [rowNames_len p]; exact hk.h2, hk.w5, hk.ok⟩
  refine ⟨.tup (.str w :: items), R, ?_⟩
  rw [u__law_row]
  refine cal_val (T := [.lst (ts'.map .str)]) rfl ?_ hS R.nr
  show exec (Mn (n + 2)) b__law_row [some (zs ns), some (.int k), some (.lst (names.map .str)), some (.int many), none, none, none, none, none, none, none, none, none] S = _
  unfold b__law_row
  refine ex_nx (x_asg (.lst [.int wi, .int one, .int two, .int fl, .int ju]) _ (v_call (vs_cons (v_var rfl) (vs_cons (v_var rfl) (vs_cons (v_inl (f_lst (vs_cons v_cst (vs_cons v_cst (vs_cons v_cst (vs_cons v_cst (vs_cons v_cst vs_nil))))) (show 5 ≤ 1000000 by decide))) vs_nil))) hc) rfl) ?_
  refine ex_nx (x_asg (.lst (kw.map .str)) _ (v_inl (f_lst (vs_cons v_cst (vs_cons v_cst (vs_cons v_cst (vs_cons v_cst (vs_cons v_cst (vs_cons v_cst (vs_cons v_cst (vs_cons v_cst (vs_cons v_cst (vs_cons v_cst (vs_cons v_cst vs_nil))))))))))) (show 11 ≤ 1000000 by decide))) rfl) ?_
  refine ex_nx (x_asg (.str w) _ (v_idx (v_inl (f_cat (v_var rfl) (v_inl (f_lst (vs_cons v_cst (vs_cons v_cst (vs_cons v_cst (vs_cons v_cst vs_nil)))) (show 4 ≤ 1000000 by decide))) rfl rfl (show 15 ≤ 1000000 by decide))) (v_var rfl) (ix_lst hw2)) rfl) ?_
  refine ex_nx (x_asg (.ref S.length) (S ++ [.lst [.str ta, .str tb]]) (v_alc (f_lst (vs_cons (v_idx (v_var rfl) (v_bin (v_var rfl) (v_b1 (v_var rfl) (len_lst _ _)) (b_mod hpos)) (a2 _)) (vs_cons (v_idx (v_var rfl) (v_bin (v_var rfl) (v_b1 (v_var rfl) (len_lst _ _)) (b_mod hpos)) (b2 _)) vs_nil)) (show 2 ≤ 1000000 by decide))) rfl) ?_
  refine ex_nx (x_asg (.tup [.str w]) _ (v_tup (vs_cons (v_var rfl) vs_nil) (show 1 ≤ 1000000 by decide)) rfl) ?_
  change Oz.exec (Mn (n + 2)) _ (rs (zs ns) k (.lst (names.map .str)) many w (some (.int one)) (some (.int two)) fl ju (some (.lst (kw.map .str))) S.length [.str w] none) (S ++ [.lst ([ta, tb].map .str)]) = _
  refine ex_nx (x_for [] (zc kd.cps.toList) (S ++ [.lst ([ta, tb].map .str)]) (ev_chars (z := kd) (v_idx (v_call vs_nil (r_kinds (n + 1) hT)) (v_var rfl) (ix_kinds hk))) e) ?_
  exact ex_ret (x_ret _ _ (v_var rfl))
/-! ### lines -/
theorem r_lines (n : Nat) (ns : List Int) {k most : Nat} (h1 : 1 ≤ most) (h24 : most ≤ 24) {S : Hs} (hS : NR S) : ∃ names rows, Names names ∧ names.length ≤ 3 ∧ Rows names rows ∧ (Mn (n + 4)).cal "_law_lines" [zs ns, .int k, .int most] S = .ok (.frs (.lst rows)) S := by
  obtain ⟨ds, hd, hc⟩ := r_digits (n + 1) ns (k := k) (sizes := [most, 3]) (fun s hs => by
    simp at hs
    rcases hs with rfl | rfl <;> omega) (show 2 ≤ 1000 by decide) hS
  obtain ⟨mn, tu, rfl, ⟨m0, m1⟩, ⟨t0, t1⟩⟩ := digs2 hd
  obtain ⟨m, rfl⟩ := nat_of m0
  obtain ⟨tn, rfl⟩ := nat_of t0
  obtain ⟨fs, hn, hl, hc2⟩ := r_lnames n ns (k := k + 1) (many := 1 + tn) (by omega) hS
  have e1 : ((k + 1 : Nat) : Int) = (k : Int) + 1 := by omega
  have e2 : ((1 + tn : Nat) : Int) = 1 + (tn : Int) := by omega
  rw [e1, e2] at hc2
  have hne : fs ≠ [] := fun z => by rw [z] at hl; simp at hl; omega
  have em : (1 : Int) + (m : Int) = ((1 + m : Nat) : Int) := by omega
  obtain ⟨rows, l, p, e⟩ := ev_compE (M := Mn (n + 3)) (own := [6]) (elt := .call "_law_row" (.cons (.var 0) (.cons (.bin .Add (.bin .Add (.var 1) (.cst (.int 2))) (.var 6)) (.cons (.var 5) (.cons (.bin .Add (.cst (.int 1)) (.var 3)) .nil))))) (t := .nm 6) (s := .rng1 (.bin .Add (.cst (.int 1)) (.var 3))) (η := [some (zs ns), some (.int k), some (.int most), some (.int m), some (.int tn), some (.lst (fs.map .str)), none]) (S := S) (S1 := S) [] (rngL 0 (1 + m)) (fun v => Row fs (1 + (m : Int)) v) (ev_rng1 (by rw [← em]; exact v_bin v_cst (v_var rfl) (b_add _ _)) (by omega)) (lock_nil S) (by rw [rngL_len]; omega) (fun y hy => hy.nr) (fun x hx acc ha => by
      obtain ⟨j, hj⟩ := List.getElem?_of_mem hx
      obtain ⟨_, rfl⟩ := rng_at hj
      obtain ⟨v, hv, hvc⟩ := r_row n ns (k := k + 2 + j) hne (many := 1 + (m : Int)) (by omega) (hS.one (o := .lst acc) ha)
      have e3 : ((k + 2 + j : Nat) : Int) = (k : Int) + 2 + (j : Int) := by omega
      rw [e3] at hvc
      exact ⟨_, v, hv, rfl, v_call (vs_cons (v_var rfl) (vs_cons (v_bin (v_bin (v_var rfl) v_cst (b_add _ _)) (v_var rfl) (b_add _ _)) (vs_cons (v_var rfl) (vs_cons (v_bin v_cst (v_var rfl) (b_add _ _)) vs_nil)))) hvc⟩)
  rw [rngL_len] at l
  have hrl : ((rows.length : Nat) : Int) = 1 + (m : Int) := by omega
  refine ⟨fs, rows, hn, by omega, ⟨hn.w, by omega, fun v hv => by rw [hrl]; exact p v hv, by omega, by omega⟩, ?_⟩
  rw [u__law_lines]
  refine cal_frs (T := []) rfl ?_ hS (nrs_of fun v hv => (p v hv).nr)
  show exec (Mn (n + 3)) b__law_lines [some (zs ns), some (.int k), some (.int most), none, none, none, none] S = _
  rw [List.append_nil]
  unfold b__law_lines
  refine ex_nx (x_asg (.lst [.int m, .int tn]) _ (v_call (vs_cons (v_var rfl) (vs_cons (v_var rfl) (vs_cons (v_inl (f_lst (vs_cons (v_var rfl) (vs_cons v_cst vs_nil)) (show 2 ≤ 1000000 by decide))) vs_nil))) hc) rfl) ?_
  refine ex_nx (x_asg (.lst (fs.map .str)) _ (v_call (vs_cons (v_var rfl) (vs_cons (v_bin (v_var rfl) v_cst (b_add _ _)) (vs_cons (v_bin v_cst (v_var rfl) (b_add _ _)) vs_nil))) hc2) rfl) ?_
  exact ex_ret (x_retf _ _ e)
end K16
set_option Elab.async false
set_option linter.all false
set_option maxRecDepth 100000
set_option maxHeartbeats 4000000
namespace K16
open PySem L2 Oz

/-! ### rows as data -/
theorem ok_of {z : Str} (h : ∀ c ∈ z.cps.toList, c < 0x110000) : PyData.strOk z = true := by
  unfold PyData.strOk
  rw [← Array.all_toList]
  exact List.all_eq_true.mpr fun c hc => decide_eq_true (h c hc)
theorem abc_small : ∀ c ∈ abc.cps.toList, c < 0x110000 := by decide
theorem Word.ok {z : Str} (h : Word z) : PyData.strOk z = true := ok_of fun c hc => abc_small c (h.al c hc)
theorem Pl.data {names : List Str} {many : Int} (hw : ∀ z ∈ names, Word z) (hm : many ≤ 1000) {c : Nat} {x : Vl} (h : Pl names many c x) : x.pd = true ∧ x.dep = 0 ∧ x.wt ≤ 20 := by
  cases h with
  | x z hz => exact ⟨by simp only [Vl.pd]; exact (hw z hz).ok, by simp only [Vl.dep], by simp only [Vl.wt]; have := (hw z hz).hi; omega⟩
  | f z hz => rcases hz with rfl | rfl <;> exact ⟨by simp only [Vl.pd]; decide +kernel, by simp only [Vl.dep], by simp only [Vl.wt]; decide⟩
  | k i h0 h1 => exact ⟨by simp only [Vl.pd]; exact decide_eq_true (by omega), by simp only [Vl.dep], by simp only [Vl.wt]; omega⟩
theorem Pls.data {names : List Str} {many : Int} (hw : ∀ z ∈ names, Word z) (hm : many ≤ 1000) : ∀ {cs : List Nat} {xs : List Vl}, Pls names many cs xs → pds xs = true ∧ deps xs = 0 ∧ wts xs ≤ 21 * cs.length
  | _, _, .nil => ⟨by simp only [pds], by simp only [deps], by simp only [wts]; omega⟩
  | _, _, .cons h r => by
    obtain ⟨a1, a2, a3⟩ := h.data hw hm
    obtain ⟨b1, b2, b3⟩ := r.data hw hm
    exact ⟨by simp only [pds, a1, b1, Bool.and_self], by simp only [deps, a2, b2]; rfl, by simp only [wts, List.length_cons]; omega⟩
theorem Row.data {names : List Str} {many : Int} (hw : ∀ z ∈ names, Word z) (hm : many ≤ 1000) {v : Vl} (h : Row names many v) : v.pd = true ∧ v.dep ≤ 1 ∧ v.wt ≤ 100 := by
  obtain ⟨w, k, xs, rfl, hk, hp, h3, h2, h5, ho⟩ := h.ex
  obtain ⟨b1, b2, b3⟩ := hp.data hw hm
  have e : k.cps.toList.length = k.length := rfl
  refine ⟨by simp only [Vl.pd, pds, ho, b1, Bool.and_self], by simp only [Vl.dep, deps, b2]; decide, ?_⟩
  simp only [Vl.wt, wts]; omega
theorem strs_data {zs : List Str} (h : ∀ z ∈ zs, Word z) (hl : zs.length ≤ 100) : (Vl.lst (zs.map .str)).pd = true ∧ (Vl.lst (zs.map .str)).dep ≤ 1 ∧ (Vl.lst (zs.map .str)).wt ≤ 700 := by
  refine ⟨?_, ?_, ?_⟩
  · simp only [Vl.pd]
    exact pds_of fun x hx => by
      obtain ⟨z, hz, rfl⟩ := List.mem_map.mp hx
      simp only [Vl.pd]; exact (h z hz).ok
  · simp only [Vl.dep]
    have : deps (zs.map Vl.str) ≤ 0 := deps_of fun x hx => by
      obtain ⟨z, hz, rfl⟩ := List.mem_map.mp hx
      simp only [Vl.dep]; omega
    omega
  · simp only [Vl.wt]
    have : wts (zs.map Vl.str) ≤ (zs.map Vl.str).length * (6 + 1) := wts_of fun x hx => by
      obtain ⟨z, hz, rfl⟩ := List.mem_map.mp hx
      simp only [Vl.wt]; exact (h z hz).hi
    rw [List.length_map] at this
    omega
theorem rows_data {names : List Str} {rows : List Vl} (R : Rows names rows) : (Vl.lst rows).pd = true ∧ (Vl.lst rows).dep ≤ 2 ∧ (Vl.lst rows).wt ≤ 3000 := by
  have hm : ((rows.length : Nat) : Int) ≤ 1000 := by have := R.hi; omega
  have h := fun v hv => (R.ok v hv).data R.w hm
  refine ⟨?_, ?_, ?_⟩
  · simp only [Vl.pd]
    exact pds_of fun x hx => (h x hx).1
  · simp only [Vl.dep]
    have : deps rows ≤ 1 := deps_of fun x hx => (h x hx).2.1
    omega
  · simp only [Vl.wt]
    have : wts rows ≤ rows.length * (100 + 1) := wts_of fun x hx => (h x hx).2.2
    have := R.hi
    omega
theorem r_same (n : Nat) {xs : List Vl} (h : (Vl.lst xs).pd = true) (hd : (Vl.lst xs).dep ≤ 60) (hw : (Vl.lst xs).wt ≤ 2 ^ 20) {S : Hs} (hS : NR S) : (Mn (n + 1)).cal "_law_same" [.lst xs, .lst xs] S = .ok (.val (.bl true)) S := by
  rw [u__law_same]
  refine cal_val (T := []) rfl ?_ hS (by simp only [Vl.nr])
  show exec (Mn n) b__law_same [some (.lst xs), some (.lst xs)] S = _
  obtain ⟨z, hz⟩ := repr_ok S h hd hw
  rw [List.append_nil]
  unfold b__law_same
  refine ex_nx (x_ite0 S (v_isD (v_var rfl) rfl) ex_nil) ?_
  exact ex_ret (x_ret _ _ (v_and1 (v_cmp (v_var rfl) (v_var rfl) (show cmpop .Eq S _ _ = some true from eqop_self S h hd)) (v_cmp (d := true) (v_b1 (v_var rfl) hz) (v_b1 (v_var rfl) hz) (by simp only [cmpop, eqop, eqS, decide_true]))))
theorem same2 (n : Nat) {a b : Vl} (ha : a.pd = true ∧ a.dep ≤ 10 ∧ a.wt ≤ 3000) (hb : b.pd = true ∧ b.dep ≤ 10 ∧ b.wt ≤ 3000) {S : Hs} (hS : NR S) : (Mn (n + 1)).cal "_law_same" [.lst [a, b], .lst [a, b]] S = .ok (.val (.bl true)) S :=
  r_same n (by simp only [Vl.pd, pds, ha.1, hb.1, Bool.and_self]) (by simp only [Vl.dep, deps]; have := ha.2.1; have := hb.2.1; omega) (by simp only [Vl.wt, wts]; have := ha.2.2; have := hb.2.2; omega) hS
/-! ### sets -/
theorem set_same {xs ys : List Str} (h : ∀ z, z ∈ xs ↔ z ∈ ys) : sortStr (dedupS xs) = sortStr (dedupS ys) :=
  sort_congr ((List.perm_ext_iff_of_nodup (dedup_nd xs) (dedup_nd ys)).mpr fun z => by rw [Oz.dedup_mem, Oz.dedup_mem]; exact h z)
theorem set_nodup {xs ys : List Str} (hy : ys.Nodup) (h : ∀ z, z ∈ xs ↔ z ∈ ys) : sortStr (dedupS xs) = sortStr ys :=
  sort_congr ((List.perm_ext_iff_of_nodup (dedup_nd xs) hy).mpr fun z => by rw [Oz.dedup_mem]; exact h z)
/-! ### not the same -/
theorem eqvAll_no : ∀ {ds es : List PyData} {i : Nat} {d e : PyData}, ds[i]? = some d → es[i]? = some e → PyData.eqv d e = false → PyData.eqvAll ds es = false
  | [], _, _, _, _, h, _, _ => by simp at h
  | _ :: _, [], _, _, _, _, h, _ => by simp at h
  | d :: ds, e :: es, 0, _, _, h1, h2, h => by
    cases h1; cases h2
    simp only [PyData.eqvAll, h, Bool.false_and]
  | d :: ds, e :: es, i + 1, _, _, h1, h2, h => by
    simp only [PyData.eqvAll, eqvAll_no (by simpa using h1) (by simpa using h2) h, Bool.and_false]
theorem toDs_at : ∀ {xs : List Vl} {ds : List PyData} {i : Nat} {x : Vl}, toDs xs = some ds → xs[i]? = some x → ∃ d, x.toD = some d ∧ ds[i]? = some d
  | [], _, _, _, _, h => by simp at h
  | y :: xs, ds, i, x, h, e => by
    simp only [toDs] at h
    split at h
    · rename_i d ds' h1 h2
      cases h
      cases i with
      | zero => cases e; exact ⟨d, h1, rfl⟩
      | succ i =>
        obtain ⟨d', e1, e2⟩ := toDs_at h2 (by simpa using e)
        exact ⟨d', e1, by simpa using e2⟩
    · cases h
/-- two lists of rows that differ at a place -/
theorem rows_ne {S : Hs} {xs ys : List Vl} (hx : (Vl.lst xs).pd = true ∧ (Vl.lst xs).dep ≤ 2) (hy : (Vl.lst ys).pd = true ∧ (Vl.lst ys).dep ≤ 2) {i : Nat} {x y : Vl} (e1 : xs[i]? = some x) (e2 : ys[i]? = some y) (h : ∀ d e, x.toD = some d → y.toD = some e → PyData.eqv d e = false) : dataEq S (.lst xs) (.lst ys) = some false := by
  obtain ⟨d, d1, d2⟩ := dataOf_pd S hx.1
  obtain ⟨e, f1, f2⟩ := dataOf_pd S hy.1
  unfold dataEq
  rw [d1, f1]
  simp only
  rw [if_pos ⟨d2.shaped (by have := hx.2; omega), f2.shaped (by have := hy.2; omega)⟩]
  have g1 : (Vl.lst xs).toD = some d := by unfold dataOf at d1; rwa [inlS_nr _ _ (pd_nr _ hx.1)] at d1
  have g2 : (Vl.lst ys).toD = some e := by unfold dataOf at f1; rwa [inlS_nr _ _ (pd_nr _ hy.1)] at f1
  simp only [Vl.toD] at g1 g2
  obtain ⟨ds, k1, rfl⟩ := Option.map_eq_some_iff.mp g1
  obtain ⟨es, k2, rfl⟩ := Option.map_eq_some_iff.mp g2
  obtain ⟨a, a1, a2⟩ := toDs_at k1 e1
  obtain ⟨b, b1, b2⟩ := toDs_at k2 e2
  simp only [PyData.eqv, eqvAll_no a2 b2 (h a b a1 b1)]
end K16
set_option Elab.async false
set_option linter.all false
set_option maxRecDepth 100000
set_option maxHeartbeats 4000000
namespace K16
open PySem L2 Oz

def lw (s : Vl) (k : Int) (a2 a3 a4 a5 a6 a7 a8 a9 a10 a11 a12 a13 a14 a15 : Option Vl) : Sg := [some s, some (.int k), a2, a3, a4, a5, a6, a7, a8, a9, a10, a11, a12, a13, a14, a15]
/-! ### the names that a law's own loop gathers -/
def pk : Vl → Option Vl
  | .tup [.str c, .str z] => if c = "x" then some (.str z) else none
  | _ => none
theorem pk_x {c z : Str} (h : c = "x") : pk (.tup [.str c, .str z]) = some (.str z) := if_pos h
theorem pk_n {c z : Str} (h : ¬ c = "x") : pk (.tup [.str c, .str z]) = none := if_neg h
theorem pk_i {c : Str} {i : Int} : pk (.tup [.str c, .int i]) = none := rfl
theorem pick_names {names : List Str} {many : Int} : ∀ {cs : List Nat} {xs : List Vl}, Pls names many cs xs → (zipL (zc cs) xs).filterMap pk = (rowNames cs xs).map .str
  | _, _, .nil => by simp [zc, zipL, rowNames]
  | c :: cs, x :: xs, .cons h r => by
    have ih := pick_names r
    have ez : zipL (zc (c :: cs)) (x :: xs) = .tup [.str ⟨#[c]⟩, x] :: zipL (zc cs) xs := rfl
    rw [ez, List.filterMap_cons]
    cases h with
    | x z hz =>
      have e2 : (⟨#[120]⟩ : Str) = Str.ofString "x" := by decide
      rw [pk_x e2]
      simp only [ih, rowNames, if_true, List.map_append, List.map_cons, List.map_nil, List.cons_append, List.nil_append]
    | f z hz =>
      have e2 : ¬ (⟨#[102]⟩ : Str) = Str.ofString "x" := by decide
      rw [pk_n e2]
      simp only [ih, rowNames]
      simp
    | k i h0 h1 =>
      rw [pk_i]
      simp only [ih, rowNames]
      simp
theorem e_pick (n : Nat) {names : List Str} {many : Int} {v : Vl} (h : Row names many v) {s : Vl} {k : Int} {a2 a3 a4 a5 a6 a7 a9 a10 a11 a12 a13 a14 a15 : Option Vl} {S : Hs} (hS : NR S) : evf (Mn (n + 1)) q1_law (lw s k a2 a3 a4 a5 a6 a7 (some v) a9 a10 a11 a12 a13 a14 a15) S = .ok (.lst ((rn v).map .str)) S := by
  obtain ⟨w, kd, xs, rfl, hk, hp, h3, _⟩ := h.ex
  have hkw : w ∈ kw := by
    have : ∀ (l : List (Str × Vl)) (x : Vl), l.lookup w = some x → w ∈ l.map (·.1) := by
      intro l
      induction l with
      | nil => intro x h; simp at h
      | cons p l ih =>
        intro x h
        rw [List.lookup_cons] at h
        split at h
        · rename_i hq
          have : w = p.1 := by simpa using hq
          rw [this]; simp
        · simp only [List.map_cons, List.mem_cons]; exact .inr (ih x h)
    exact this _ _ hk
  obtain ⟨kd', hk'⟩ := wk_all w hkw
  have e := hk'.l1
  rw [hk] at e
  cases e
  have es : evS (Mn (n + 1)) (.zip (.idx (.call "_law_kinds" .nil) (.idx (.var 8) (.cst (.int 0)))) (.slt (.var 8) (.some (.cst (.int 1))) .none)) (lw s k a2 a3 a4 a5 a6 a7 (some (.tup (.str w :: xs))) a9 a10 a11 a12 a13 a14 a15) S = .ok ([], zipL (charsL kd) xs) S := by
    have x1 : ev (Mn (n + 1)) (.idx (.call "_law_kinds" .nil) (.idx (.var 8) (.cst (.int 0)))) (lw s k a2 a3 a4 a5 a6 a7 (some (.tup (.str w :: xs))) a9 a10 a11 a12 a13 a14 a15) S = .ok (.str kd) S := v_idx (v_call vs_nil (r_kinds n hS)) (v_idx (v_var rfl) v_cst (ix_tup (i := 0) rfl)) (ix_kinds hk')
    have x2 : ev (Mn (n + 1)) (.slt (.var 8) (.some (.cst (.int 1))) .none) (lw s k a2 a3 a4 a5 a6 a7 (some (.tup (.str w :: xs))) a9 a10 a11 a12 a13 a14 a15) S = .ok (.tup xs) S := v_slt (v_var rfl) (o_some v_cst) o_none cut1
    simp only [evS, x1, x2, Res.bind, ofO, walkT, walkS, List.append_nil]
  refine (ev_compI (M := Mn (n + 1)) (own := [9, 10]) (t := .tp (.cons (.nm 9) (.cons (.nm 10) .nil))) [] (zipL (charsL kd) xs) pk es (lock_nil S) (Nat.le_trans (zip_len kd.cps.toList xs) (by have e : kd.cps.toList.length = kd.length := rfl; omega)) (fun p hq y hy => ?_) (fun p hq acc ha => ?_)).trans ?_
  · obtain ⟨c, x, rfl, px⟩ := zip_mem hp p hq
    cases px with
    | x z hz => rw [pk_x (show (⟨#[120]⟩ : Str) = Str.ofString "x" by decide)] at hy; cases hy; simp only [Vl.nr]
    | f z hz => rw [pk_n (show ¬ (⟨#[102]⟩ : Str) = Str.ofString "x" by decide)] at hy; cases hy
    | k i h0 h1 => cases hy
  · obtain ⟨c, x, rfl, px⟩ := zip_mem hp p hq
    refine ⟨_, rfl, ?_⟩
    cases px with
    | x z hz =>
      have e2 : (⟨#[120]⟩ : Str) = Str.ofString "x" := by decide
      have e : decide ((⟨#[120]⟩ : Str) = Str.ofString "x") = true := decide_eq_true e2
      exact .inr ⟨v_cmp (d := true) (v_var rfl) v_cst (by simp only [cmpop, eqop, eqS, e]), .str z, v_var rfl, pk_x e2⟩
    | f z hz =>
      have e2 : ¬ (⟨#[102]⟩ : Str) = Str.ofString "x" := by decide
      have e : decide ((⟨#[102]⟩ : Str) = Str.ofString "x") = false := decide_eq_false e2
      exact .inl ⟨v_cmp (d := false) (v_var rfl) v_cst (by simp only [cmpop, eqop, eqS, e]), pk_n e2⟩
    | k i h0 h1 =>
      have e : decide ((⟨#[107]⟩ : Str) = Str.ofString "x") = false := by decide
      exact .inl ⟨v_cmp (d := false) (v_var rfl) v_cst (by simp only [cmpop, eqop, eqS, e]), rfl⟩
  · have : rn (.tup (.str w :: xs)) = rowNames kd.cps.toList xs := by simp only [rn, hk]
    rw [this]
    exact congrArg (fun l => Res.ok (Ob.lst l) S) (pick_names hp)
theorem gather (n : Nat) {names : List Str} {rows : List Vl} (R : Rows names rows) {s : Vl} {k : Int} {a2 a3 a4 a5 a6 a8 a9 a10 a11 a12 a13 a14 a15 : Option Vl} {S : Hs} (hS : NR S) :
    ∃ b8, forL (fun η1 S2 => exec (Mn (n + 1)) w2_law η1 S2) (.nm 8) [] rows (lw s k a2 a3 a4 a5 a6 (some (.lst [])) a8 a9 a10 a11 a12 a13 a14 a15) S = .nx (lw s k a2 a3 a4 a5 a6 (some (.lst ((rows.flatMap rn).map .str))) b8 a9 a10 a11 a12 a13 a14 a15) S := by
  obtain ⟨η', S', e1, b8, e2, e3⟩ := for_ok (body := fun η1 S2 => Oz.exec (Mn (n + 1)) w2_law η1 S2) (t := .nm 8) (lk := []) (xs := rows) (η := lw s k a2 a3 a4 a5 a6 (some (.lst [])) a8 a9 a10 a11 a12 a13 a14 a15) (S := S)
    (fun i η T => ∃ b8, T = S ∧ η = lw s k a2 a3 a4 a5 a6 (some (.lst (((rows.take i).flatMap rn).map .str))) b8 a9 a10 a11 a12 a13 a14 a15) ⟨a8, rfl, rfl⟩ (fun _ _ _ _ => lock_nil _)
    (fun i x η T ex ⟨b8, q1, q2⟩ => by
      subst q1 q2
      have hx := R.ok x (List.mem_of_getElem? ex)
      have l1 := rn_len (names := names) (many := rows.length) (rows := rows.take i) fun v hv => R.ok v (List.mem_of_mem_take hv)
      have l2 := rn_len (names := names) (many := rows.length) (rows := [x]) fun v hv => by
        simp at hv; rw [hv]; exact hx
      have l3 := R.hi
      refine ⟨_, rfl, lw s k a2 a3 a4 a5 a6 (some (.lst (((rows.take (i + 1)).flatMap rn).map .str))) (some x) a9 a10 a11 a12 a13 a14 a15, T, .inl ?_, _, rfl, rfl⟩
      have et : ((rows.take (i + 1)).flatMap rn).map Vl.str = ((rows.take i).flatMap rn).map Vl.str ++ (rn x).map Vl.str := by
        rw [List.take_add_one, ex]
        simp
      rw [et]
      unfold w2_law
      refine ex_nx (x_asg _ _ (v_inl (f_cat (v_var rfl) (v_inl (e_pick n hx hS)) rfl rfl ?_)) rfl) ex_nil
      rw [List.length_map, List.length_map]
      simp only [List.length_take, List.length_cons, List.length_nil, List.flatMap_cons, List.flatMap_nil, List.append_nil] at l1 l2
      omega)
  subst e2 e3
  refine ⟨b8, ?_⟩
  rw [e1, List.take_length]
/-! ### asked twice, told things changed -/
theorem turns (n : Nat) {names : List Str} {rows : List Vl} (R : Rows names rows) {b : Bool} {r : Nat} {s : Vl} {k : Int} {a3 a4 a5 a8 a9 a10 a11 a12 a13 a14 a15 : Option Vl} {S : Hs} (hS : NR S) (hr : S[r]? = some (prog rows b)) :
    ∃ b11 T, NR T ∧ T[r]? = some (prog rows b) ∧ forL (fun η1 S2 => exec (Mn (n + 2)) w3_law η1 S2) (.nm 11) [] (rngL 0 2) (lw s k (some (.lst rows)) a3 a4 a5 (some (.ref r)) (some (.lst ((rows.flatMap rn).map .str))) a8 a9 a10 a11 a12 a13 a14 a15) S = .nx (lw s k (some (.lst rows)) a3 a4 a5 (some (.ref r)) (some (.lst ((rows.flatMap rn).map .str))) a8 a9 a10 b11 a12 a13 a14 a15) T := by
  obtain ⟨η', S', e1, b11, e2, e3, e4⟩ := for_ok (body := fun η1 S2 => Oz.exec (Mn (n + 2)) w3_law η1 S2) (t := .nm 11) (lk := []) (xs := rngL 0 2) (η := lw s k (some (.lst rows)) a3 a4 a5 (some (.ref r)) (some (.lst ((rows.flatMap rn).map .str))) a8 a9 a10 a11 a12 a13 a14 a15) (S := S)
    (fun i η T => ∃ b11, NR T ∧ T[r]? = some (prog rows b) ∧ η = lw s k (some (.lst rows)) a3 a4 a5 (some (.ref r)) (some (.lst ((rows.flatMap rn).map .str))) a8 a9 a10 b11 a12 a13 a14 a15) ⟨a11, hS, hr, rfl⟩ (fun _ _ _ _ => lock_nil _)
    (fun i x η T ex ⟨b11, q0, q1, q2⟩ => by
      subst q2
      have ip : IsP T (.ref r) rows b := isP_ref q1
      have hN := r_names n q0 R ip
      have hR := r_row_rows (n + 1) q0 (rows_nr R.ok) ip
      have l1 := rn_len R.ok
      have l2 := R.hi
      have wd : ∀ z ∈ sortStr (dedupS (rows.flatMap rn)), Word z := fun z hz => R.w z (rn_mem R.ok z (K16.dedup_mem.mp (sort_mem.mp hz)))
      have ll : (sortStr (dedupS (rows.flatMap rn))).length ≤ 100 := by
        have := set_len (rn_mem R.ok)
        have := R.n6
        omega
      have d1 := rows_data R
      have d2 := strs_data wd ll
      have hs := same2 (n + 1) (a := .lst rows) (b := .lst ((sortStr (dedupS (rows.flatMap rn))).map .str)) ⟨d1.1, by have := d1.2.1; omega, d1.2.2⟩ ⟨d2.1, by have := d2.2.1; omega, by have := d2.2.2; omega⟩ q0
      have m1 : hasM T (.ref r) "Program" "row_rows" = true := ip.hasM (by decide)
      have m2 : hasM T (.ref r) "Program" "names" = true := ip.hasM (by decide)
      have rl : r < T.length := (List.getElem?_eq_some_iff.mp q1).1
      obtain ⟨U1, hU1⟩ : ∃ U, U = T ++ [Ob.lst (rows ++ [.tup [.str "go", .int 0]])] := ⟨_, rfl⟩
      have n1 : NR U1 := by
        rw [hU1]
        exact q0.one (nrs_append (rows_nr R.ok) (by simp only [nrs, Vl.nr, Bool.and_self]))
      have p1 : U1[r]? = some (prog rows b) := by rw [hU1, List.getElem?_append_left rl]; exact q1
      have ip1 : IsP U1 (.ref r) rows b := isP_ref p1
      have hN1 := r_names n n1 R ip1
      have m3 : hasM U1 (.ref r) "Program" "names" = true := ip1.hasM (by decide)
      have rl1 : r < U1.length := (List.getElem?_eq_some_iff.mp p1).1
      refine ⟨_, rfl, lw s k (some (.lst rows)) a3 a4 a5 (some (.ref r)) (some (.lst ((rows.flatMap rn).map .str))) a8 a9 a10 (some x) a12 a13 a14 a15, U1 ++ [Ob.lst ((sortStr (dedupS (rows.flatMap rn))).map .str ++ [.str "zz"])], .inl ?_, some x, n1.one (nrs_append (nrs_map_str _) (by simp only [nrs, Vl.nr, Bool.and_self])), ?_, rfl⟩
      · unfold w3_law
        refine ex_nx (x_ite0 T (v_bnot (d := true) (v_call (r := .val (.bl true)) (vs_cons (v_inl (f_lst (vs_cons (v_mcl (v_var rfl) m1 vs_nil hR) (vs_cons (v_mcl (v_var rfl) m2 vs_nil hN) vs_nil)) (show 2 ≤ 1000000 by decide))) (vs_cons (v_inl (f_lst (vs_cons (v_var rfl) (vs_cons (v_inl (f_sset (v_var rfl) (show (some ((rows.flatMap rn).map Vl.str)).bind allS = some (rows.flatMap rn) from allS_strs _) (by omega))) vs_nil)) (show 2 ≤ 1000000 by decide))) vs_nil)) hs)) ex_nil) ?_
        have c1 := v_mut (M := Mn (n + 2)) (η := lw s k (some (.lst rows)) a3 a4 a5 (some (.ref r)) (some (.lst ((rows.flatMap rn).map .str))) a8 a9 a10 (some x) a12 a13 a14 a15) (S := T) (a := .alc (.mcl "Program" "row_rows" (.var 6) .nil)) (u := .append) (v_alc (f_mcl (v_var rfl) m1 vs_nil hR)) (lstAt_last _ _) (vs_cons (v_tup (vs_cons (v_cst (v := .str "go")) (vs_cons (v_cst (v := .int 0)) vs_nil)) (show 2 ≤ 1000000 by decide)) vs_nil) List.getElem?_concat_length (mut_app (by omega))
        rw [set_last, ← hU1] at c1
        refine ex_nx (x_ex _ _ c1) ?_
        have c2 := v_mut (M := Mn (n + 2)) (η := lw s k (some (.lst rows)) a3 a4 a5 (some (.ref r)) (some (.lst ((rows.flatMap rn).map .str))) a8 a9 a10 (some x) a12 a13 a14 a15) (S := U1) (a := .alc (.mcl "Program" "names" (.var 6) .nil)) (u := .append) (v_alc (f_mcl (v_var rfl) m3 vs_nil hN1)) (lstAt_last _ _) (vs_cons (v_cst (v := .str "zz")) vs_nil) List.getElem?_concat_length (mut_app (by rw [List.length_map]; omega))
        rw [set_last] at c2
        exact ex_nx (x_ex _ _ c2) ex_nil
      · rw [List.getElem?_append_left rl1]; exact p1)
  subst e4
  exact ⟨b11, S', e2, e3, e1⟩
end K16
set_option Elab.async false
set_option linter.all false
set_option maxRecDepth 100000
set_option maxHeartbeats 4000000
namespace K16
open PySem L2 Oz

theorem Pl.more {names more : List Str} {many : Int} (h : ∀ z ∈ names, z ∈ more) {c : Nat} {x : Vl} (p : Pl names many c x) : Pl more many c x := by
  cases p with
  | x z hz => exact .x z (h z hz)
  | f z hz => exact .f z hz
  | k i h0 h1 => exact .k i h0 h1
theorem Pls.more {names more : List Str} {many : Int} (h : ∀ z ∈ names, z ∈ more) : ∀ {cs : List Nat} {xs : List Vl}, Pls names many cs xs → Pls more many cs xs
  | _, _, .nil => .nil
  | _, _, .cons p r => .cons (p.more h) (r.more h)
theorem Row.more {names more : List Str} {many : Int} (h : ∀ z ∈ names, z ∈ more) {v : Vl} (r : Row names many v) : Row more many v := by
  obtain ⟨w, k, xs, e, hk, hp, a⟩ := r.ex
  exact ⟨w, k, xs, e, hk, hp.more h, a⟩
theorem row_go {names : List Str} {many i : Int} (h0 : 0 ≤ i) (h1 : i ≤ many) : Row names many (.tup [.str "go", .int i]) := ⟨"go", "k", [.int i], rfl, rfl, .cons (.k i h0 h1) .nil, by decide, show 0 ≤ 2 by decide, by decide, by decide +kernel⟩
theorem row_nil {names : List Str} {many : Int} {z : Str} (h : z ∈ names) : Row names many (.tup [.str "nil", .str z]) := ⟨"nil", "x", [.str z], rfl, rfl, .cons (.x z h) .nil, by decide, show 1 ≤ 2 by decide, by decide, by decide +kernel⟩
theorem row_copy {names : List Str} {many : Int} {y z : Str} (h : y ∈ names) (k : z ∈ names) : Row names many (.tup [.str "copy", .str y, .str z]) := ⟨"copy", "xx", [.str y, .str z], rfl, rfl, .cons (.x y h) (.cons (.x z k) .nil), by decide, show 2 ≤ 2 by decide, by decide, by decide +kernel⟩
theorem rn_nil (z : Str) : rn (.tup [.str "nil", .str z]) = [z] := rfl
theorem rn_copy (y z : Str) : rn (.tup [.str "copy", .str y, .str z]) = [y, z] := rfl
theorem rn_go (i : Int) : rn (.tup [.str "go", .int i]) = [] := rfl
theorem word_zz : Word "zz" := ⟨by decide, by decide, by decide⟩
/-! ### the wide program -/
def wide (fs : List Str) (y z : Str) : List Vl := fs.map (fun u => Vl.tup [.str "nil", .str u]) ++ [.tup [.str "copy", .str y, .str z], .tup [.str "go", .int 8]]
theorem wide_rows {fs : List Str} (h : Names fs) (h6 : fs.length = 6) {y z : Str} (hy : y ∈ fs) (hz : z ∈ fs) : Rows fs (wide fs y z) := by
  have hl : (wide fs y z).length = 8 := by unfold wide; simp [h6]
  refine ⟨h.w, by omega, fun v hv => ?_, by omega, by omega⟩
  rw [hl]
  unfold wide at hv
  rcases List.mem_append.mp hv with hv | hv
  · obtain ⟨u, hu, rfl⟩ := List.mem_map.mp hv
    exact row_nil hu
  · simp at hv
    rcases hv with rfl | rfl
    · exact row_copy hy hz
    · exact row_go (by omega) (by omega)
theorem wide_names {fs : List Str} {y z : Str} : (wide fs y z).flatMap rn = fs ++ [y, z] := by
  unfold wide
  rw [List.flatMap_append]
  have e : (fs.map fun u => Vl.tup [.str "nil", .str u]).flatMap rn = fs := by
    rw [List.flatMap_map]
    show fs.flatMap (fun u => rn (.tup [.str "nil", .str u])) = fs
    simp only [rn_nil]
    induction fs with
    | nil => rfl
    | cons a l ih => rw [List.flatMap_cons, ih]; rfl
  rw [e]
  simp only [List.flatMap_cons, List.flatMap_nil, rn_copy, rn_go, List.append_nil]
theorem e_wide (n : Nat) {fs : List Str} (hl : fs.length ≤ 1000) {s : Vl} {k : Int} {a2 a3 a4 a5 a6 a7 a8 a9 a10 a11 a13 a14 a15 : Option Vl} (S : Hs) : evf (Mn n) q4_law (lw s k a2 a3 a4 a5 a6 a7 a8 a9 a10 a11 (some (.lst (fs.map .str))) a13 a14 a15) S = .ok (.lst (fs.map fun u => Vl.tup [.str "nil", .str u])) S := by
  refine (ev_comp (M := Mn n) (own := [14]) (t := .nm 14) [] (fs.map .str) (fun x => some (.tup [.str "nil", x])) (ev_sq (S1 := S) (v := .lst (fs.map .str)) (v_var rfl) rfl) (lock_nil S) (by rw [List.length_map]; omega) (fun x hx y hy => ?_) (fun x hx acc ha => ?_)).trans ?_
  · obtain ⟨z, _, rfl⟩ := List.mem_map.mp hx
    cases hy
    simp only [Vl.nr, nrs, Bool.and_self]
  · exact ⟨_, _, rfl, v_tup (vs_cons v_cst (vs_cons (v_var rfl) vs_nil)) (show 2 ≤ 1000000 by decide), rfl⟩
  · rw [filterMap_some, List.map_map]; rfl
/-! ### another program -/
theorem cut_to {α : Type} (xs : List α) (p : Nat) (h : p ≤ xs.length) : Oz.cutG xs none (some (p : Int)) = xs.take p := by
  unfold Oz.cutG
  rw [HT.sIx_none, HT.sIx_nat, Nat.min_eq_left h]
  simp
theorem cut_from {α : Type} (xs : List α) (p : Nat) (h : p ≤ xs.length) : Oz.cutG xs (some (p : Int)) none = xs.drop p := by
  unfold Oz.cutG
  rw [HT.sIx_none, HT.sIx_nat, Nat.min_eq_left h]
  rw [List.take_of_length_le (by simp)]
def other (rows : List Vl) (p : Nat) (x : Vl) : List Vl := rows.take p ++ [x] ++ rows.drop (p + 1)
theorem other_len {rows : List Vl} {p : Nat} (h : p < rows.length) (x : Vl) : (other rows p x).length = rows.length := by
  unfold other
  simp only [List.length_append, List.length_take, List.length_drop, List.length_cons, List.length_nil]; omega
theorem other_at {rows : List Vl} {p : Nat} (h : p < rows.length) (x : Vl) : (other rows p x)[p]? = some x := by
  unfold other
  rw [List.append_assoc, List.getElem?_append_right (by simp; omega)]
  simp [List.length_take, Nat.min_eq_left (Nat.le_of_lt h)]
theorem other_rows {names : List Str} {rows : List Vl} (R : Rows names rows) (h3 : names.length ≤ 3) {p : Nat} (h : p < rows.length) {x : Vl} (hx : x = .tup [.str "go", .int p] ∨ x = .tup [.str "nil", .str "zz"]) : Rows ("zz" :: names) (other rows p x) := by
  refine ⟨fun z hz => ?_, by simp; omega, fun v hv => ?_, by rw [other_len h]; exact R.lo, by rw [other_len h]; exact R.hi⟩
  · rcases List.mem_cons.mp hz with rfl | hz
    · exact word_zz
    · exact R.w z hz
  · rw [other_len h]
    unfold other at hv
    rw [List.mem_append, List.mem_append] at hv
    have up : ∀ v ∈ rows, Row ("zz" :: names) rows.length v := fun v hv => (R.ok v hv).more fun z hz => List.mem_cons_of_mem _ hz
    rcases hv with (hv | hv) | hv
    · exact up v (List.mem_of_mem_take hv)
    · simp at hv
      rw [hv]
      rcases hx with rfl | rfl
      · exact row_go (by omega) (by omega)
      · exact row_nil (List.mem_cons_self ..)
    · exact up v (List.mem_of_mem_drop hv)
/-- the row that is put in, by what stands there -/
theorem put_in {S : Hs} {names : List Str} {many : Int} (hw : ∀ z ∈ names, Word z) (hm : many ≤ 1000) {v : Vl} (h : Row names many v) {p : Nat} (hp : (p : Int) ≤ 1000) : ∃ e : Bool, eqop S v (.tup [.str "go", .int p]) = some e ∧
    ∀ d d', v.toD = some d → (if e = false then Vl.tup [.str "go", .int p] else .tup [.str "nil", .str "zz"]).toD = some d' → PyData.eqv d d' = false := by
  have g : Row names many (.tup [.str "go", .int (0 : Nat)]) ∨ True := .inr trivial
  have dv := h.data hw hm
  have dg := (row_go (names := []) (many := 1000) (i := p) (by omega) hp).data (by simp) (by omega)
  obtain ⟨d, d1, d2⟩ := dataOf_pd S dv.1
  obtain ⟨e, f1, f2⟩ := dataOf_pd S dg.1
  have t1 : v.toD = some d := by unfold dataOf at d1; rwa [inlS_nr _ _ (pd_nr _ dv.1)] at d1
  have t2 : (Vl.tup [.str "go", .int p]).toD = some e := by unfold dataOf at f1; rwa [inlS_nr _ _ (pd_nr _ dg.1)] at f1
  refine ⟨PyData.eqv d e, ?_, fun a b ha hb => ?_⟩
  · have : eqop S v (.tup [.str "go", .int p]) = dataEq S v (.tup [.str "go", .int p]) := by
      unfold eqop
      cases v <;> rfl
    rw [this]
    unfold dataEq
    rw [d1, f1]
    simp only
    rw [if_pos ⟨d2.shaped (by have := dv.2.1; omega), f2.shaped (by have := dg.2.1; omega)⟩]
  · rw [t1] at ha; cases ha
    cases q : PyData.eqv d e with
    | false =>
      rw [q, if_pos rfl, t2] at hb
      cases hb
      exact q
    | true =>
      rw [q, if_neg (by decide)] at hb
      obtain ⟨w, k, xs, rfl, _⟩ := h.ex
      have hb' : some (PyData.tuple [.str "nil", .str "zz"]) = some b := hb
      cases hb'
      have t2' : some (PyData.tuple [.str "go", .int p]) = some e := t2
      cases t2'
      simp only [Vl.toD, toDs] at t1
      split at t1
      · rename_i d0 ds h1 h2
        cases h1
        cases t1
        simp only [PyData.eqv, PyData.eqvAll, Bool.and_eq_true, beq_iff_eq] at q
        have e1 := q.1
        simp only [PyData.eqv, PyData.eqvAll]
        rw [e1]
        have : (Str.ofString "go" == Str.ofString "nil") = false := by decide
        rw [this, Bool.false_and]
      · cases t1
end K16
set_option Elab.async false
set_option linter.all false
set_option maxRecDepth 100000
set_option maxHeartbeats 4000000
namespace K16
open PySem L2 Oz

theorem lst_most (S : Hs) : ∀ {i : Nat}, i < 3 → ∃ m : Nat, 1 ≤ m ∧ m ≤ 24 ∧ ∀ S, idxop S (.lst [.int 24, .int 6, .int 12]) (.int i) = some (.int m)
  | 0, _ => ⟨24, by omega, by omega, fun S => ix_lst (i := 0) rfl⟩
  | 1, _ => ⟨6, by omega, by omega, fun S => ix_lst (i := 1) rfl⟩
  | 2, _ => ⟨12, by omega, by omega, fun S => ix_lst (i := 2) rfl⟩
theorem dec_eq1 (S : Hs) (l : Int) (j : Int) : cmpop .Eq S (.int l) (.int j) = some (decide (l = j)) := rfl
theorem dec_ne1 (S : Hs) (l : Int) (j : Int) : cmpop .NotEq S (.int l) (.int j) = some (!decide (l = j)) := rfl
theorem ix_six {fs : List Str} (h6 : fs.length = 6) (m : Int) : ∃ y ∈ fs, ∀ S, idxop S (.lst (fs.map .str)) (.int (m % 6)) = some (.str y) := by
  obtain ⟨y, h1, h2⟩ := ix_names (names := fs) (fun z => by rw [z] at h6; cases h6) m
  rw [List.length_map, h6] at h2
  exact ⟨y, h1, h2⟩
theorem rev_list {α : Type} (l : List α) : (List.replicate (2 : Int).toNat l).flatten = l ++ l := by
  show (List.replicate 2 l).flatten = _
  simp [List.replicate]
theorem isP_up {S T : Hs} {r : Nat} {rows : List Vl} {b : Bool} (h : S[r]? = some (prog rows b)) : (S ++ T)[r]? = some (prog rows b) := by
  rw [List.getElem?_append_left (List.getElem?_eq_some_iff.mp h).1]; exact h
theorem law_step (ns : List Int) {i : Nat} (hi : i < 3) {S : Hs} (hS : NR S) (a2 a3 a4 a5 a6 a7 a8 a9 a10 a11 a12 a13 a14 a15 : Option Vl) :
    ∃ η' T, NR T ∧ (∃ b2 b3 b4 b5 b6 b7 b8 b9 b10 b11 b12 b13 b14 b15, η' = lw (zs ns) i b2 b3 b4 b5 b6 b7 b8 b9 b10 b11 b12 b13 b14 b15) ∧ exec (Mn 10) w5_law (lw (zs ns) i a2 a3 a4 a5 a6 a7 a8 a9 a10 a11 a12 a13 a14 a15) S = .nx η' T := by
  obtain ⟨most, m1, m24, hmost⟩ := lst_most S hi
  have c20 : ((20 * i : Nat) : Int) = 20 * (i : Int) := by omega
  obtain ⟨names, rows, hN, hn3, R, hc1⟩ := r_lines 6 ns (k := 20 * i) m1 m24 hS
  rw [c20] at hc1
  obtain ⟨ds, hd, hc2⟩ := r_digits 8 ns (k := 20 * i + 19) (sizes := [3, 97]) (by decide) (by decide) hS
  have c19 : ((20 * i + 19 : Nat) : Int) = 20 * (i : Int) + 19 := by omega
  rw [c19] at hc2
  obtain ⟨lo, atI, rfl, ⟨lo0, lo1⟩, ⟨at0, at1⟩⟩ := digs2 hd
  obtain ⟨at_, rfl⟩ := nat_of at0
  obtain ⟨b, hb⟩ : ∃ b, b = decide (lo = 1) := ⟨_, rfl⟩
  -- the handed list, the program
  obtain ⟨S1, hS1⟩ : ∃ T, T = S ++ [Ob.lst rows] := ⟨_, rfl⟩
  have nS1 : NR S1 := by rw [hS1]; exact hS.one (rows_nr R.ok)
  have wS1 : walkS S1 (.ref S.length) = some ([(S.length, .lst rows)], rows) := by rw [hS1]; simp only [walkS, List.getElem?_concat_length]
  have len1 : S1.length = S.length + 1 := by rw [hS1]; simp
  obtain ⟨S3, hS3⟩ : ∃ T, T = (S1 ++ [prog rows b]).set S.length (.lst []) := ⟨_, rfl⟩
  have nS2 : NR (S1 ++ [prog rows b]) := nS1.one (prog_nr R.ok b)
  have nS3 : NR S3 := by rw [hS3]; exact nS2.set _ (by simp only [Ob.nr, nrs])
  have gS2 : (S1 ++ [prog rows b])[S.length]? = some (.lst rows) := by
    rw [List.getElem?_append_left (by omega), hS1]; exact List.getElem?_concat_length
  have pS3 : S3[S1.length]? = some (prog rows b) := by
    rw [hS3, List.getElem?_set_ne (by omega)]; exact List.getElem?_concat_length
  have lS2 : lstAt (S1 ++ [prog rows b]) (.ref S.length) = some S.length := by simp only [lstAt, gS2]
  -- loops
  obtain ⟨b8, hg⟩ := gather 9 R (s := zs ns) (k := i) (a2 := some (.lst rows)) (a3 := some (.int lo)) (a4 := some (.int at_)) (a5 := some (.ref S.length)) (a6 := some (.ref S1.length)) (a8 := a8) (a9 := a9) (a10 := a10) (a11 := a11) (a12 := a12) (a13 := a13) (a14 := a14) (a15 := a15) nS3
  obtain ⟨b11, T, nT, pT, ht⟩ := turns 8 R (b := b) (r := S1.length) (s := zs ns) (k := i) (a3 := some (.int lo)) (a4 := some (.int at_)) (a5 := some (.ref S.length)) (a8 := b8) (a9 := a9) (a10 := a10) (a11 := a11) (a12 := a12) (a13 := a13) (a14 := a14) (a15 := a15) nS3 pS3
  have ip : IsP T (.ref S1.length) rows b := isP_ref pT
  have hml : hasM T (.ref S1.length) "Program" "__len__" = true := ip.hasM (by decide)
  have hme : ∀ {U : Hs}, IsP U (.ref S1.length) rows b → hasM U (.ref S1.length) "Program" "__eq__" = true := fun h => h.hasM (by decide)
  have hlen := r_len 9 nT ip
  have hsame1 := same2 9 (a := .int rows.length) (b := .bl b) ⟨by simp only [Vl.pd]; exact decide_eq_true (by have := R.hi; omega), by simp only [Vl.dep]; omega, by simp only [Vl.wt]; omega⟩ ⟨by simp only [Vl.pd], by simp only [Vl.dep]; omega, by simp only [Vl.wt]; omega⟩ nT
  have heq0 := r_eq_lst 9 (y := .lst rows) nT ip rfl
  -- the wide one
  obtain ⟨fs, hF, h6, hc3⟩ := r_lnames 7 ns (k := 20 * i + 17) (many := 6) (by omega) nT
  have c17 : ((20 * i + 17 : Nat) : Int) = 20 * (i : Int) + 17 := by omega
  rw [c17] at hc3
  obtain ⟨y, hy, iy⟩ := ix_six h6 (at_ : Int)
  obtain ⟨z, hz, iz⟩ := ix_six h6 (0 : Int)
  have RW := wide_rows hF h6 hy hz
  have iz0 : ∀ S, idxop S (.lst (fs.map .str)) (.int 0) = some (.str z) := iz
  have ew := e_wide 10 (fs := fs) (by omega) (s := zs ns) (k := i) (a2 := some (.lst rows)) (a3 := some (.int lo)) (a4 := some (.int at_)) (a5 := some (.ref S.length)) (a6 := some (.ref S1.length)) (a7 := some (.lst ((rows.flatMap rn).map .str))) (a8 := b8) (a9 := a9) (a10 := a10) (a11 := b11) (a13 := a13) (a14 := a14) (a15 := a15) T
  have nT1 : NR (T ++ [prog (wide fs y z) false]) := nT.one (prog_nr RW.ok false)
  have pW : (T ++ [prog (wide fs y z) false])[T.length]? = some (prog (wide fs y z) false) := List.getElem?_concat_length
  have iw : IsP (T ++ [prog (wide fs y z) false]) (.ref T.length) (wide fs y z) false := isP_ref pW
  have hwn := r_names 8 nT1 RW iw
  have hset : sortStr (dedupS ((wide fs y z).flatMap rn)) = sortStr fs := set_nodup hF.nd fun u => by
    rw [wide_names, List.mem_append]
    constructor
    · rintro (h | h)
      · exact h
      · simp at h; rcases h with rfl | rfl
        · exact hy
        · exact hz
    · exact .inl
  rw [hset] at hwn
  have hmn : hasM (T ++ [prog (wide fs y z) false]) (.ref T.length) "Program" "names" = true := iw.hasM (by decide)
  have wds : ∀ u ∈ sortStr fs, Word u := fun u hu => hF.w u (sort_mem.mp hu)
  have dsf := strs_data wds (by rw [sort_len]; omega)
  obtain ⟨T2, hT2⟩ : ∃ U, U = T ++ [prog (wide fs y z) false] ++ [Ob.lst [.lst ((sortStr fs).map .str)]] := ⟨_, rfl⟩
  have nT2 : NR T2 := by
    rw [hT2]
    exact nT1.one (by simp only [Ob.nr, nrs, Vl.nr, nrs_map_str, Bool.and_self])
  have hsame2 := same2 9 (a := .lst ((sortStr fs).map .str)) (b := .lst ((sortStr fs).map .str)) ⟨dsf.1, by have := dsf.2.1; omega, by have := dsf.2.2; omega⟩ ⟨dsf.1, by have := dsf.2.1; omega, by have := dsf.2.2; omega⟩ nT2
  have pT2 : T2[S1.length]? = some (prog rows b) := by
    rw [hT2]
    exact isP_up (isP_up pT)
  have ip2 : IsP T2 (.ref S1.length) rows b := isP_ref pT2
  -- another row
  have lpos : 0 < rows.length := R.lo
  have hmod : (at_ : Int) % ((rows.length : Nat) : Int) = ((at_ % rows.length : Nat) : Int) := by omega
  have hp : at_ % rows.length < rows.length := Nat.mod_lt _ lpos
  obtain ⟨p, hpe⟩ : ∃ p, p = at_ % rows.length := ⟨_, rfl⟩
  rw [← hpe] at hp hmod
  obtain ⟨v, hv⟩ : ∃ v, rows[p]? = some v := ⟨_, List.getElem?_eq_getElem hp⟩
  have vR := R.ok v (List.mem_of_getElem? hv)
  have hm1000 : ((rows.length : Nat) : Int) ≤ 1000 := by have := R.hi; omega
  obtain ⟨e, he, hne⟩ := put_in (S := T2) R.w hm1000 vR (p := p) (by omega)
  obtain ⟨x, hxe⟩ : ∃ x, x = (if e = false then Vl.tup [.str "go", .int p] else .tup [.str "nil", .str "zz"]) := ⟨_, rfl⟩
  have hx2 : x = .tup [.str "go", .int p] ∨ x = .tup [.str "nil", .str "zz"] := by
    cases e
    · exact .inl hxe
    · exact .inr hxe
  have RO := other_rows R hn3 hp hx2
  have dR := rows_data R
  have dO := rows_data RO
  have hdne : dataEq T2 (.lst rows) (.lst (other rows p x)) = some false := rows_ne ⟨dR.1, dR.2.1⟩ ⟨dO.1, dO.2.1⟩ hv (other_at hp x) (by rw [hxe]; exact hne)
  have hdeq : dataEq T2 (.lst rows) (.lst rows) = some true := dataEq_self T2 dR.1 (by have := dR.2.1; omega)
  have q1 := r_eq 9 nT2 ip2 (isP_obj T2 (other rows p x) b) hdne
  have q2 := r_eq 9 nT2 ip2 (isP_obj T2 rows (!b)) hdeq
  have q3 := r_eq 9 nT2 ip2 (isP_obj T2 rows b) hdeq
  have f1 : (true && decide (b = !b)) = false := by cases b <;> rfl
  have f2 : (true && decide (b = b)) = true := by cases b <;> rfl
  rw [Bool.false_and] at q1
  rw [f1] at q2
  rw [f2] at q3
  have hsrt : ∀ U : Hs, srtop U (.lst (fs.map .str)) = some ((sortStr fs).map .str) := fun U => by
    unfold srtop
    rw [show (lstOf U (.lst (fs.map Vl.str))).bind allS = some fs from allS_strs fs]
    simp only
    rw [if_pos (by omega)]
  have hlo : lstOf (T ++ [prog (wide fs y z) false] ++ [Ob.lst [.lst ((sortStr fs).map .str)]]) (.ref (T ++ [prog (wide fs y z) false]).length) = some [.lst ((sortStr fs).map .str)] := by simp only [lstOf, List.getElem?_concat_length]
  have hrep : ev (Mn 10) (.inl (.rep (.alc (.lst (.cons (.inl (.srt (.var 12))) .nil))) (.cst (.int 2)))) (lw (zs ns) i (some (.lst rows)) (some (.int lo)) (some (.int at_)) (some (.ref S.length)) (some (.ref S1.length)) (some (.lst ((rows.flatMap rn).map .str))) b8 a9 a10 b11 (some (.lst (fs.map .str))) (some (.ref T.length)) a14 a15) (T ++ [prog (wide fs y z) false]) = .ok (.lst [.lst ((sortStr fs).map .str), .lst ((sortStr fs).map .str)]) T2 := by
    rw [hT2]
    exact v_inl (f_rep (xs := [.lst ((sortStr fs).map .str)]) (v_alc (f_lst (vs_cons (v_inl (f_srt (v_var rfl) (hsrt _))) vs_nil) (show 1 ≤ 1000000 by decide))) (v_cst (v := .int 2)) (lstAt_last _ _) hlo (by omega) (by omega) (show 1 ≤ 1000 by decide))
  have hoth : ev (Mn 10) (.inl (.cat (.inl (.cat (.inl (.slc (.var 2) .none (.some (.var 4)))) (.inl (.lst (.cons (.ite (.cmp .NotEq (.idx (.var 2) (.var 4)) (.tup (.cons (.cst (.str "go")) (.cons (.var 4) .nil)))) (.tup (.cons (.cst (.str "go")) (.cons (.var 4) .nil))) (.tup (.cons (.cst (.str "nil")) (.cons (.cst (.str "zz")) .nil)))) .nil))))) (.inl (.slc (.var 2) (.some (.bin .Add (.var 4) (.cst (.int 1)))) .none)))) (lw (zs ns) i (some (.lst rows)) (some (.int lo)) (some (.int p)) (some (.ref S.length)) (some (.ref S1.length)) (some (.lst ((rows.flatMap rn).map .str))) b8 a9 a10 b11 (some (.lst (fs.map .str))) (some (.ref T.length)) a14 a15) T2 = .ok (.lst (other rows p x)) T2 := by
    have s1 := f_slc (M := Mn 10) (η := lw (zs ns) i (some (.lst rows)) (some (.int lo)) (some (.int p)) (some (.ref S.length)) (some (.ref S1.length)) (some (.lst ((rows.flatMap rn).map .str))) b8 a9 a10 b11 (some (.lst (fs.map .str))) (some (.ref T.length)) a14 a15) (S := T2) (a := .var 2) (lo := .none) (hi := .some (.var 4)) (x := .lst rows) (xs := rows) (v_var rfl) o_none (o_some (v_var rfl)) rfl
    rw [cut_to rows p (Nat.le_of_lt hp)] at s1
    have p1 : (p : Int) + 1 = ((p + 1 : Nat) : Int) := by omega
    have s3 := f_slc (M := Mn 10) (η := lw (zs ns) i (some (.lst rows)) (some (.int lo)) (some (.int p)) (some (.ref S.length)) (some (.ref S1.length)) (some (.lst ((rows.flatMap rn).map .str))) b8 a9 a10 b11 (some (.lst (fs.map .str))) (some (.ref T.length)) a14 a15) (S := T2) (a := .var 2) (lo := .some (.bin .Add (.var 4) (.cst (.int 1)))) (hi := .none) (x := .lst rows) (xs := rows) (v_var rfl) (o_some (v_bin (v_var rfl) v_cst (b_add _ _))) o_none rfl
    rw [p1, cut_from rows (p + 1) hp] at s3
    have hxv : ev (Mn 10) (.ite (.cmp .NotEq (.idx (.var 2) (.var 4)) (.tup (.cons (.cst (.str "go")) (.cons (.var 4) .nil)))) (.tup (.cons (.cst (.str "go")) (.cons (.var 4) .nil))) (.tup (.cons (.cst (.str "nil")) (.cons (.cst (.str "zz")) .nil)))) (lw (zs ns) i (some (.lst rows)) (some (.int lo)) (some (.int p)) (some (.ref S.length)) (some (.ref S1.length)) (some (.lst ((rows.flatMap rn).map .str))) b8 a9 a10 b11 (some (.lst (fs.map .str))) (some (.ref T.length)) a14 a15) T2 = .ok x T2 := by
      have tg : cmpop .NotEq T2 v (.tup [.str "go", .int p]) = some (!e) := by
        show (eqop T2 v (.tup [.str "go", .int p])).map not = _
        rw [he]; rfl
      have test := v_cmp (M := Mn 10) (η := lw (zs ns) i (some (.lst rows)) (some (.int lo)) (some (.int p)) (some (.ref S.length)) (some (.ref S1.length)) (some (.lst ((rows.flatMap rn).map .str))) b8 a9 a10 b11 (some (.lst (fs.map .str))) (some (.ref T.length)) a14 a15) (S := T2) (co := .NotEq) (a := .idx (.var 2) (.var 4)) (b := .tup (.cons (.cst (.str "go")) (.cons (.var 4) .nil))) (v_idx (v_var rfl) (v_var rfl) (ix_lst hv)) (v_tup (vs_cons v_cst (vs_cons (v_var rfl) vs_nil)) (show 2 ≤ 1000000 by decide)) tg
      rw [hxe]
      cases e with
      | false => exact v_ite1 test (v_tup (vs_cons v_cst (vs_cons (v_var rfl) vs_nil)) (show 2 ≤ 1000000 by decide))
      | true => exact v_ite0 test (v_tup (vs_cons v_cst (vs_cons v_cst vs_nil)) (show 2 ≤ 1000000 by decide))
    have l0 := R.hi
    exact v_inl (f_cat (xs := rows.take p ++ [x]) (ys := rows.drop (p + 1)) (v_inl (f_cat (xs := rows.take p) (ys := [x]) (v_inl s1) (v_inl (f_lst (vs_cons hxv vs_nil) (show 1 ≤ 1000000 by decide))) rfl rfl (by simp; omega))) (v_inl s3) rfl rfl (by simp; omega))
  refine ⟨lw (zs ns) i (some (.lst rows)) (some (.int lo)) (some (.int p)) (some (.ref S.length)) (some (.ref S1.length)) (some (.lst ((rows.flatMap rn).map .str))) b8 a9 a10 b11 (some (.lst (fs.map .str))) (some (.ref T.length)) a14 (some (.lst (other rows p x))), T2, nT2, ⟨_, _, _, _, _, _, _, _, _, _, _, _, _, _, rfl⟩, ?_⟩
  unfold w5_law
  refine ex_nx (x_asg (.lst rows) S (v_call (vs_cons (v_var rfl) (vs_cons (v_bin v_cst (v_var rfl) (b_mulL (by omega) (by omega))) (vs_cons (v_idx (v_inl (f_lst (vs_cons v_cst (vs_cons v_cst (vs_cons v_cst vs_nil))) (show 3 ≤ 1000000 by decide))) (v_var rfl) (hmost _)) vs_nil))) hc1) rfl) ?_
  refine ex_nx (x_asg (.lst [.int lo, .int at_]) S (v_call (vs_cons (v_var rfl) (vs_cons (v_bin (v_bin v_cst (v_var rfl) (b_mulL (by omega) (by omega))) v_cst (b_add _ _)) (vs_cons (v_inl (f_lst (vs_cons v_cst (vs_cons v_cst vs_nil)) (show 2 ≤ 1000000 by decide))) vs_nil))) hc2) rfl) ?_
  refine ex_nx (x_asg (.ref S.length) S1 (by rw [hS1]; exact v_alc (f_cpy (v_var rfl) rfl)) rfl) ?_
  refine ex_nx (x_asg (.ref S1.length) (S1 ++ [prog rows b]) ?_ rfl) ?_
  · by_cases h2 : lo = 2
    · have hbf : b = false := by rw [hb, h2]; rfl
      rw [hbf]
      exact v_ite1 (v_cmp (v_var rfl) v_cst (by rw [dec_eq1, decide_eq_true h2])) (v_alc (e_new 6 R nS1 false (vs_cons (v_var rfl) (vs_cons v_cst vs_nil)) wS1))
    · exact v_ite0 (v_cmp (v_var rfl) v_cst (by rw [dec_eq1, decide_eq_false h2])) (v_alc (e_new 6 R nS1 b (vs_cons (v_var rfl) (vs_cons (by rw [hb]; exact v_cmp (v_var rfl) v_cst (dec_eq1 _ _ _)) vs_nil)) wS1))
  refine ex_nx (x_ex .non S3 (by rw [hS3]; exact v_mut (v_var rfl) lS2 vs_nil gS2 rfl)) ?_
  refine ex_nx (x_asg (.lst []) S3 (v_inl (f_lst vs_nil (show 0 ≤ 1000000 by decide))) rfl) ?_
  refine ex_nx (x_for [] rows S3 (ev_sq (v_var rfl) rfl) hg) ?_
  refine ex_nx (x_for [] (rngL 0 2) S3 (ev_rng1 (k := 2) v_cst (by decide)) ht) ?_
  refine ex_nx (x_ite0 T (v_or0 (v_bnot (d := true) (v_call (r := .val (.bl true)) (vs_cons (v_inl (f_lst (vs_cons (v_olen (v_var rfl) hml hlen (by have := R.hi; omega)) (vs_cons (v_fld (v_var rfl) ip.ins look_lossy) vs_nil)) (show 2 ≤ 1000000 by decide))) (vs_cons (v_inl (f_lst (vs_cons (v_b1 (v_var rfl) (len_lst _ _)) (vs_cons (by rw [hb]; exact v_cmp (v_var rfl) v_cst (dec_eq1 _ _ _)) vs_nil)) (show 2 ≤ 1000000 by decide))) vs_nil)) hsame1)) (v_oeq (d := false) (v_var rfl) (v_var rfl) (hme ip) rfl heq0)) ex_nil) ?_
  refine ex_nx (x_asg (.lst (fs.map .str)) T (v_call (vs_cons (v_var rfl) (vs_cons (v_bin (v_bin v_cst (v_var rfl) (b_mulL (by omega) (by omega))) v_cst (b_add _ _)) (vs_cons v_cst vs_nil))) hc3) rfl) ?_
  refine ex_nx (x_asg (.ref T.length) (T ++ [prog (wide fs y z) false]) (v_alc (e_new 6 RW nT false (v := .lst (wide fs y z)) (lk := []) (vs_cons (v_inl (f_cat (v_inl ew) (v_inl (f_lst (vs_cons (v_tup (vs_cons v_cst (vs_cons (v_idx (v_var rfl) (v_bin (v_var rfl) v_cst (b_mod (by omega))) (iy _)) (vs_cons (v_idx (v_var rfl) v_cst (iz0 _)) vs_nil))) (show 3 ≤ 1000000 by decide)) (vs_cons (v_tup (vs_cons v_cst (vs_cons v_cst vs_nil)) (show 2 ≤ 1000000 by decide)) vs_nil)) (show 2 ≤ 1000000 by decide))) rfl rfl (by simp [h6]))) (vs_cons v_cst vs_nil)) rfl)) rfl) ?_
  refine ex_nx (x_ite0 T2 (v_bnot (d := true) (v_call (r := .val (.bl true)) (xs := [.lst [.lst ((sortStr fs).map .str), .lst ((sortStr fs).map .str)], .lst [.lst ((sortStr fs).map .str), .lst ((sortStr fs).map .str)]]) (vs_cons (v_inl (f_lst (vs_cons (v_mcl (v_var rfl) hmn vs_nil hwn) (vs_cons (v_mcl (v_var rfl) hmn vs_nil hwn) vs_nil)) (show 2 ≤ 1000000 by decide))) (vs_cons hrep vs_nil)) hsame2)) ex_nil) ?_
  refine ex_nx (x_asg (.int p) T2 (by rw [← hmod]; exact v_bin (v_var rfl) (v_b1 (v_var rfl) (len_lst _ _)) (b_mod (by omega))) rfl) ?_
  refine ex_nx (x_asg (.lst (other rows p x)) T2 hoth rfl) ?_
  refine ex_nx (x_ite0 T2 (v_or0 (v_oeq (d := false) (v_var rfl) (v_inl (e_new 6 RO nT2 b (v := .lst (other rows p x)) (lk := []) (vs_cons (v_var rfl) (vs_cons (by rw [hb]; exact v_cmp (v_var rfl) v_cst (dec_eq1 _ _ _)) vs_nil)) rfl)) (hme ip2) rfl q1)
    (v_oeq (d := false) (v_var rfl) (v_inl (e_new 6 R nT2 (!b) (v := .lst rows) (lk := []) (vs_cons (v_var rfl) (vs_cons (by rw [hb]; exact v_cmp (v_var rfl) v_cst (dec_ne1 _ _ _)) vs_nil)) rfl)) (hme ip2) rfl q2)) ex_nil) ?_
  refine ex_nx (x_ite0 T2 (v_or0 (v_bnot (d := true) (v_oeq (d := true) (v_var rfl) (v_inl (e_new 6 R nT2 b (v := .lst rows) (lk := []) (vs_cons (v_var rfl) (vs_cons (by rw [hb]; exact v_cmp (v_var rfl) v_cst (dec_eq1 _ _ _)) vs_nil)) rfl)) (hme ip2) rfl q3))
    (v_oeq (d := true) (v_var rfl) (v_inl (e_new 6 R nT2 b (v := .lst rows) (lk := []) (vs_cons (v_inl (f_cpy (v_var rfl) rfl)) (vs_cons (by rw [hb]; exact v_cmp (v_var rfl) v_cst (dec_eq1 _ _ _)) vs_nil)) rfl)) (hme ip2) rfl q3)) ex_nil) ?_
  exact ex_nil
theorem law_true (ns : List Int) (h : ns.length ≤ 63) : ∃ T, exec (Mn 10) b_law (some (.lst (ns.map .int)) :: List.replicate 15 none) [] = .ret (.val (.bl true)) T := by
  obtain ⟨η', T, e1, nT, i', a2, a3, a4, a5, a6, a7, a8, a9, a10, a11, a12, a13, a14, a15, e2⟩ := for_ok (body := fun η1 S2 => Oz.exec (Mn 10) w5_law η1 S2) (t := .nm 1) (lk := []) (xs := rngL 0 3) (η := (some (zs ns) :: List.replicate 15 none : Sg)) (S := [])
    (fun i η T => NR T ∧ ∃ a1 a2 a3 a4 a5 a6 a7 a8 a9 a10 a11 a12 a13 a14 a15 : Option Vl, η = [some (zs ns), a1, a2, a3, a4, a5, a6, a7, a8, a9, a10, a11, a12, a13, a14, a15]) ⟨NR.nil, _, _, _, _, _, _, _, _, _, _, _, _, _, _, _, rfl⟩ (fun _ _ _ _ => lock_nil _)
    (fun i x η T ex ⟨nT, a1, a2, a3, a4, a5, a6, a7, a8, a9, a10, a11, a12, a13, a14, a15, q⟩ => by
      subst q
      obtain ⟨hi, rfl⟩ := rng_at ex
      obtain ⟨η', T', n', ⟨b2, b3, b4, b5, b6, b7, b8, b9, b10, b11, b12, b13, b14, b15, rfl⟩, e⟩ := law_step ns hi nT a2 a3 a4 a5 a6 a7 a8 a9 a10 a11 a12 a13 a14 a15
      exact ⟨_, rfl, _, _, .inl e, n', _, _, _, _, _, _, _, _, _, _, _, _, _, _, _, rfl⟩)
  refine ⟨T, ?_⟩
  unfold b_law
  refine ex_nx (x_for [] (rngL 0 3) [] (ev_rng1 (k := 3) v_cst (by decide)) e1) ?_
  exact ex_ret (x_ret _ _ v_cst)
end K16
set_option Elab.async false
set_option linter.all false
set_option maxRecDepth 100000
open PySem PySem.W PyProof.Rows
set_option maxHeartbeats 0 in
theorem PySem.Challenge.cw_osier_k16_programs_told_holds : PySem.Challenge.rw_osier_k16_programs_told.Holds := by
  w_on; o_law; k_head; (case hw => w_witness2)
  k_fill
  refine Oz.end_of (l := PySem.Challenge.rw_osier_k16_programs_told) (n := 63) (k := 44) (x := "_law_script") rfl (by decide) rfl ⟨rfl, by decide, by decide⟩ (fun w h Y => PySem.W.kIn_of Y) ?F
  case F =>
    intro w mg fa h KX G hmg
    refine' K16.all_mk KX G hmg K16.law_true ?z_len ?z_all ?z_tuple ?z_repr ?z_isinstance ?z_dict ?z_list ?z_sorted ?z_set ?z_range ?z_zip ?z_enumerate ?a_FIELDS ?l_FIELDS ?w_FIELDS ?a_LETTERS ?a_MOST_NAMES ?a_MOST_ROWS ?a_PLACES ?l_PLACES ?i_PLACES ?j_PLACES ?w_PLACES ?aC ?pg ?hd ?po ?sa ?ha ?hn ?htk ?hm ?mk ?kc ?ic ?tc ?sd ?ne ?nf ?s_NoneType ?s_bool ?s_int ?s_str ?s_tuple ?s_list ?s_dict ?n_lines ?n_lossy ?a_is_word ?l_is_word ?c_is_word ?k_is_word ?a_is_place ?l_is_place ?c_is_place ?k_is_place ?a_is_row ?l_is_row ?c_is_row ?k_is_row ?a_names_in ?l_names_in ?c_names_in ?k_names_in ?a_Programu_initu ?g_Programu_initu ?l_Programu_initu ?c_Programu_initu ?k_Programu_initu ?d_Programu_initu ?a_Programu_equ ?g_Programu_equ ?l_Programu_equ ?c_Programu_equ ?k_Programu_equ ?a_Programu_lenu ?g_Programu_lenu ?l_Programu_lenu ?c_Programu_lenu ?k_Programu_lenu ?a_Program_row_rows ?g_Program_row_rows ?l_Program_row_rows ?c_Program_row_rows ?k_Program_row_rows ?a_Program_names ?g_Program_names ?l_Program_names ?c_Program_names ?k_Program_names ?a__law_cell ?l__law_cell ?c__law_cell ?k__law_cell ?a__law_digits ?l__law_digits ?c__law_digits ?k__law_digits ?a__law_same ?l__law_same ?c__law_same ?k__law_same ?a__law_names ?l__law_names ?c__law_names ?k__law_names ?a__law_kinds ?l__law_kinds ?c__law_kinds ?k__law_kinds ?a__law_row ?l__law_row ?c__law_row ?k__law_row ?a__law_lines ?l__law_lines ?c__law_lines ?k__law_lines ?a_law ?l_law ?c_law ?k_law
    (case z_len => k_is)
    (case z_all => k_is)
    (case z_tuple => k_is)
    (case z_repr => k_is)
    (case z_isinstance => k_is)
    (case z_dict => k_is)
    (case z_list => k_is)
    (case z_sorted => k_is)
    (case z_set => k_is)
    (case z_range => k_is)
    (case z_zip => k_is)
    (case z_enumerate => k_is)
    (case a_FIELDS => k_is)
    (case l_FIELDS => k_is)
    (case w_FIELDS => exact ⟨by decide, (.cons ⟨_, rfl⟩ (.cons ⟨_, rfl⟩ .nil))⟩)
    (case a_LETTERS => k_is)
    (case a_MOST_NAMES => k_is)
    (case a_MOST_ROWS => k_is)
    (case a_PLACES => k_is)
    (case l_PLACES => k_is)
    (case i_PLACES => exact ⟨⟨_, _, rfl, rfl⟩, ⟨⟨_, _, rfl, rfl⟩, ⟨⟨_, _, rfl, rfl⟩, ⟨⟨_, _, rfl, rfl⟩, ⟨⟨_, _, rfl, rfl⟩, ⟨⟨_, _, rfl, rfl⟩, ⟨⟨_, _, rfl, rfl⟩, ⟨⟨_, _, rfl, rfl⟩, ⟨⟨_, _, rfl, rfl⟩, ⟨⟨_, _, rfl, rfl⟩, ⟨⟨_, _, rfl, rfl⟩, trivial⟩⟩⟩⟩⟩⟩⟩⟩⟩⟩⟩)
    (case j_PLACES => rfl)
    (case w_PLACES => exact (.cons ⟨⟨_, rfl⟩, _, rfl⟩ (.cons ⟨⟨_, rfl⟩, _, rfl⟩ (.cons ⟨⟨_, rfl⟩, _, rfl⟩ (.cons ⟨⟨_, rfl⟩, _, rfl⟩ (.cons ⟨⟨_, rfl⟩, _, rfl⟩ (.cons ⟨⟨_, rfl⟩, _, rfl⟩ (.cons ⟨⟨_, rfl⟩, _, rfl⟩ (.cons ⟨⟨_, rfl⟩, _, rfl⟩ (.cons ⟨⟨_, rfl⟩, _, rfl⟩ (.cons ⟨⟨_, rfl⟩, _, rfl⟩ (.cons ⟨⟨_, rfl⟩, _, rfl⟩ .nil))))))))))))
    (case aC => k_is)
    (case pg => k_is)
    (case hd => k_is)
    (case po => k_is)
    (case sa => k_is)
    (case ha => k_is)
    (case hn => k_is)
    (case htk => k_is)
    (case hm => k_is)
    (case mk => k_is)
    (case kc => k_is)
    (case ic => k_is)
    (case tc => k_is)
    (case sd => k_is)
    (case ne => k_is)
    (case nf => k_is)
    (case s_NoneType => k_is)
    (case s_bool => k_is)
    (case s_int => k_is)
    (case s_str => k_is)
    (case s_tuple => k_is)
    (case s_list => k_is)
    (case s_dict => k_is)
    (case n_lines => k_is)
    (case n_lossy => k_is)
    (case a_is_word => k_is)
    (case l_is_word => k_is)
    (case c_is_word => k_is)
    (case k_is_word => k_is)
    (case a_is_place => k_is)
    (case l_is_place => k_is)
    (case c_is_place => k_is)
    (case k_is_place => k_is)
    (case a_is_row => k_is)
    (case l_is_row => k_is)
    (case c_is_row => k_is)
    (case k_is_row => k_is)
    (case a_names_in => k_is)
    (case l_names_in => k_is)
    (case c_names_in => k_is)
    (case k_names_in => k_is)
    (case a_Programu_initu => k_is)
    (case g_Programu_initu => k_is)
    (case l_Programu_initu => k_is)
    (case c_Programu_initu => k_is)
    (case k_Programu_initu => k_is)
    (case d_Programu_initu => k_is)
    (case a_Programu_equ => k_is)
    (case g_Programu_equ => k_is)
    (case l_Programu_equ => k_is)
    (case c_Programu_equ => k_is)
    (case k_Programu_equ => k_is)
    (case a_Programu_lenu => k_is)
    (case g_Programu_lenu => k_is)
    (case l_Programu_lenu => k_is)
    (case c_Programu_lenu => k_is)
    (case k_Programu_lenu => k_is)
    (case a_Program_row_rows => k_is)
    (case g_Program_row_rows => k_is)
    (case l_Program_row_rows => k_is)
    (case c_Program_row_rows => k_is)
    (case k_Program_row_rows => k_is)
    (case a_Program_names => k_is)
    (case g_Program_names => k_is)
    (case l_Program_names => k_is)
    (case c_Program_names => k_is)
    (case k_Program_names => k_is)
    (case a__law_cell => k_is)
    (case l__law_cell => k_is)
    (case c__law_cell => k_is)
    (case k__law_cell => k_is)
    (case a__law_digits => k_is)
    (case l__law_digits => k_is)
    (case c__law_digits => k_is)
    (case k__law_digits => k_is)
    (case a__law_same => k_is)
    (case l__law_same => k_is)
    (case c__law_same => k_is)
    (case k__law_same => k_is)
    (case a__law_names => k_is)
    (case l__law_names => k_is)
    (case c__law_names => k_is)
    (case k__law_names => k_is)
    (case a__law_kinds => k_is)
    (case l__law_kinds => k_is)
    (case c__law_kinds => k_is)
    (case k__law_kinds => k_is)
    (case a__law_row => k_is)
    (case l__law_row => k_is)
    (case c__law_row => k_is)
    (case k__law_row => k_is)
    (case a__law_lines => k_is)
    (case l__law_lines => k_is)
    (case c__law_lines => k_is)
    (case k__law_lines => k_is)
    (case a_law => k_is)
    (case l_law => k_is)
    (case c_law => k_is)
    (case k_law => k_is)
