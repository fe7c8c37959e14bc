import PyProof.Rows.All
import Wide.All
import OpenK.AllK
import Wide.FinOn
import HandS.ForMost
import HandS.ForExc
import HandS.CallSlots
import HandS.Wide
import HandS.Flow
import HandS.TupAny
import HandS.TupMul
import HandS.IsInst
import HandS.EndBits
import HandS.Zip
import PyProof.ListMulRoad
import PyProof.FactsAll.tuple_2
import HandS.Text
import HandS.Codes
import HandS.More
import HandS.Replace
import HandS.RaiseMore
import PyProof.Rows.SetFrom
import HandS.SetKeys
import PySem.Challenge.RW_samepaper_k29_is_once
set_option Elab.async false
set_option linter.all false
set_option maxRecDepth 100000
namespace MP
open PySem L2

inductive PV where
  | non
  | bl (b : Bool)
  | int (i : Int)
  | str (x : List Nat)
  | ty (n : String)
  | gl (a : Addr)
  | tup (xs : List PV)
  | lst (xs : List PV)
  | frz (xs : List PV)
  | loc (n : Nat)
mutual
def PV.beq : PV → PV → Bool
  | .non, .non => true
  | .bl a, .bl b => a == b
  | .int a, .int b => a == b
  | .str a, .str b => a == b
  | .ty a, .ty b => a == b
  | .gl a, .gl b => a == b
  | .tup a, .tup b => PV.beqs a b
  | .lst a, .lst b => PV.beqs a b
  | .frz a, .frz b => PV.beqs a b
  | .loc a, .loc b => a == b
  | _, _ => false
def PV.beqs : List PV → List PV → Bool
  | [], [] => true
  | a :: r, b :: t => PV.beq a b && PV.beqs r t
  | _, _ => false
end
mutual
theorem PV.beq_iff : ∀ (a b : PV), PV.beq a b = true ↔ a = b
  | .non, b => by cases b <;> simp [PV.beq]
  | .bl x, b => by cases b <;> simp [PV.beq]
  | .int x, b => by cases b <;> simp [PV.beq]
  | .str x, b => by cases b <;> simp [PV.beq]
  | .ty x, b => by cases b <;> simp [PV.beq]
  | .gl x, b => by cases b <;> simp [PV.beq]
  | .tup x, b => by cases b <;> simp [PV.beq, PV.beqs_iff x]
  | .lst x, b => by cases b <;> simp [PV.beq, PV.beqs_iff x]
  | .frz x, b => by cases b <;> simp [PV.beq, PV.beqs_iff x]
  | .loc x, b => by cases b <;> simp [PV.beq]
theorem PV.beqs_iff : ∀ (a b : List PV), PV.beqs a b = true ↔ a = b
  | [], b => by cases b <;> simp [PV.beqs]
  | x :: r, b => by
    cases b with
    | nil => simp [PV.beqs]
    | cons y t => simp [PV.beqs, PV.beq_iff x y, PV.beqs_iff r t]
end
instance : DecidableEq PV := fun a b => decidable_of_iff (PV.beq a b = true) (PV.beq_iff a b)
instance : Inhabited PV := ⟨.non⟩

inductive Cell where
  | lst (xs : List PV)
  | dct (kvs : List (PV × PV))
  | ins (C : Addr) (fs : List (Str × PV))
abbrev Sto := List Cell
structure Exn where
  C : Addr
  fs : List (Str × PV)
inductive Res (α : Type) where
  | ok (a : α) (st : Sto)
  | err (x : Exn) (st : Sto)
  | bad
abbrev M (α : Type) : Type := Sto → Res α
namespace M
variable {α β : Type}
def ret (a : α) : M α := fun st => .ok a st
def bind (m : M α) (f : α → M β) : M β := fun st => match m st with
  | .ok a st' => f a st'
  | .err x st' => .err x st'
  | .bad => .bad
def fail : M α := fun _ => .bad
def calm (m : M α) : M α := fun st => match m st with
  | .err _ _ => .bad
  | r => r
end M
theorem M.bind_ok {α β : Type} {m : M α} {f : α → M β} {st st' : Sto} {a : α} (h : m st = .ok a st') : M.bind m f st = f a st' := by
  unfold M.bind
  rw [h]
abbrev Rho := List (Option PV)
inductive Fl where
  | next (ρ : Rho)
  | ret (v : PV)
  | brk (ρ : Rho)
  | cont (ρ : Rho)
  | exc (x : Exn) (ρ : Rho)

structure Mu where
  l : List Addr
  b : List Addr
instance : Membership Addr Mu := ⟨fun μ a => a ∈ μ.l ∨ a ∈ μ.b⟩
theorem Mu.mem {μ : Mu} {a : Addr} : a ∈ μ ↔ a ∈ μ.l ∨ a ∈ μ.b := Iff.rfl
def Mu.add (μ : Mu) (p : Addr) : Mu := ⟨μ.l ++ [p], μ.b⟩
def KT (K : PySem.W.Frag) (a : Addr) (xs : List V) : Prop :=
  ∃ (o : Obj) (its : Array Value) (n : Nat), K.lookup a = some o ∧ o.cls = .type "tuple" ∧ o.data = .seq its n ∧ its.size ≤ sizeLine ∧ Vals xs its.toList
def KL (K : PySem.W.Frag) (a : Addr) (xs : List V) : Prop :=
  ∃ (o : Obj) (its : Array Value) (n : Nat), K.lookup a = some o ∧ o.cls = .type "list" ∧ o.dict = none ∧ o.data = .seq its n ∧ its.size ≤ sizeLine ∧ Vals xs its.toList
def TupAt (K : PySem.W.Frag) (H : Hp) (μ : Mu) (a : Addr) (vs : List V) : Prop := (H a = some (.tup vs) ∧ a ∉ μ) ∨ KT K a vs
def LstAt (H : Hp) (μ : Mu) (a : Addr) (vs : List V) : Prop := H a = some (.lst vs) ∧ a ∉ μ
def FrzAt (K : PySem.W.Frag) (H : Hp) (μ : Mu) (a : Addr) (vs : List V) : Prop := (Rd H a (.lst vs) ∧ a ∉ μ) ∨ KL K a vs
theorem TupAt.sq {K : PySem.W.Frag} {H : Hp} {μ : Mu} {a : Addr} {vs : List V} (h : TupAt K H μ a vs) : SqT K H a vs := by
  rcases h with ⟨h, _⟩ | h
  · exact .inl (.inl h)
  · exact .inr h
theorem LstAt.sq {K : PySem.W.Frag} {H : Hp} {μ : Mu} {a : Addr} {vs : List V} (h : LstAt H μ a vs) : SqL K H a vs := .inl (.inl h.1)
theorem FrzAt.sq {K : PySem.W.Frag} {H : Hp} {μ : Mu} {a : Addr} {vs : List V} (h : FrzAt K H μ a vs) : SqL K H a vs := by
  rcases h with ⟨h, _⟩ | h
  · exact .inl h
  · exact .inr h
mutual
def VR (K : PySem.W.Frag) (H : Hp) (μ : Mu) : PV → V → Prop
  | .non, v => v = .non
  | .bl b, v => v = .bl b
  | .int i, v => v = .int i
  | .str x, v => v = .str ⟨x.toArray⟩
  | .ty n, v => v = .ty n
  | .gl a, v => v = .ref a
  | .tup ps, v => ∃ a vs, v = .ref a ∧ TupAt K H μ a vs ∧ VRs K H μ ps vs
  | .lst ps, v => ∃ a vs, v = .ref a ∧ LstAt H μ a vs ∧ VRs K H μ ps vs
  | .frz ps, v => ∃ a vs, v = .ref a ∧ FrzAt K H μ a vs ∧ VRs K H μ ps vs
  | .loc n, v => ∃ a, v = .ref a ∧ μ.l[n]? = some a
def VRs (K : PySem.W.Frag) (H : Hp) (μ : Mu) : List PV → List V → Prop
  | [], vs => vs = []
  | p :: ps, vs => ∃ v r, vs = v :: r ∧ VR K H μ p v ∧ VRs K H μ ps r
end
structure Gr (μ : Mu) (H : Hp) (μ' : Mu) (H' : Hp) : Prop where
  pre : ∃ t, μ'.l = μ.l ++ t
  ban : ∀ a, a ∈ μ.b → a ∈ μ'.b
  bnew : ∀ a, a ∈ μ'.b → a ∈ μ.b ∨ H a = none
  new : ∀ a, a ∈ μ'.l → a ∈ μ.l ∨ H a = none
  keep : ∀ a o, H a = some o → a ∉ μ.l → H' a = some o
theorem Gr.refl (μ : Mu) (H : Hp) : Gr μ H μ H := ⟨⟨[], by simp⟩, fun _ h => h, fun _ h => .inl h, fun _ h => .inl h, fun _ _ h _ => h⟩
theorem Gr.outl {μ μ' : Mu} {H H' : Hp} (g : Gr μ H μ' H') {a : Addr} {o : HO} (h : H a = some o) (n : a ∉ μ.l) : a ∉ μ'.l := fun m => by
  rcases g.new a m with z | z
  · exact n z
  · rw [h] at z; cases z
theorem Gr.out {μ μ' : Mu} {H H' : Hp} (g : Gr μ H μ' H') {a : Addr} {o : HO} (h : H a = some o) (n : a ∉ μ) : a ∉ μ' := fun m => by
  rcases m with m | m
  · exact g.outl h (fun z => n (.inl z)) m
  · rcases g.bnew a m with z | z
    · exact n (.inr z)
    · rw [h] at z; cases z
theorem Gr.back {μ μ' : Mu} {H H' : Hp} (g : Gr μ H μ' H') {a : Addr} (h : H' a = none) : a ∈ μ.l ∨ H a = none := by
  cases q : H a with
  | none => exact .inr rfl
  | some o =>
    by_cases n : a ∈ μ.l
    · exact .inl n
    · rw [g.keep a o q n] at h; cases h
theorem Gr.trans {μ μ1 μ2 : Mu} {H H1 H2 : Hp} (g : Gr μ H μ1 H1) (g' : Gr μ1 H1 μ2 H2) (hb : ∀ a, a ∈ μ2.b → a ∉ μ2.l) : Gr μ H μ2 H2 := by
  have sub : ∀ a, a ∈ μ.l → a ∈ μ2.l := fun a m => by
    obtain ⟨t, e⟩ := g.pre
    obtain ⟨u, e'⟩ := g'.pre
    rw [e', e]
    exact List.mem_append_left _ (List.mem_append_left _ m)
  refine ⟨?_, fun a m => g'.ban a (g.ban a m), fun a m => ?_, fun a m => ?_, fun a o h n => g'.keep a o (g.keep a o h n) (g.outl h n)⟩
  · obtain ⟨t, e⟩ := g.pre
    obtain ⟨u, e'⟩ := g'.pre
    exact ⟨t ++ u, by rw [e', e, List.append_assoc]⟩
  · rcases g'.bnew a m with z | z
    · exact g.bnew a z
    · rcases g.back z with z | z
      · exact absurd (sub a z) (hb a m)
      · exact .inr z
  · rcases g'.new a m with z | z
    · exact g.new a z
    · exact g.back z
theorem Gr.get {μ μ' : Mu} {H H' : Hp} (g : Gr μ H μ' H') {n : Nat} {a : Addr} (h : μ.l[n]? = some a) : μ'.l[n]? = some a := by
  obtain ⟨t, e⟩ := g.pre
  rw [e]
  exact (List.getElem?_append_left (List.getElem?_eq_some_iff.mp h).1).trans h
def seqO : HO → Bool
  | .tup _ => true
  | .lst _ => true
  | .frz _ _ => true
  | _ => false
structure Gv (μ : Mu) (H : Hp) (μ' : Mu) (H' : Hp) : Prop where
  pre : ∃ t, μ'.l = μ.l ++ t
  keep : ∀ a o, H a = some o → seqO o = true → a ∉ μ → H' a = some o ∧ a ∉ μ'
theorem Gr.v {μ μ' : Mu} {H H' : Hp} (g : Gr μ H μ' H') : Gv μ H μ' H' := ⟨g.pre, fun a o h _ n => ⟨g.keep a o h (fun z => n (.inl z)), g.out h n⟩⟩
theorem Gv.get {μ μ' : Mu} {H H' : Hp} (g : Gv μ H μ' H') {n : Nat} {a : Addr} (h : μ.l[n]? = some a) : μ'.l[n]? = some a := by
  obtain ⟨t, e⟩ := g.pre
  rw [e]
  exact (List.getElem?_append_left (List.getElem?_eq_some_iff.mp h).1).trans h
mutual
theorem VR.monov {K : PySem.W.Frag} {H H' : Hp} {μ μ' : Mu} (g : Gv μ H μ' H') : ∀ (p : PV) (v : V), VR K H μ p v → VR K H' μ' p v
  | .non, _, h => h
  | .bl _, _, h => h
  | .int _, _, h => h
  | .str _, _, h => h
  | .ty _, _, h => h
  | .gl _, _, h => h
  | .tup ps, v, h => by
    obtain ⟨a, vs, e, t, r⟩ := (show ∃ a vs, v = .ref a ∧ TupAt K H μ a vs ∧ VRs K H μ ps vs from h)
    refine (show ∃ a vs, v = .ref a ∧ TupAt K H' μ' a vs ∧ VRs K H' μ' ps vs from ⟨a, vs, e, ?_, VRs.monov g ps vs r⟩)
    rcases t with ⟨t, n⟩ | t
    · exact .inl (g.keep a _ t rfl n)
    · exact .inr t
  | .lst ps, v, h => by
    obtain ⟨a, vs, e, t, r⟩ := (show ∃ a vs, v = .ref a ∧ LstAt H μ a vs ∧ VRs K H μ ps vs from h)
    exact (show ∃ a vs, v = .ref a ∧ LstAt H' μ' a vs ∧ VRs K H' μ' ps vs from ⟨a, vs, e, g.keep a _ t.1 rfl t.2, VRs.monov g ps vs r⟩)
  | .frz ps, v, h => by
    obtain ⟨a, vs, e, t, r⟩ := (show ∃ a vs, v = .ref a ∧ FrzAt K H μ a vs ∧ VRs K H μ ps vs from h)
    refine (show ∃ a vs, v = .ref a ∧ FrzAt K H' μ' a vs ∧ VRs K H' μ' ps vs from ⟨a, vs, e, ?_, VRs.monov g ps vs r⟩)
    rcases t with ⟨t | ⟨o, t⟩, n⟩ | t
    · exact .inl ⟨.inl (g.keep a _ t rfl n).1, (g.keep a _ t rfl n).2⟩
    · exact .inl ⟨.inr ⟨o, (g.keep a _ t rfl n).1⟩, (g.keep a _ t rfl n).2⟩
    · exact .inr t
  | .loc n, v, h => by
    obtain ⟨a, e, t⟩ := (show ∃ a, v = .ref a ∧ μ.l[n]? = some a from h)
    exact (show ∃ a, v = .ref a ∧ μ'.l[n]? = some a from ⟨a, e, g.get t⟩)
theorem VRs.monov {K : PySem.W.Frag} {H H' : Hp} {μ μ' : Mu} (g : Gv μ H μ' H') : ∀ (ps : List PV) (vs : List V), VRs K H μ ps vs → VRs K H' μ' ps vs
  | [], _, h => h
  | p :: ps, vs, h => by
    obtain ⟨v, r, e, h1, h2⟩ := (show ∃ v r, vs = v :: r ∧ VR K H μ p v ∧ VRs K H μ ps r from h)
    exact (show ∃ v r, vs = v :: r ∧ VR K H' μ' p v ∧ VRs K H' μ' ps r from ⟨v, r, e, VR.monov g p v h1, VRs.monov g ps r h2⟩)
end
theorem VR.mono {K : PySem.W.Frag} {H H' : Hp} {μ μ' : Mu} (g : Gr μ H μ' H') (p : PV) (v : V) (h : VR K H μ p v) : VR K H' μ' p v := VR.monov g.v p v h
theorem VRs.mono {K : PySem.W.Frag} {H H' : Hp} {μ μ' : Mu} (g : Gr μ H μ' H') (p : List PV) (v : List V) (h : VRs K H μ p v) : VRs K H' μ' p v := VRs.monov g.v p v h
section
variable {K : PySem.W.Frag} {H : Hp} {μ : Mu}
theorem VRs.length : ∀ {ps : List PV} {vs : List V}, VRs K H μ ps vs → ps.length = vs.length
  | [], vs, h => by have e : vs = [] := h; rw [e]; rfl
  | p :: ps, vs, h => by
    obtain ⟨v, r, e, _, h2⟩ := (show ∃ v r, vs = v :: r ∧ VR K H μ p v ∧ VRs K H μ ps r from h)
    rw [e, List.length_cons, List.length_cons, VRs.length h2]
theorem VRs.cons {p : PV} {ps : List PV} {v : V} {vs : List V} (h : VR K H μ p v) (t : VRs K H μ ps vs) : VRs K H μ (p :: ps) (v :: vs) :=
  (show ∃ w r, v :: vs = w :: r ∧ VR K H μ p w ∧ VRs K H μ ps r from ⟨v, vs, rfl, h, t⟩)
theorem VRs.nil : VRs K H μ [] [] := rfl
theorem VRs.append : ∀ {ps qs : List PV} {vs ws : List V}, VRs K H μ ps vs → VRs K H μ qs ws → VRs K H μ (ps ++ qs) (vs ++ ws)
  | [], _, vs, _, h, t => by have e : vs = [] := h; rw [e]; exact t
  | p :: ps, qs, vs, ws, h, t => by
    obtain ⟨v, r, e, h1, h2⟩ := (show ∃ v r, vs = v :: r ∧ VR K H μ p v ∧ VRs K H μ ps r from h)
    rw [e]
    exact VRs.cons h1 (VRs.append h2 t)
theorem VRs.get : ∀ {ps : List PV} {vs : List V} {i : Nat} {p : PV}, VRs K H μ ps vs → ps[i]? = some p → ∃ v, vs[i]? = some v ∧ VR K H μ p v
  | [], _, _, _, _, e => by simp at e
  | q :: ps, vs, 0, p, h, e => by
    obtain ⟨v, r, ev, h1, _⟩ := (show ∃ v r, vs = v :: r ∧ VR K H μ q v ∧ VRs K H μ ps r from h)
    simp at e
    subst e
    exact ⟨v, by rw [ev]; rfl, h1⟩
  | q :: ps, vs, i + 1, p, h, e => by
    obtain ⟨v, r, ev, _, h2⟩ := (show ∃ v r, vs = v :: r ∧ VR K H μ q v ∧ VRs K H μ ps r from h)
    obtain ⟨w, e1, e2⟩ := VRs.get (i := i) (p := p) h2 (by simpa using e)
    exact ⟨w, by rw [ev]; simpa using e1, e2⟩
theorem VRs.set {p : PV} {v : V} (r : VR K H μ p v) : ∀ {ps : List PV} {vs : List V} (i : Nat), VRs K H μ ps vs → VRs K H μ (ps.set i p) (vs.set i v)
  | [], vs, _, h => by have e : vs = [] := h; rw [e]; exact rfl
  | q :: ps, vs, 0, h => by
    obtain ⟨w, t, ev, _, h2⟩ := (show ∃ v r, vs = v :: r ∧ VR K H μ q v ∧ VRs K H μ ps r from h)
    rw [ev]
    exact VRs.cons r h2
  | q :: ps, vs, i + 1, h => by
    obtain ⟨w, t, ev, h1, h2⟩ := (show ∃ v r, vs = v :: r ∧ VR K H μ q v ∧ VRs K H μ ps r from h)
    rw [ev]
    exact VRs.cons h1 (VRs.set r i h2)
theorem VRs.take : ∀ {ps : List PV} {vs : List V} (n : Nat), VRs K H μ ps vs → VRs K H μ (ps.take n) (vs.take n)
  | _, _, 0, _ => rfl
  | [], vs, n + 1, h => by have e : vs = [] := h; rw [e]; exact rfl
  | q :: ps, vs, n + 1, h => by
    obtain ⟨w, t, ev, h1, h2⟩ := (show ∃ v r, vs = v :: r ∧ VR K H μ q v ∧ VRs K H μ ps r from h)
    rw [ev]
    exact VRs.cons h1 (VRs.take n h2)
theorem VRs.drop : ∀ {ps : List PV} {vs : List V} (n : Nat), VRs K H μ ps vs → VRs K H μ (ps.drop n) (vs.drop n)
  | _, _, 0, h => h
  | [], vs, n + 1, h => by have e : vs = [] := h; rw [e]; exact rfl
  | q :: ps, vs, n + 1, h => by
    obtain ⟨w, t, ev, h1, h2⟩ := (show ∃ v r, vs = v :: r ∧ VR K H μ q v ∧ VRs K H μ ps r from h)
    rw [ev]
    exact VRs.drop n h2
theorem VRs.nil_iff {ps : List PV} {vs : List V} (h : VRs K H μ ps vs) : vs = [] ↔ ps = [] := by
  have e := VRs.length h
  constructor
  · intro z; rw [z] at e; exact List.eq_nil_of_length_eq_zero e
  · intro z; rw [z] at e; exact List.eq_nil_of_length_eq_zero e.symm
theorem VRs.ints : ∀ {ns : List Int}, VRs K H μ (ns.map PV.int) (ns.map V.int)
  | [] => rfl
  | n :: ns => VRs.cons rfl (VRs.ints (ns := ns))
end

def keyOf : PV → Option Key
  | .int i => some (.inl i)
  | .str x => some (.inr ⟨x.toArray⟩)
  | _ => none
theorem keyOf_inj {p q : PV} {k : Key} (h : keyOf p = some k) (h' : keyOf q = some k) : p = q := by
  cases p <;> cases q <;> simp [keyOf] at h h' <;> subst h <;> simp_all
def KRs (K : PySem.W.Frag) (H : Hp) (μ : Mu) : List (PV × PV) → List (Key × V) → Prop
  | [], kv => kv = []
  | p :: r, kv => ∃ k v t, kv = (k, v) :: t ∧ keyOf p.1 = some k ∧ VR K H μ p.2 v ∧ KRs K H μ r t
def FRs (K : PySem.W.Frag) (H : Hp) (μ : Mu) : List (Str × PV) → List (Str × V) → Prop
  | [], fv => fv = []
  | p :: r, fv => ∃ v t, fv = (p.1, v) :: t ∧ VR K H μ p.2 v ∧ FRs K H μ r t
def CR (K : PySem.W.Frag) (H : Hp) (μ : Mu) (a : Addr) : Cell → Prop
  | .lst xs => ∃ vs, H a = some (.lst vs) ∧ VRs K H μ xs vs
  | .dct kvs => ∃ kv, H a = some (.dK kv) ∧ KRs K H μ kvs kv
  | .ins C fs => ∃ dx fv, H a = some (.ins C dx fv) ∧ FRs K H μ fs fv
structure SR (K : PySem.W.Frag) (μ : Mu) (st : Sto) (H : Hp) : Prop where
  len : μ.l.length = st.length
  nd : μ.l.Nodup
  ban : ∀ a, a ∈ μ.b → a ∉ μ.l ∧ ∃ o, H a = some o
  cell : ∀ (n : Nat) (c : Cell) (a : Addr), st[n]? = some c → μ.l[n]? = some a → CR K H μ a c
theorem KRs.mono {K : PySem.W.Frag} {H H' : Hp} {μ μ' : Mu} (g : Gv μ H μ' H') : ∀ (ps : List (PV × PV)) (kv : List (Key × V)), KRs K H μ ps kv → KRs K H' μ' ps kv
  | [], _, h => h
  | p :: ps, kv, h => by
    obtain ⟨k, v, t, e, hk, h1, h2⟩ := h
    exact ⟨k, v, t, e, hk, VR.monov g _ _ h1, KRs.mono g ps t h2⟩
theorem FRs.mono {K : PySem.W.Frag} {H H' : Hp} {μ μ' : Mu} (g : Gv μ H μ' H') : ∀ (ps : List (Str × PV)) (fv : List (Str × V)), FRs K H μ ps fv → FRs K H' μ' ps fv
  | [], _, h => h
  | p :: ps, fv, h => by
    obtain ⟨v, t, e, h1, h2⟩ := h
    exact ⟨v, t, e, VR.monov g _ _ h1, FRs.mono g ps t h2⟩
theorem CR.monov {K : PySem.W.Frag} {H H' : Hp} {μ μ' : Mu} (g : Gv μ H μ' H') {a : Addr} (ha : H' a = H a) : ∀ {c : Cell}, CR K H μ a c → CR K H' μ' a c
  | .lst xs, h => by
    obtain ⟨vs, e, r⟩ := h
    exact ⟨vs, by rw [ha]; exact e, VRs.monov g _ _ r⟩
  | .dct kvs, h => by
    obtain ⟨kv, e, r⟩ := h
    exact ⟨kv, by rw [ha]; exact e, KRs.mono g _ _ r⟩
  | .ins C fs, h => by
    obtain ⟨dx, fv, e, r⟩ := h
    exact ⟨dx, fv, by rw [ha]; exact e, FRs.mono g _ _ r⟩
theorem CR.mono {K : PySem.W.Frag} {H H' : Hp} {μ μ' : Mu} (g : Gr μ H μ' H') {a : Addr} (ha : H' a = H a) {c : Cell} (h : CR K H μ a c) : CR K H' μ' a c := CR.monov g.v ha h
theorem CR.has {K : PySem.W.Frag} {H : Hp} {μ : Mu} {a : Addr} : ∀ {c : Cell}, CR K H μ a c → ∃ o, H a = some o
  | .lst xs, ⟨vs, e, _⟩ => ⟨_, e⟩
  | .dct kvs, ⟨kv, e, _⟩ => ⟨_, e⟩
  | .ins C fs, ⟨dx, fv, e, _⟩ => ⟨_, e⟩
section
variable {K : PySem.W.Frag} {H : Hp} {μ : Mu} {st : Sto}
theorem SR.has (s : SR K μ st H) {a : Addr} (h : a ∈ μ.l) : ∃ o, H a = some o := by
  obtain ⟨n, hn, e⟩ := List.getElem_of_mem h
  have h1 : μ.l[n]? = some a := List.getElem?_eq_some_iff.mpr ⟨hn, e⟩
  have h2 : n < st.length := by rw [← s.len]; exact hn
  exact (s.cell n st[n] a (List.getElem?_eq_some_iff.mpr ⟨h2, rfl⟩) h1).has
theorem SR.free (s : SR K μ st H) {p : Addr} (h : H p = none) : p ∉ μ := fun m => by
  rcases m with m | m
  · obtain ⟨o, e⟩ := s.has m
    rw [h] at e; cases e
  · obtain ⟨o, e⟩ := (s.ban p m).2
    rw [h] at e; cases e
theorem gr_new {p : Addr} {o : HO} (h : H p = none) : Gr μ H μ (upd H p o) := ⟨⟨[], by simp⟩, fun _ m => m, fun _ m => .inl m, fun _ m => .inl m, fun a u e _ => by rw [upd_ne (ne_of_none e h)]; exact e⟩
theorem SR.new (s : SR K μ st H) {p : Addr} {o : HO} (h : H p = none) : SR K μ st (upd H p o) :=
  ⟨s.len, s.nd, fun a m => ⟨(s.ban a m).1, let ⟨u, e⟩ := (s.ban a m).2; ⟨u, by rw [upd_ne (ne_of_none e h)]; exact e⟩⟩, fun n c a e1 e2 => (s.cell n c a e1 e2).mono (gr_new h) (upd_ne (fun z => by
    obtain ⟨u, e⟩ := (s.cell n c a e1 e2).has
    rw [z, h] at e; cases e))⟩
theorem gr_alloc {p : Addr} {o : HO} (h : H p = none) : Gr μ H (μ.add p) (upd H p o) := ⟨⟨[p], rfl⟩, fun _ m => m, fun _ m => .inl m, fun a m => by
    rcases List.mem_append.mp m with z | z
    · exact .inl z
    · rw [List.mem_singleton.mp z]; exact .inr h, fun a u e _ => by rw [upd_ne (ne_of_none e h)]; exact e⟩
theorem gv_alloc {p : Addr} {o : HO} (h : ∀ u, H p = some u → seqO u = false) : Gv μ H (μ.add p) (upd H p o) := ⟨⟨[p], rfl⟩, fun a u e hu n => by
  have ne : a ≠ p := fun z => by
    subst z
    rw [h u e] at hu
    cases hu
  refine ⟨by rw [upd_ne ne]; exact e, fun m => ?_⟩
  rcases m with m | m
  · rcases List.mem_append.mp m with z | z
    · exact n (.inl z)
    · exact ne (List.mem_singleton.mp z)
  · exact n (.inr m)⟩
theorem SR.track (s : SR K μ st H) {p : Addr} {o : HO} {c : Cell} (np : p ∉ μ) (h : ∀ u, H p = some u → seqO u = false) (hc : CR K (upd H p o) (μ.add p) p c) : SR K (μ.add p) (st ++ [c]) (upd H p o) := by
  refine ⟨by simp [Mu.add, s.len], ?_, fun a m => ?_, fun n d a e1 e2 => ?_⟩
  · refine List.nodup_append.mpr ⟨s.nd, by simp, fun a ha b hb => ?_⟩
    rw [List.mem_singleton.mp hb]
    rintro rfl
    exact np (.inl ha)
  · have ne : a ≠ p := fun z => np (.inr (by rw [← z]; exact m))
    obtain ⟨n1, u, e⟩ := s.ban a m
    refine ⟨fun z => ?_, u, by rw [upd_ne ne]; exact e⟩
    rcases List.mem_append.mp z with z | z
    · exact n1 z
    · exact ne (List.mem_singleton.mp z)
  · have e2 : (μ.l ++ [p])[n]? = some a := e2
    by_cases hn : n < st.length
    · rw [List.getElem?_append_left hn] at e1
      rw [List.getElem?_append_left (by rw [s.len]; exact hn)] at e2
      exact (s.cell n d a e1 e2).monov (gv_alloc h) (upd_ne (fun z => by
        rw [z] at e2
        exact np (.inl (List.mem_of_getElem? e2))))
    · rw [List.getElem?_append_right (by omega)] at e1
      rw [List.getElem?_append_right (by rw [s.len]; omega), s.len] at e2
      have e0 : n - st.length = 0 := by
        have := (List.getElem?_eq_some_iff.mp e1).1
        simp at this
        omega
      rw [e0] at e1 e2
      simp at e1 e2
      subst e1 e2
      exact hc
theorem SR.alloc (s : SR K μ st H) {p : Addr} {o : HO} {c : Cell} (h : H p = none) (hc : CR K (upd H p o) (μ.add p) p c) : SR K (μ.add p) (st ++ [c]) (upd H p o) :=
  s.track (s.free h) (fun u e => by rw [h] at e; cases e) hc
theorem SR.addr (s : SR K μ st H) {n : Nat} {c : Cell} (h : st[n]? = some c) : ∃ a, μ.l[n]? = some a ∧ CR K H μ a c := by
  have hn : n < μ.l.length := by rw [s.len]; exact (List.getElem?_eq_some_iff.mp h).1
  exact ⟨μ.l[n], List.getElem?_eq_some_iff.mpr ⟨hn, rfl⟩, s.cell n c _ h (List.getElem?_eq_some_iff.mpr ⟨hn, rfl⟩)⟩
theorem gr_put {a : Addr} {o : HO} {n : Nat} (h : μ.l[n]? = some a) : Gr μ H μ (upd H a o) := ⟨⟨[], by simp⟩, fun _ m => m, fun _ m => .inl m, fun _ m => .inl m, fun b u e nb => by
  rw [upd_ne (fun z => nb (by rw [z]; exact List.mem_of_getElem? h))]; exact e⟩
theorem SR.put (s : SR K μ st H) {a : Addr} {o : HO} {n : Nat} {c : Cell} (h : μ.l[n]? = some a) (hc : CR K (upd H a o) μ a c) : SR K μ (st.set n c) (upd H a o) := by
  refine ⟨by simp [s.len], s.nd, fun b m => ?_, fun m d b e1 e2 => ?_⟩
  · obtain ⟨n1, u, e⟩ := s.ban b m
    exact ⟨n1, u, by rw [upd_ne (fun z => n1 (by rw [z]; exact List.mem_of_getElem? h))]; exact e⟩
  · by_cases hm : n = m
    · subst hm
      rw [h] at e2
      cases e2
      have hn : n < st.length := by rw [← s.len]; exact (List.getElem?_eq_some_iff.mp h).1
      rw [List.getElem?_set_self hn] at e1
      cases e1
      exact hc
    · rw [List.getElem?_set_ne hm] at e1
      refine (s.cell m d b e1 e2).mono (gr_put h) (upd_ne fun z => hm ?_)
      subst z
      obtain ⟨h1, e1'⟩ := List.getElem?_eq_some_iff.mp h
      obtain ⟨h2, e2'⟩ := List.getElem?_eq_some_iff.mp e2
      exact (List.getElem_inj s.nd).mp (e1'.trans e2'.symm)
end

def XR (K : PySem.W.Frag) (H : Hp) (μ : Mu) (x : Exn) (d : Addr) : Prop := ∃ fv, H d = some (.xd fv) ∧ FRs K H μ x.fs fv
def PostG {α β : Type} (K : PySem.W.Frag) (E : XK) (R : Hp → Mu → α → β → Prop) (Q : β → Hp → Prop) (μ : Mu) (H : Hp) : Res α → Prop
  | .ok a st => ∀ μ' H' b, Gr μ H μ' H' → SR K μ' st H' → R H' μ' a b → Q b H'
  | .err x st => ∀ μ' H' d, Gr μ H μ' H' → SR K μ' st H' → XR K H' μ' x d → E (.ref x.C) (some d) H'
  | .bad => False
section
variable {K : PySem.W.Frag} {E : XK} {α β γ δ : Type} {R : Hp → Mu → α → β → Prop} {R' : Hp → Mu → γ → δ → Prop} {Q Q' : β → Hp → Prop} {μ μ' : Mu} {H H' : Hp} {st : Sto}
theorem PostG.mono {r : Res α} (h : PostG K E R Q μ H r) (i : ∀ b H', Q b H' → Q' b H') : PostG K E R Q' μ H r := by
  cases r with
  | ok a st => exact fun μ' H' b g s x => i _ _ (h μ' H' b g s x)
  | err x st => exact h
  | bad => exact h
theorem PostG.grow {r : Res α} (h : PostG K E R Q μ H r) (g : Gr μ H μ' H') : PostG K E R Q μ' H' r := by
  cases r with
  | ok a st => exact fun μ2 H2 b g2 s x => h μ2 H2 b (g.trans g2 fun a m => (s.ban a m).1) s x
  | err x st => exact fun μ2 H2 d g2 s x => h μ2 H2 d (g.trans g2 fun a m => (s.ban a m).1) s x
  | bad => exact h
theorem PostG.bind {m : M γ} {f : γ → M α} (h : PostG K E R Q μ H (M.bind m f st)) :
    PostG K E R' (fun b H' => ∃ μ' st' a, Gr μ H μ' H' ∧ SR K μ' st' H' ∧ R' H' μ' a b ∧ PostG K E R Q μ' H' (f a st')) μ H (m st) := by
  unfold M.bind at h
  cases e : m st with
  | ok a st' =>
    rw [e] at h
    exact fun μ' H' b g s r => ⟨μ', st', a, g, s, r, h.grow g⟩
  | err x st' =>
    rw [e] at h
    exact h
  | bad =>
    rw [e] at h
    exact h.elim
theorem PostG.bindAt {m : M γ} {f : γ → M α} (h : PostG K E R Q μ H (M.bind m f st)) (g0 : Gr μ H μ' H') :
    PostG K E R' (fun b H2 => ∃ μ2 st' a, Gr μ' H' μ2 H2 ∧ SR K μ2 st' H2 ∧ R' H2 μ2 a b ∧ PostG K E R Q μ H (f a st')) μ' H' (m st) := by
  unfold M.bind at h
  cases e : m st with
  | ok a st' =>
    rw [e] at h
    exact fun μ2 H2 b g s r => ⟨μ2, st', a, g, s, r, h⟩
  | err x st' =>
    rw [e] at h
    exact PostG.grow (r := .err x st') h g0
  | bad =>
    rw [e] at h
    exact h.elim
theorem PostG.calm {m : M α} (h : PostG K E R Q μ H (M.calm m st)) {E' : XK} : PostG K E' R Q μ H (m st) := by
  unfold M.calm at h
  cases e : m st with
  | ok a st' => rw [e] at h; exact h
  | err x st' => rw [e] at h; exact h.elim
  | bad => rw [e] at h; exact h.elim
end
structure ER (K : PySem.W.Frag) (H : Hp) (μ : Mu) (ρ : Rho) (σ : St) : Prop where
  len : ρ.length = σ.length
  get : ∀ (i : Nat) (p : PV), ρ[i]? = some (some p) → ∃ v, σ[i]? = some (some v) ∧ VR K H μ p v
theorem ER.mono {K : PySem.W.Frag} {H H' : Hp} {μ μ' : Mu} {ρ : Rho} {σ : St} (g : Gr μ H μ' H') (e : ER K H μ ρ σ) : ER K H' μ' ρ σ :=
  ⟨e.len, fun i p h => let ⟨v, h1, h2⟩ := e.get i p h; ⟨v, h1, VR.mono g p v h2⟩⟩
theorem ER.set {K : PySem.W.Frag} {H : Hp} {μ : Mu} {ρ : Rho} {σ : St} (e : ER K H μ ρ σ) {p : PV} {v : V} (r : VR K H μ p v) (i : Nat) : ER K H μ (ρ.set i (some p)) (σ.set i (some v)) := by
  refine ⟨by simp [e.len], fun j q h => ?_⟩
  by_cases hj : i = j
  · subst hj
    by_cases hi : i < ρ.length
    · rw [List.getElem?_set_self hi] at h
      cases h
      exact ⟨v, List.getElem?_set_self (by rw [← e.len]; exact hi), r⟩
    · rw [List.getElem?_eq_none (by simpa using hi)] at h
      cases h
  · rw [List.getElem?_set_ne hj] at h
    obtain ⟨w, h1, h2⟩ := e.get j q h
    exact ⟨w, by rw [List.getElem?_set_ne hj]; exact h1, h2⟩
theorem ER.unset {K : PySem.W.Frag} {H : Hp} {μ : Mu} {ρ : Rho} {σ : St} (e : ER K H μ ρ σ) (i : Nat) : ER K H μ (ρ.set i none) (σ.set i none) := by
  refine ⟨by simp [e.len], fun j q h => ?_⟩
  by_cases hj : i = j
  · subst hj
    by_cases hi : i < ρ.length
    · rw [List.getElem?_set_self hi] at h
      cases h
    · rw [List.getElem?_eq_none (by simpa using hi)] at h
      cases h
  · rw [List.getElem?_set_ne hj] at h
    obtain ⟨w, h1, h2⟩ := e.get j q h
    exact ⟨w, by rw [List.getElem?_set_ne hj]; exact h1, h2⟩
def PostS (K : PySem.W.Frag) (W : WX) (D : Ends) (μ : Mu) (H : Hp) : Res Fl → Prop
  | .ok (.next ρ) st => ∀ μ' H' σ', Gr μ H μ' H' → SR K μ' st H' → ER K H' μ' ρ σ' → D.nx σ' H'
  | .ok (.ret p) st => ∀ μ' H' v, Gr μ H μ' H' → SR K μ' st H' → VR K H' μ' p v → D.rt v H'
  | .ok (.brk ρ) st => ∀ μ' H' σ', Gr μ H μ' H' → SR K μ' st H' → ER K H' μ' ρ σ' → D.bk σ' H'
  | .ok (.cont ρ) st => ∀ μ' H' σ', Gr μ H μ' H' → SR K μ' st H' → ER K H' μ' ρ σ' → D.ct σ' H'
  | .ok (.exc x ρ) st => ∀ μ' H' σ' d, Gr μ H μ' H' → SR K μ' st H' → ER K H' μ' ρ σ' → XR K H' μ' x d → W (.ref x.C) (some d) σ' H'
  | .err _ _ => False
  | .bad => False
theorem PostS.grow {K : PySem.W.Frag} {W : WX} {D : Ends} {μ μ' : Mu} {H H' : Hp} {r : Res Fl} (h : PostS K W D μ H r) (g : Gr μ H μ' H') : PostS K W D μ' H' r := by
  cases r with
  | ok f st =>
    cases f with
    | next ρ => exact fun μ2 H2 σ g2 s e => h μ2 H2 σ (g.trans g2 fun a m => (s.ban a m).1) s e
    | ret p => exact fun μ2 H2 v g2 s e => h μ2 H2 v (g.trans g2 fun a m => (s.ban a m).1) s e
    | brk ρ => exact fun μ2 H2 σ g2 s e => h μ2 H2 σ (g.trans g2 fun a m => (s.ban a m).1) s e
    | cont ρ => exact fun μ2 H2 σ g2 s e => h μ2 H2 σ (g.trans g2 fun a m => (s.ban a m).1) s e
    | exc x ρ => exact fun μ2 H2 σ d g2 s e z => h μ2 H2 σ d (g.trans g2 fun a m => (s.ban a m).1) s e z
  | err x st => exact h
  | bad => exact h

def tM (K : PySem.W.Frag) (W : WX) (m : Rho → M PV) : TE := fun σ H Q => ∃ μ st ρ, ER K H μ ρ σ ∧ SR K μ st H ∧ PostG K (fun c d H' => W c d σ H') (VR K) Q μ H (m ρ st)
def tMT (K : PySem.W.Frag) (W : WX) (m : Rho → M Bool) : TT := fun σ H Q => ∃ μ st ρ, ER K H μ ρ σ ∧ SR K μ st H ∧ PostG K (fun c d H' => W c d σ H') (fun _ _ a b => a = b) Q μ H (m ρ st)
def tMA (K : PySem.W.Frag) (W : WX) (m : Rho → M (List PV)) : TA := fun σ H Q => ∃ μ st ρ, ER K H μ ρ σ ∧ SR K μ st H ∧ PostG K (fun c d H' => W c d σ H') (VRs K) Q μ H (m ρ st)
def RF (K : PySem.W.Frag) (H : Hp) (μ : Mu) (ps : List PV) (v : V) : Prop := VR K H μ (.lst ps) v
def tMS (K : PySem.W.Frag) (W : WX) (m : Rho → M Fl) : TS := fun D σ H => ∃ μ st ρ, ER K H μ ρ σ ∧ SR K μ st H ∧ PostS K W D μ H (m ρ st)
def ME (X : Cx) (W : WX) (e : Expr) (m : Rho → M PV) : Prop := PE X e (tM X.K W m)
def MT (X : Cx) (W : WX) (e : Expr) (m : Rho → M Bool) : Prop := PT X e (tMT X.K W m)
def MW (X : Cx) (W : WX) (e : Expr) (m : Rho → M Bool) : Prop := PW X e (tMT X.K W m)
def MA (X : Cx) (W : WX) (es : List Expr) (m : Rho → M (List PV)) : Prop := PA X es (tMA X.K W m)
def MS (X : Cx) (W : WX) (s : Stmt) (m : Rho → M Fl) : Prop := PS X s (tMS X.K W m)
def MSs (X : Cx) (W : WX) (s : List Stmt) (m : Rho → M Fl) : Prop := PSs X s (tMS X.K W m)
section
variable {X : Cx}
theorem PE.imp {e : Expr} {t t' : TE} (h : PE X e t) (i : ∀ σ H Q, t' σ H Q → t σ H Q) : PE X e t' := ⟨fun pins s σ H Q I q => h.run pins s σ H Q I (i σ H Q q)⟩
theorem PT.imp {e : Expr} {t t' : TT} (h : PT X e t) (i : ∀ σ H Q, t' σ H Q → t σ H Q) : PT X e t' := ⟨fun pins s σ H Q I q => h.run pins s σ H Q I (i σ H Q q)⟩
theorem PW.imp {e : Expr} {t t' : TT} (h : PW X e t) (i : ∀ σ H Q, t' σ H Q → t σ H Q) : PW X e t' := ⟨fun wh pins s σ H Q I q => h.run wh pins s σ H Q I (i σ H Q q)⟩
theorem PA.imp {es : List Expr} {t t' : TA} (h : PA X es t) (i : ∀ σ H Q, t' σ H Q → t σ H Q) : PA X es t' := ⟨fun pos pins s σ H Q I q => h.run pos pins s σ H Q I (i σ H Q q)⟩
theorem PS.imp {st : Stmt} {t t' : TS} (h : PS X st t) (i : ∀ D σ H, t' D σ H → t D σ H) : PS X st t' := ⟨fun pins s σ H D I q => h.run pins s σ H D I (i D σ H q)⟩
theorem PSs.imp {st : List Stmt} {t t' : TS} (h : PSs X st t) (i : ∀ D σ H, t' D σ H → t D σ H) : PSs X st t' := ⟨fun pins s σ H D I q => h.run pins s σ H D I (i D σ H q)⟩
end
end MP

set_option maxRecDepth 100000
namespace MP
open PySem L2
section
variable {K : PySem.W.Frag} {W : WX} {α β : Type}
def onErr (ρ : Rho) (m : M α) (k : α → M Fl) : M Fl := fun st => match m st with
  | .ok a st' => k a st'
  | .err x st' => .ok (.exc x ρ) st'
  | .bad => .bad
theorem PostS.onErr {R : Hp → Mu → α → β → Prop} {D : Ends} {μ : Mu} {H : Hp} {ρ : Rho} {σ : St} {m : M α} {k : α → M Fl} {st : Sto} (h : PostS K W D μ H (onErr ρ m k st)) (er : ER K H μ ρ σ) :
    PostG K (fun c d H' => W c d σ H') R (fun b H' => ∃ μ' st' a, Gr μ H μ' H' ∧ SR K μ' st' H' ∧ R H' μ' a b ∧ PostS K W D μ' H' (k a st')) μ H (m st) := by
  unfold MP.onErr at h
  cases e : m st with
  | ok a st' =>
    rw [e] at h
    exact fun μ' H' b g s r => ⟨μ', st', a, g, s, r, h.grow g⟩
  | err x st' =>
    rw [e] at h
    exact fun μ' H' d g s r => h μ' H' σ d g s (er.mono g) r
  | bad =>
    rw [e] at h
    exact h.elim
end

section
variable {X : Cx} {W : WX} {e a b : Expr} {pos : Pos}
theorem gl_of {x : Str} (h : X.env.kindOf x = some .globalImplicit) : Gl X x := h
def eVar (i : Nat) : Rho → M PV := fun ρ => match ρ[i]? with
  | some (some p) => M.ret p
  | _ => M.fail
def eC (p : PV) : Rho → M PV := fun _ => M.ret p
theorem me_var (i : Nat) {x : Str} (hN : X.N[i]? = some x := by kernel_rfl) (hv : Vis X.env.scope x := by first | exact Or.inl rfl | exact Or.inr (Or.inl rfl) | exact Or.inr (Or.inr rfl)) (hd : (x == ("__debug__" : Str)) = false := by kernel_rfl)
    (hcd : (x == ("__classdict__" : Str)) = false := by kernel_rfl) : ME X W (.Name x pos) (eVar i) := PE.imp (pv (X := X) (pos := pos) i hN hv hd hcd) fun σ H Q ⟨μ, st, ρ, er, sr, h⟩ => by
  unfold eVar at h
  cases e : ρ[i]? with
  | none => rw [e] at h; exact h.elim
  | some o =>
    rw [e] at h
    cases o with
    | none => exact h.elim
    | some p =>
      obtain ⟨v, h1, h2⟩ := er.get i p e
      exact ⟨v, h1, h μ H v (Gr.refl _ _) sr h2⟩
theorem me_c {p : PV} {v : V} (h : PE X e (tC v)) (r : ∀ H μ, VR X.K H μ p v) : ME X W e (eC p) := PE.imp h fun σ H Q ⟨μ, st, ρ, er, sr, q⟩ => q μ H v (Gr.refl _ _) sr (r H μ)
theorem me_int {i : Int} {j : Nat} : ME X W (.Constant (.int i) j pos) (eC (.int i)) := me_c pe_int fun _ _ => rfl
theorem me_bl {b : Bool} {j : Nat} : ME X W (.Constant (.bool b) j pos) (eC (.bl b)) := me_c pe_bl fun _ _ => rfl
theorem me_non {j : Nat} : ME X W (.Constant .none j pos) (eC .non) := me_c pe_non fun _ _ => rfl
theorem me_str {x : Str} {j : Nat} (l : List Nat) (h : x = ⟨l.toArray⟩) : ME X W (.Constant (.str x) j pos) (eC (.str l)) := me_c pe_str fun _ _ => by rw [h]; exact rfl
theorem me_globI {x : Str} {i : Int} {t : Tok} (hg : Gl X x) (hm : X.mg x = some (.int i t)) (hd : (x == ("__debug__" : Str)) = false := by kernel_rfl) : ME X W (.Name x pos) (eC (.int i)) :=
  me_c (pe_glob (v := .int i) hg hm ⟨t, rfl⟩ hd) fun _ _ => rfl
theorem me_globS {x : Str} {l : List Nat} {t : Tok} (hg : Gl X x) (hm : X.mg x = some (.str ⟨l.toArray⟩ t)) (hd : (x == ("__debug__" : Str)) = false := by kernel_rfl) : ME X W (.Name x pos) (eC (.str l)) :=
  me_c (pe_glob (v := .str ⟨l.toArray⟩) hg hm ⟨t, rfl⟩ hd) fun _ _ => rfl
theorem me_globR {x : Str} {a : Addr} (hg : Gl X x) (hm : X.mg x = some (.ref a)) (hd : (x == ("__debug__" : Str)) = false := by kernel_rfl) : ME X W (.Name x pos) (eC (.gl a)) :=
  me_c (pe_glob (v := .ref a) hg hm rfl hd) fun _ _ => rfl
theorem me_globT {x : Str} {a : Addr} {ps : List PV} {vs : List V} (hg : Gl X x) (hm : X.mg x = some (.ref a)) (hk : KT X.K a vs) (r : ∀ H μ, VRs X.K H μ ps vs) (hd : (x == ("__debug__" : Str)) = false := by kernel_rfl) : ME X W (.Name x pos) (eC (.tup ps)) :=
  me_c (pe_glob (v := .ref a) hg hm rfl hd) fun H μ => (show ∃ a' vs', V.ref a = .ref a' ∧ TupAt X.K H μ a' vs' ∧ VRs X.K H μ ps vs' from ⟨a, vs, rfl, .inr hk, r H μ⟩)
theorem me_ty {x : Str} {T : String} (hg : Gl X x) (hm : X.mg x = none) (hv : bootBuiltins x = some (.type T)) (hn : x ≠ "__name__" := by decide +kernel) (hd : (x == ("__debug__" : Str)) = false := by kernel_rfl) : ME X W (.Name x pos) (eC (.ty T)) :=
  me_c (pe_bltn (v := .ty T) hg hm hv rfl hn hd) fun _ _ => rfl

def T2 (K : PySem.W.Frag) (r : R2) (g : PV → PV → M PV) : Prop :=
  ∀ (μ : Mu) (st : Sto) (H : Hp) (x y : PV) (u v : V) (E : XK) (Q : VK), SR K μ st H → VR K H μ x u → VR K H μ y v → PostG K E (VR K) Q μ H (g x y st) → r u v H Q
def T1 (K : PySem.W.Frag) (r : V → Hp → VK → Prop) (g : PV → M PV) : Prop :=
  ∀ (μ : Mu) (st : Sto) (H : Hp) (x : PV) (u : V) (E : XK) (Q : VK), SR K μ st H → VR K H μ x u → PostG K E (VR K) Q μ H (g x st) → r u H Q
def TL (K : PySem.W.Frag) (r : List V → Hp → VK → Prop) (g : List PV → M PV) : Prop :=
  ∀ (μ : Mu) (st : Sto) (H : Hp) (xs : List PV) (us : List V) (E : XK) (Q : VK), SR K μ st H → VRs K H μ xs us → PostG K E (VR K) Q μ H (g xs st) → r us H Q
def eBin (g : PV → PV → M PV) (ma mb : Rho → M PV) : Rho → M PV := fun ρ => M.bind (ma ρ) fun x => M.bind (mb ρ) fun y => g x y
def eUn (g : PV → M PV) (ma : Rho → M PV) : Rho → M PV := fun ρ => M.bind (ma ρ) g
theorem two_imp {ma mb : Rho → M PV} {g : PV → PV → M PV} {r : R2} (t : T2 X.K r g) : ∀ σ H Q, tM X.K W (eBin g ma mb) σ H Q → tOp r (tM X.K W ma) (tM X.K W mb) σ H Q := fun σ H Q ⟨μ, st, ρ, er, sr, h⟩ =>
  ⟨μ, st, ρ, er, sr, (PostG.bind h).mono fun u H1 ⟨μ1, st1, x, g1, s1, rx, h1⟩ => ⟨μ1, st1, ρ, er.mono g1, s1, (PostG.bind h1).mono fun v H2 ⟨μ2, st2, y, g2, s2, ry, h2⟩ => t μ2 st2 H2 x y u v _ Q s2 (VR.mono g2 x u rx) ry h2⟩⟩
theorem me_bin {op : Operator} {r : R2} {g : PV → PV → M PV} {ma mb : Rho → M PV} (ho : OpR X (binaryOp op) r) (t : T2 X.K r g) (ha : ME X W a ma) (hb : ME X W b mb) : ME X W (.BinOp a op b pos) (eBin g ma mb) :=
  PE.imp (pe_op ho ha hb) (two_imp t)
theorem me_cmp {op : CmpOp} {r : R2} {g : PV → PV → M PV} {ma mb : Rho → M PV} (ho : OpR X (compareOp op) r) (t : T2 X.K r g) (ha : ME X W a ma) (hb : ME X W b mb) (hm : behindInMarks op b = false) : ME X W (.Compare a [op] [b] pos) (eBin g ma mb) :=
  PE.imp (pe_cmpR ho ha hb hm) (two_imp t)
theorem me_un {op : UnaryOp} {r : V → Hp → VK → Prop} {g : PV → M PV} {ma : Rho → M PV} (ho : UnR X (unaryOp op) r) (t : T1 X.K r g) (ha : ME X W a ma) : ME X W (.UnaryOp op a pos) (eUn g ma) :=
  PE.imp (pe_un ho ha) fun σ H Q ⟨μ, st, ρ, er, sr, h⟩ => ⟨μ, st, ρ, er, sr, (PostG.bind h).mono fun u H1 ⟨μ1, st1, x, g1, s1, rx, h1⟩ => t μ1 st1 H1 x u _ Q s1 rx h1⟩
theorem me_ix {r : R2} {g : PV → PV → M PV} {ma mb : Rho → M PV} (ho : IxR X r) (t : T2 X.K r g) (ha : ME X W a ma) (hb : ME X W b mb) (hs : PlainIx b) : ME X W (.Subscript a b pos) (eBin g ma mb) :=
  PE.imp (pe_ix ho ha hb hs) (two_imp t)

def asB : PV → M Bool
  | .bl b => M.ret b
  | _ => M.fail
def eB (m : Rho → M PV) : Rho → M Bool := fun ρ => M.bind (m ρ) asB
theorem asB_post {K : PySem.W.Frag} {E : XK} {Q : Bool → Hp → Prop} {μ : Mu} {H : Hp} {st : Sto} {p : PV} {v : V} (sr : SR K μ st H) (r : VR K H μ p v) (h : PostG K E (fun _ _ (a : Bool) b => a = b) Q μ H (asB p st)) : ∃ k, v = .bl k ∧ Q k H := by
  cases p with
  | bl b => exact ⟨b, r, h μ H b (Gr.refl _ _) sr rfl⟩
  | _ => exact h.elim
theorem test_imp {m : Rho → M PV} : ∀ σ H Q, tMT X.K W (eB m) σ H Q → tTest (tM X.K W m) σ H Q := fun σ H Q ⟨μ, st, ρ, er, sr, h⟩ =>
  ⟨μ, st, ρ, er, sr, (PostG.bind h).mono fun u H1 ⟨μ1, st1, x, g1, s1, rx, h1⟩ => asB_post s1 rx h1⟩
theorem mt_cmp {op : CmpOp} {r : R2} {g : PV → PV → M PV} {ma mb : Rho → M PV} (ho : OpR X (compareOp op) r) (t : T2 X.K r g) (ha : ME X W a ma) (hb : ME X W b mb) (hm : behindInMarks op b = false) : MT X W (.Compare a [op] [b] pos) (eB (eBin g ma mb)) :=
  PT.imp (pt_cmpR ho ha hb hm) fun σ H Q h => by
    have q := test_imp (X := X) (W := W) (m := eBin g ma mb) σ H Q h
    exact two_imp t σ H _ q
theorem mt_val {m : Rho → M PV} (h : ME X W e m) (he : ∀ whole, isTrue e X.env whole = (do let v ← whole; standAt e.pos; holding [v] (truthy v)) := by intro _; rfl) : MT X W e (eB m) :=
  PT.imp (pt_val h he) fun σ H Q h => test_imp (X := X) (W := W) (m := m) σ H Q h
variable {tA tB' : Rho → M Bool} {rest : List Expr}
def tAndM (t u : Rho → M Bool) : Rho → M Bool := fun ρ => M.bind (t ρ) fun c => if c = true then u ρ else M.ret false
def tOrM (t u : Rho → M Bool) : Rho → M Bool := fun ρ => M.bind (t ρ) fun c => if c = true then M.ret true else u ρ
def tNotM (t : Rho → M Bool) : Rho → M Bool := fun ρ => M.bind (t ρ) fun c => M.ret (!c)
theorem mw_and1 (ha : MT X W a tA) : MW X W (.BoolOp .And [a] pos) tA := pw_and1 ha
theorem mw_or1 (ha : MT X W a tA) : MW X W (.BoolOp .Or [a] pos) tA := pw_or1 ha
theorem mw_and (ha : MT X W a tA) (hb : MW X W (.BoolOp .And (b :: rest) pos) tB') : MW X W (.BoolOp .And (a :: b :: rest) pos) (tAndM tA tB') :=
  PW.imp (pw_and ha hb) fun σ H Q ⟨μ, st, ρ, er, sr, h⟩ => ⟨μ, st, ρ, er, sr, (PostG.bind h).mono fun c H1 ⟨μ1, st1, c', g1, s1, ec, h1⟩ => by
    subst ec
    cases c' with
    | true => rw [if_pos rfl] at h1 ⊢; exact ⟨μ1, st1, ρ, er.mono g1, s1, h1⟩
    | false => rw [if_neg Bool.false_ne_true] at h1 ⊢; exact h1 μ1 H1 false (Gr.refl _ _) s1 rfl⟩
theorem mw_or (ha : MT X W a tA) (hb : MW X W (.BoolOp .Or (b :: rest) pos) tB') : MW X W (.BoolOp .Or (a :: b :: rest) pos) (tOrM tA tB') :=
  PW.imp (pw_or ha hb) fun σ H Q ⟨μ, st, ρ, er, sr, h⟩ => ⟨μ, st, ρ, er, sr, (PostG.bind h).mono fun c H1 ⟨μ1, st1, c', g1, s1, ec, h1⟩ => by
    subst ec
    cases c' with
    | true => rw [if_pos rfl] at h1 ⊢; exact h1 μ1 H1 true (Gr.refl _ _) s1 rfl
    | false => rw [if_neg Bool.false_ne_true] at h1 ⊢; exact ⟨μ1, st1, ρ, er.mono g1, s1, h1⟩⟩
theorem mt_of (h : MW X W e tA) : MT X W e tA := PW.pt h
theorem mt_not (ha : MT X W a tA) : MT X W (.UnaryOp .Not a pos) (tNotM tA) :=
  PT.imp (pt_not ha) fun σ H Q ⟨μ, st, ρ, er, sr, h⟩ => ⟨μ, st, ρ, er, sr, (PostG.bind h).mono fun c H1 ⟨μ1, st1, c', g1, s1, ec, h1⟩ => by
    subst ec
    exact h1 μ1 H1 _ (Gr.refl _ _) s1 rfl⟩
def eAndV (ma mb : Rho → M PV) : Rho → M PV := fun ρ => M.bind (ma ρ) fun x => M.bind (asB x) fun c => if c = true then mb ρ else M.ret (.bl false)
def eOrV (ma mb : Rho → M PV) : Rho → M PV := fun ρ => M.bind (ma ρ) fun x => M.bind (asB x) fun c => if c = true then M.ret (.bl true) else mb ρ
def eNotV (ma : Rho → M PV) : Rho → M PV := fun ρ => M.bind (ma ρ) fun x => M.bind (asB x) fun c => M.ret (.bl (!c))
theorem asB_bind {α β : Type} {K : PySem.W.Frag} {E : XK} {R : Hp → Mu → α → β → Prop} {Q : β → Hp → Prop} {μ : Mu} {H : Hp} {st : Sto} {p : PV} {v : V} {f : Bool → M α} (r : VR K H μ p v) (h : PostG K E R Q μ H (M.bind (asB p) f st)) :
    ∃ k, v = .bl k ∧ PostG K E R Q μ H (f k st) := by
  cases p with
  | bl b => exact ⟨b, r, h⟩
  | _ => exact h.elim
theorem me_one {op : BoolOp} {m : Rho → M PV} (h : ME X W a m) : ME X W (.BoolOp op [a] pos) m := pe_one h
theorem me_and {ma mb : Rho → M PV} (ha : ME X W a ma) (hb : ME X W (.BoolOp .And (b :: rest) pos) mb) : ME X W (.BoolOp .And (a :: b :: rest) pos) (eAndV ma mb) :=
  PE.imp (pe_and ha hb) fun σ H Q ⟨μ, st, ρ, er, sr, h⟩ => ⟨μ, st, ρ, er, sr, (PostG.bind h).mono fun u H1 ⟨μ1, st1, x, g1, s1, rx, h1⟩ => by
    obtain ⟨k, e, h2⟩ := asB_bind rx h1
    refine ⟨k, e, ?_⟩
    cases k with
    | true => rw [if_pos rfl] at h2 ⊢; exact ⟨μ1, st1, ρ, er.mono g1, s1, h2⟩
    | false => rw [if_neg Bool.false_ne_true] at h2 ⊢; exact h2 μ1 H1 _ (Gr.refl _ _) s1 rfl⟩
theorem me_or {ma mb : Rho → M PV} (ha : ME X W a ma) (hb : ME X W (.BoolOp .Or (b :: rest) pos) mb) : ME X W (.BoolOp .Or (a :: b :: rest) pos) (eOrV ma mb) :=
  PE.imp (pe_or ha hb) fun σ H Q ⟨μ, st, ρ, er, sr, h⟩ => ⟨μ, st, ρ, er, sr, (PostG.bind h).mono fun u H1 ⟨μ1, st1, x, g1, s1, rx, h1⟩ => by
    obtain ⟨k, e, h2⟩ := asB_bind rx h1
    refine ⟨k, e, ?_⟩
    cases k with
    | true => rw [if_pos rfl] at h2 ⊢; exact h2 μ1 H1 _ (Gr.refl _ _) s1 rfl
    | false => rw [if_neg Bool.false_ne_true] at h2 ⊢; exact ⟨μ1, st1, ρ, er.mono g1, s1, h2⟩⟩
theorem me_not {ma : Rho → M PV} (ha : ME X W a ma) : ME X W (.UnaryOp .Not a pos) (eNotV ma) :=
  PE.imp (pe_not ha) fun σ H Q ⟨μ, st, ρ, er, sr, h⟩ => ⟨μ, st, ρ, er, sr, (PostG.bind h).mono fun u H1 ⟨μ1, st1, x, g1, s1, rx, h1⟩ => by
    obtain ⟨k, e, h2⟩ := asB_bind rx h1
    exact ⟨k, e, h2 μ1 H1 _ (Gr.refl _ _) s1 rfl⟩⟩
def eIf (t : Rho → M Bool) (ma mb : Rho → M PV) : Rho → M PV := fun ρ => M.bind (t ρ) fun c => if c = true then ma ρ else mb ρ
theorem me_ifExp {c : Expr} {t : Rho → M Bool} {ma mb : Rho → M PV} (hc : MT X W c t) (ha : ME X W a ma) (hb : ME X W b mb) : ME X W (.IfExp c a b pos) (eIf t ma mb) :=
  PE.imp (pe_ifExp hc ha hb) fun σ H Q ⟨μ, st, ρ, er, sr, h⟩ => ⟨μ, st, ρ, er, sr, (PostG.bind h).mono fun c H1 ⟨μ1, st1, c', g1, s1, ec, h1⟩ => by
    subst ec
    cases c' with
    | true => rw [if_pos rfl] at h1 ⊢; exact ⟨μ1, st1, ρ, er.mono g1, s1, h1⟩
    | false => rw [if_neg Bool.false_ne_true] at h1 ⊢; exact ⟨μ1, st1, ρ, er.mono g1, s1, h1⟩⟩

def aNil : Rho → M (List PV) := fun _ => M.ret []
def aCons (m : Rho → M PV) (r : Rho → M (List PV)) : Rho → M (List PV) := fun ρ => M.bind (m ρ) fun x => M.bind (r ρ) fun xs => M.ret (x :: xs)
theorem ma_nil : MA X W [] aNil := PA.imp pa_nil fun σ H Q ⟨μ, st, ρ, er, sr, h⟩ => h μ H [] (Gr.refl _ _) sr rfl
theorem ma_cons {es : List Expr} {m : Rho → M PV} {r : Rho → M (List PV)} (ha : ME X W e m) (hr : MA X W es r) (hs : starEach (e :: es) X.env = (false, eval e X.env) :: starEach es X.env := by kernel_rfl) : MA X W (e :: es) (aCons m r) :=
  PA.imp (pa_cons ha hr hs) fun σ H Q ⟨μ, st, ρ, er, sr, h⟩ => ⟨μ, st, ρ, er, sr, (PostG.bind h).mono fun u H1 ⟨μ1, st1, x, g1, s1, rx, h1⟩ =>
    ⟨μ1, st1, ρ, er.mono g1, s1, (PostG.bind h1).mono fun us H2 ⟨μ2, st2, xs, g2, s2, rxs, h2⟩ => h2 μ2 H2 _ (Gr.refl _ _) s2 (VRs.cons (VR.mono g2 x u rx) rxs)⟩⟩
def spM (K : PySem.W.Frag) (m : List PV → M PV) (n : Nat) : Sp := fun vs H Q E => ∃ μ st ps, SR K μ st H ∧ VRs K H μ ps vs ∧ ps.length = n ∧ PostG K E (VR K) Q μ H (m ps st)
def eCall (f : List PV → M PV) (m : Rho → M (List PV)) : Rho → M PV := fun ρ => M.bind (m ρ) f
def aLen (n : Nat) (m : Rho → M (List PV)) : Prop := ∀ ρ st xs st', m ρ st = .ok xs st' → xs.length = n
theorem aLen_nil : aLen 0 aNil := fun ρ st xs st' h => by cases h; rfl
theorem aLen_cons {n : Nat} {m : Rho → M PV} {r : Rho → M (List PV)} (h : aLen n r) : aLen (n + 1) (aCons m r) := fun ρ st xs st' e => by
  unfold aCons M.bind at e
  cases e1 : m ρ st with
  | ok a s1 =>
    rw [e1] at e
    dsimp only at e
    cases e2 : r ρ s1 with
    | ok b s2 =>
      rw [e2] at e
      cases e
      rw [List.length_cons, h ρ s1 b _ e2]
    | err x s2 => rw [e2] at e; cases e
    | bad => rw [e2] at e; cases e
  | err x s1 => rw [e1] at e; cases e
  | bad => rw [e1] at e; cases e
theorem PostG.lens {K : PySem.W.Frag} {E : XK} {Q : List V → Hp → Prop} {μ : Mu} {H : Hp} {n : Nat} {m : Rho → M (List PV)} {ρ : Rho} {st : Sto} (hl : aLen n m) (h : PostG K E (fun H μ (ps : List PV) vs => VRs K H μ ps vs ∧ ps.length = n) Q μ H (m ρ st)) :
    PostG K E (VRs K) Q μ H (m ρ st) := by
  cases e : m ρ st with
  | ok a s' => rw [e] at h; exact fun μ' H' b g s r => h μ' H' b g s ⟨r, hl ρ st a s' e⟩
  | err x s' => rw [e] at h; exact h
  | bad => rw [e] at h; exact h
theorem me_call {x : Str} {f : Addr} {fd : FuncData} {ps : List Str} {k n : Nat} {p : Pos} {es : List Expr} {ma : Rho → M (List PV)} {mf : List PV → M PV} (F : FnOk X.prog X.w X.K X.mg X.base (L2.CX X.prog X.w) k f fd ps (spM X.K mf n)) (hr : Room k X.A) (hg : Gl X x) (hm : X.mg x = some (.ref f))
    (hk : PySem.W.keepIn X.K (.ref f) = true) (hb : Binds X.K fd ps []) (tk : Takes X W) (ha : MA X W (e :: es) ma) (hl : aLen n ma) (hdb : (x == ("__debug__" : Str)) = false := by kernel_rfl)
    (he : starEach (e :: es) X.env = (false, eval e X.env) :: starEach es X.env := by kernel_rfl) (hpl : (backTo pos (starEach es X.env)).any (·.1) = false := by kernel_rfl) :
    ME X W (.Call (.Name x p) (e :: es) [] pos) (eCall mf ma) :=
  PE.imp (pe_callSD (dvs := []) (ds := []) (E := WE W) F hr hg hm hk hb .nil (fun σ => passAt tk σ) ha hdb he hpl) fun σ H Q ⟨μ, st, ρ, er, sr, h⟩ =>
    ⟨μ, st, ρ, er, sr, PostG.lens hl ((PostG.bind h).mono fun us H1 ⟨μ1, st1, xs, g1, s1, ⟨rxs, hn⟩, h1⟩ => ⟨μ1, st1, xs, s1, by rw [List.append_nil]; exact rxs, hn, h1⟩)⟩
theorem me_callB {x : Str} {id : String} {r : List V → Hp → VK → Prop} {g : List PV → M PV} {p : Pos} {es : List Expr} {ma : Rho → M (List PV)} (hc : CallR X (.builtin id) r) (t : TL X.K r g) (hg : Gl X x) (hm : X.mg x = none) (hv : bootBuiltins x = some (.builtin id)) (ha : MA X W (e :: es) ma)
    (hn : x ≠ "__name__" := by decide +kernel) (hdb : (x == ("__debug__" : Str)) = false := by kernel_rfl) (he : starEach (e :: es) X.env = (false, eval e X.env) :: starEach es X.env := by kernel_rfl) (hpl : (backTo pos (starEach es X.env)).any (·.1) = false := by kernel_rfl) :
    ME X W (.Call (.Name x p) (e :: es) [] pos) (eCall g ma) :=
  PE.imp (pe_callB hc hg hm hv ha hn hdb he hpl) fun σ H Q ⟨μ, st, ρ, er, sr, h⟩ =>
    ⟨μ, st, ρ, er, sr, (PostG.bind h).mono fun us H1 ⟨μ1, st1, xs, g1, s1, rxs, h1⟩ => t μ1 st1 H1 xs us _ Q s1 rxs h1⟩
theorem me_callTy {x : Str} {T : String} {r : List V → Hp → VK → Prop} {g : List PV → M PV} {p : Pos} {es : List Expr} {ma : Rho → M (List PV)} (hc : CallR X (.type T) r) (t : TL X.K r g) (hg : Gl X x) (hm : X.mg x = none) (hv : bootBuiltins x = some (.type T)) (ha : MA X W (e :: es) ma)
    (hn : x ≠ "__name__" := by decide +kernel) (hdb : (x == ("__debug__" : Str)) = false := by kernel_rfl) (he : starEach (e :: es) X.env = (false, eval e X.env) :: starEach es X.env := by kernel_rfl) (hpl : (backTo pos (starEach es X.env)).any (·.1) = false := by kernel_rfl) :
    ME X W (.Call (.Name x p) (e :: es) [] pos) (eCall g ma) :=
  PE.imp (pe_callTy hc hg hm hv ha hn hdb he hpl) fun σ H Q ⟨μ, st, ρ, er, sr, h⟩ =>
    ⟨μ, st, ρ, er, sr, (PostG.bind h).mono fun us H1 ⟨μ1, st1, xs, g1, s1, rxs, h1⟩ => t μ1 st1 H1 xs us _ Q s1 rxs h1⟩
end

section
variable {X : Cx} {W : WX} {e a b : Expr} {pos : Pos} {s : Stmt} {rest : List Stmt} {m m' : Rho → M Fl} {me : Rho → M PV}
def sNext : Rho → M Fl := fun ρ => M.ret (.next ρ)
def sSeq (m m' : Rho → M Fl) : Rho → M Fl := fun ρ st => match m ρ st with
  | .ok (.next ρ') st' => m' ρ' st'
  | r => r
theorem mss_nil : MSs X W [] sNext := PSs.imp pss_nil fun D σ H ⟨μ, st, ρ, er, sr, h⟩ => h μ H σ (Gr.refl _ _) sr er
theorem mss_cons (h1 : MS X W s m) (h2 : MSs X W rest m') : MSs X W (s :: rest) (sSeq m m') :=
  PSs.imp (pss_cons h1 h2) fun D σ H ⟨μ, st, ρ, er, sr, h⟩ => ⟨μ, st, ρ, er, sr, by
    unfold sSeq at h
    cases q : m ρ st with
    | ok f st' =>
      rw [q] at h
      cases f with
      | next ρ' => exact fun μ' H' σ' g s' e' => ⟨μ', st', ρ', e', s', PostS.grow h g⟩
      | ret p => exact h
      | brk ρ' => exact h
      | cont ρ' => exact h
      | exc x ρ' => exact h
    | err x st' => rw [q] at h; exact h
    | bad => rw [q] at h; exact h⟩
theorem mss_one (h1 : MS X W s m) : MSs X W [s] m := PSs.imp (pss_one h1) fun _ _ _ h => h
def sPass : Rho → M Fl := fun ρ => M.ret (.next ρ)
def sBreak : Rho → M Fl := fun ρ => M.ret (.brk ρ)
def sCont : Rho → M Fl := fun ρ => M.ret (.cont ρ)
theorem ms_pass : MS X W (.Pass pos) sPass := PS.imp ps_pass fun D σ H ⟨μ, st, ρ, er, sr, h⟩ => h μ H σ (Gr.refl _ _) sr er
theorem ms_break : MS X W (.Break pos) sBreak := PS.imp ps_break fun D σ H ⟨μ, st, ρ, er, sr, h⟩ => h μ H σ (Gr.refl _ _) sr er
theorem ms_continue : MS X W (.Continue pos) sCont := PS.imp ps_continue fun D σ H ⟨μ, st, ρ, er, sr, h⟩ => h μ H σ (Gr.refl _ _) sr er
def sDrop (me : Rho → M PV) : Rho → M Fl := fun ρ => onErr ρ (me ρ) fun _ => M.ret (.next ρ)
theorem ms_expr (he : ME X W e me) (hs : swapsWith e none pos.line X.env = pure false := by kernel_rfl) : MS X W (.Expr e pos) (sDrop me) :=
  PS.imp (ps_expr he hs) fun D σ H ⟨μ, st, ρ, er, sr, h⟩ => ⟨μ, st, ρ, er, sr, (PostS.onErr h er).mono fun u H1 ⟨μ1, st1, x, g1, s1, rx, h1⟩ => h1 μ1 H1 σ (Gr.refl _ _) s1 (er.mono g1)⟩
def sRet (me : Rho → M PV) : Rho → M Fl := fun ρ => onErr ρ (me ρ) fun v => M.ret (.ret v)
theorem ms_ret (he : ME X W e me) : MS X W (.Return (some e) pos) (sRet me) :=
  PS.imp (ps_ret he) fun D σ H ⟨μ, st, ρ, er, sr, h⟩ => ⟨μ, st, ρ, er, sr, (PostS.onErr h er).mono fun u H1 ⟨μ1, st1, x, g1, s1, rx, h1⟩ => h1 μ1 H1 u (Gr.refl _ _) s1 rx⟩
def sRetN : Rho → M Fl := fun _ => M.ret (.ret .non)
theorem ms_retN : MS X W (.Return none pos) sRetN := PS.imp ps_retN fun D σ H ⟨μ, st, ρ, er, sr, h⟩ => h μ H .non (Gr.refl _ _) sr rfl
def sIf (t : Rho → M Bool) (m m' : Rho → M Fl) : Rho → M Fl := fun ρ => onErr ρ (t ρ) fun c => if c = true then m ρ else m' ρ
theorem ms_if {c : Expr} {sa sb : List Stmt} {t : Rho → M Bool} (hc : MT X W c t) (ha : MSs X W sa m) (hb : MSs X W sb m') : MS X W (.If c sa sb pos) (sIf t m m') :=
  PS.imp (ps_if hc ha hb) fun D σ H ⟨μ, st, ρ, er, sr, h⟩ => ⟨μ, st, ρ, er, sr, (PostS.onErr h er).mono fun c H1 ⟨μ1, st1, c', g1, s1, ec, h1⟩ => by
    subst ec
    cases c' with
    | true => rw [if_pos rfl] at h1 ⊢; exact ⟨μ1, st1, ρ, er.mono g1, s1, h1⟩
    | false => rw [if_neg Bool.false_ne_true] at h1 ⊢; exact ⟨μ1, st1, ρ, er.mono g1, s1, h1⟩⟩
abbrev GM := PV → Rho → M Rho
def tMG (K : PySem.W.Frag) (W : WX) (g : GM) : TG := fun v σ H Q => ∃ μ st ρ p, ER K H μ ρ σ ∧ SR K μ st H ∧ VR K H μ p v ∧ PostG K (fun c d H' => W c d σ H') (ER K) Q μ H (g p ρ st)
def MG (X : Cx) (W : WX) (tg : Expr) (g : GM) : Prop := PG X tg (tMG X.K W g)
theorem PG.imp {tg : Expr} {t t' : TG} (h : PG X tg t) (i : ∀ v σ H Q, t' v σ H Q → t v σ H Q) : PG X tg t' := ⟨fun pins s σ H v u Q I r q => h.run pins s σ H v u Q I r (i v σ H Q q)⟩
def gN (i : Nat) : GM := fun p ρ => M.ret (ρ.set i (some p))
theorem mg_name {i : Nat} {x : Str} (hN : X.N.Nodup) (hi : X.N[i]? = some x) (hx : Loc X.env.scope x) (hf : X.fn x = true ∨ X.env.scope.names.lookup x = some .local := by first | exact .inl rfl | exact .inr rfl | assumption) : MG X W (.Name x pos) (gN i) :=
  PG.imp (pg_name hN hi hx hf) fun v σ H Q ⟨μ, st, ρ, p, er, sr, rv, h⟩ => h μ H _ (Gr.refl _ _) sr (er.set rv i)
abbrev GsM := List PV → Rho → M Rho
def tMGs (K : PySem.W.Frag) (W : WX) (g : GsM) : TGs := fun vs σ H Q => ∃ μ st ρ ps, ER K H μ ρ σ ∧ SR K μ st H ∧ VRs K H μ ps vs ∧ PostG K (fun c d H' => False) (ER K) Q μ H (g ps ρ st)
def MGs (X : Cx) (W : WX) (tgs : List Expr) (g : GsM) : Prop := PGs X tgs (tMGs X.K W g)
theorem PGs.imp {tg : List Expr} {t t' : TGs} (h : PGs X tg t) (i : ∀ v σ H Q, t' v σ H Q → t v σ H Q) : PGs X tg t' := ⟨fun pins s σ H v u Q I r q => h.run pins s σ H v u Q I r (i v σ H Q q)⟩
def gsNil : GsM := fun ps ρ => match ps with
  | [] => M.ret ρ
  | _ => M.fail
def gsCons (g : GM) (r : GsM) : GsM := fun ps ρ => match ps with
  | p :: ps => M.bind (M.calm (g p ρ)) fun ρ1 => r ps ρ1
  | [] => M.fail
theorem mgs_nil : MGs X W [] gsNil := PGs.imp pgs_nil fun vs σ H Q ⟨μ, st, ρ, ps, er, sr, rv, h⟩ => by
  cases ps with
  | nil => exact ⟨rv, h μ H σ (Gr.refl _ _) sr er⟩
  | cons p ps => exact h.elim
theorem mgs_cons {es : List Expr} {g : GM} {r : GsM} (h1 : MG X W e g) (h2 : MGs X W es r) (hs : (assignEach (e :: es) X.env).map (·.2) = assign e X.env :: (assignEach es X.env).map (·.2) := by kernel_rfl) : MGs X W (e :: es) (gsCons g r) :=
  PGs.imp (pgs_cons h1 h2 hs) fun vs σ H Q ⟨μ, st, ρ, ps, er, sr, rv, h⟩ => by
    cases ps with
    | nil => exact h.elim
    | cons p ps =>
      obtain ⟨v, t, ev, rp, rt⟩ := (show ∃ v r, vs = v :: r ∧ VR X.K H μ p v ∧ VRs X.K H μ ps r from rv)
      refine ⟨v, t, ev, μ, st, ρ, p, er, sr, rp, ?_⟩
      have q := PostG.bind (R' := ER X.K) h
      exact (PostG.calm q).mono fun σ1 H1 ⟨μ1, st1, ρ1, g1, s1, e1, h3⟩ => ⟨μ1, st1, ρ1, ps, e1, s1, VRs.mono g1 ps t rt, h3⟩
def gT (n : Nat) (r : GsM) : GM := fun p ρ => match p with
  | .tup xs => if xs.length = n then M.calm (r xs ρ) else M.fail
  | _ => M.fail
theorem mg_tup {es : List Expr} {k n : Nat} {r : GsM} (hc : X.calm = true) (h : MGs X W es r) (hn : (assignEach es X.env).length = n := by kernel_rfl) (hst : (assignEach es X.env).findIdx? (·.1) = none := by kernel_rfl) : MG X W (.Tuple es k pos) (gT n r) :=
  PG.imp (pg_tup hc h hn hst) fun v σ H Q ⟨μ, st, ρ, p, er, sr, rv, h⟩ => by
    cases p with
    | tup xs =>
      obtain ⟨a, vs, ev, ta, rs⟩ := (show ∃ a vs, v = .ref a ∧ TupAt X.K H μ a vs ∧ VRs X.K H μ xs vs from rv)
      have h' : PostG X.K (fun c d H' => W c d σ H') (ER X.K) Q μ H ((if xs.length = n then M.calm (r xs ρ) else M.fail) st) := h
      by_cases hx : xs.length = n
      · rw [if_pos hx] at h'
        exact ⟨a, vs, ev, ta.sq, by rw [← VRs.length rs]; exact hx, μ, st, ρ, xs, er, sr, rs, PostG.calm h'⟩
      · rw [if_neg hx] at h'
        exact h'.elim
    | _ => exact h.elim
def sAsg (me : Rho → M PV) (g : GM) : Rho → M Fl := fun ρ => onErr ρ (me ρ) fun v => onErr ρ (g v ρ) fun ρ' => M.ret (.next ρ')
theorem asg_imp {g : GM} {me : Rho → M PV} : ∀ D σ H, tMS X.K W (sAsg me g) D σ H → tAsg (tM X.K W me) (tMG X.K W g) D σ H := fun D σ H ⟨μ, st, ρ, er, sr, h⟩ =>
  ⟨μ, st, ρ, er, sr, (PostS.onErr h er).mono fun u H1 ⟨μ1, st1, x, g1, s1, rx, h1⟩ => ⟨μ1, st1, ρ, x, er.mono g1, s1, rx, (PostS.onErr h1 (er.mono g1)).mono fun σ2 H2 ⟨μ2, st2, ρ2, g2, s2, e2, h2⟩ => h2 μ2 H2 σ2 (Gr.refl _ _) s2 e2⟩⟩
theorem ms_asg {tg : Expr} {g : GM} (he : ME X W e me) (hg : MG X W tg g) (hs : swapsWithSole [tg] e pos.line X.env = pure false := by kernel_rfl) (hw : swappedStores [tg] e X.env = pure none := by kernel_rfl)
    (h1 : (assignEach [tg] X.env).map (·.2) = [assign tg X.env] := by kernel_rfl) : MS X W (.Assign [tg] e pos) (sAsg me g) := PS.imp (ps_asg he hg hs hw h1) asg_imp
def sSet (i : Nat) (me : Rho → M PV) : Rho → M Fl := fun ρ => onErr ρ (me ρ) fun v => M.ret (.next (ρ.set i (some v)))
theorem ms_set {i : Nat} {x : Str} {pos' : Pos} (hN : X.N.Nodup) (hi : X.N[i]? = some x) (hx : Loc X.env.scope x) (he : ME X W e me) (hs : swapsWith e (some (.Name x pos')) pos.line X.env = pure false := by kernel_rfl)
    (hf : X.fn x = true ∨ X.env.scope.names.lookup x = some .local := by first | exact .inl rfl | exact .inr rfl | assumption) : MS X W (.Assign [.Name x pos'] e pos) (sSet i me) :=
  PS.imp (ps_set hN hi hx he hs hf) fun D σ H ⟨μ, st, ρ, er, sr, h⟩ => ⟨μ, st, ρ, er, sr, (PostS.onErr h er).mono fun u H1 ⟨μ1, st1, x, g1, s1, rx, h1⟩ => h1 μ1 H1 _ (Gr.refl _ _) s1 ((er.mono g1).set rx i)⟩

def turnL (k : Rho → M Fl) (m : M Fl) : M Fl := fun st => match m st with
  | .ok (.next ρ') st' => k ρ' st'
  | .ok (.cont ρ') st' => k ρ' st'
  | .ok (.brk ρ') st' => .ok (.next ρ') st'
  | r => r
def forL (g : GM) (b : Rho → M Fl) : List PV → Rho → M Fl
  | [], ρ => M.ret (.next ρ)
  | p :: ps, ρ => onErr ρ (g p ρ) fun ρ1 => turnL (forL g b ps) (b ρ1)
def Sup (K : PySem.W.Frag) (J : It) (ps : List PV) (μ0 : Mu) (H0 : Hp) : Prop :=
  ∀ μ H st, Gr μ0 H0 μ H → SR K μ st H → (∀ (i : Nat) (p : PV), ps[i]? = some p → J.go i H ∧ ∀ x H', J.yld i H x H' → Gr μ H μ H' ∧ SR K μ st H' ∧ VR K H' μ p x) ∧ J.stop ps.length H
theorem for_imp {K : PySem.W.Frag} {W : WX} {D : Ends} {J : It} {ps : List PV} {g : GM} {b : Rho → M Fl} {μ : Mu} {H : Hp} {σ : St} {ρ : Rho} {st : Sto} (su : Sup K J ps μ H) (er : ER K H μ ρ σ) (sr : SR K μ st H) (h : PostS K W D μ H (forL g b ps ρ st)) :
    ∃ V : Nat → Nat → St → Hp → Prop, (∃ m, V 0 m σ H) ∧ ∀ i m σ H, V i m σ H →
      (J.stop i H ∧ D.nx σ H) ∨ (J.go i H ∧ ∃ N : St → Hp → Prop, (∀ σ' H', N σ' H' → ∃ m', m' < m ∧ V (i + 1) m' σ' H') ∧ ∀ x H', J.yld i H x H' → tMG K W g x σ H' fun σ2 H2 => tMS K W b { D with nx := N, ct := N, bk := D.nx } σ2 H2) := by
  refine ⟨fun i m σ' H' => m = ps.length - i ∧ i ≤ ps.length ∧ ∃ μ' st' ρ', Gr μ H μ' H' ∧ ER K H' μ' ρ' σ' ∧ SR K μ' st' H' ∧ PostS K W D μ' H' (forL g b (ps.drop i) ρ' st'), ⟨ps.length, by simp, Nat.zero_le _, μ, st, ρ, Gr.refl _ _, er, sr, by rw [List.drop_zero]; exact h⟩, ?_⟩
  rintro i m σ1 H1 ⟨rfl, hi, μ1, st1, ρ1, g1, e1, s1, h1⟩
  by_cases hlt : i < ps.length
  · have hp : ps[i]? = some ps[i] := by simp [hlt]
    obtain ⟨go, yl⟩ := (su μ1 H1 st1 g1 s1).1 i ps[i] hp
    refine .inr ⟨go, fun σ' H' => ∃ μ' st' ρ', Gr μ H μ' H' ∧ ER K H' μ' ρ' σ' ∧ SR K μ' st' H' ∧ PostS K W D μ' H' (forL g b (ps.drop (i + 1)) ρ' st'), fun σ' H' q => ⟨ps.length - (i + 1), by omega, rfl, hlt, q⟩, fun x H' y => ?_⟩
    obtain ⟨g2, s2, rx⟩ := yl x H' y
    rw [List.drop_eq_getElem_cons hlt] at h1
    unfold forL at h1
    refine ⟨μ1, st1, ρ1, ps[i], e1.mono g2, s2, rx, (PostS.onErr (PostS.grow h1 g2) (e1.mono g2)).mono fun σ3 H3 ⟨μ3, st3, ρ3, g3, s3, e3, h3⟩ => ⟨μ3, st3, ρ3, e3, s3, ?_⟩⟩
    have gg := (g1.trans g2 fun a m => (s2.ban a m).1).trans g3 fun a m => (s3.ban a m).1
    unfold turnL at h3
    cases q : b ρ3 st3 with
    | ok f st' =>
      rw [q] at h3
      cases f with
      | next ρ' => exact fun μ' H' σ' g4 s4 e4 => ⟨μ', st', ρ', gg.trans g4 (fun a m => (s4.ban a m).1), e4, s4, PostS.grow h3 g4⟩
      | cont ρ' => exact fun μ' H' σ' g4 s4 e4 => ⟨μ', st', ρ', gg.trans g4 (fun a m => (s4.ban a m).1), e4, s4, PostS.grow h3 g4⟩
      | brk ρ' => exact h3
      | ret p => exact h3
      | exc x ρ' => exact h3
    | err x st' => rw [q] at h3; exact h3
    | bad => rw [q] at h3; exact h3
  · have e : i = ps.length := by omega
    subst e
    rw [List.drop_length] at h1
    exact .inl ⟨(su μ1 H1 st1 g1 s1).2, h1 μ1 H1 σ1 (Gr.refl _ _) s1 e1⟩
def tMI (K : PySem.W.Frag) (W : WX) (m : Rho → M (List PV)) : TI := fun σ H R => ∃ μ st ρ, ER K H μ ρ σ ∧ SR K μ st H ∧ PostG K (fun c d H' => W c d σ H') (fun H μ ps (J : It) => Sup K J ps μ H) R μ H (m ρ st)
def MI (X : Cx) (W : WX) (tg iter : Expr) (m : Rho → M (List PV)) : Prop := PI X tg iter (tMI X.K W m)
theorem PI.imp {tg iter : Expr} {t t' : TI} (h : PI X tg iter t) (i : ∀ σ H R, t' σ H R → t σ H R) : PI X tg iter t' := ⟨fun pins s σ H R I q => h.run pins s σ H R I (i σ H R q)⟩
def sFor (mi : Rho → M (List PV)) (g : GM) (b : Rho → M Fl) : Rho → M Fl := fun ρ => onErr ρ (mi ρ) fun ps => forL g b ps ρ
theorem ms_for {tg iter : Expr} {body : List Stmt} {mi : Rho → M (List PV)} {g : GM} (hp : PassesOwn (model X.prog X.w) X.A X.env X.xe) (hc : X.calm = true) (hi : MI X W tg iter mi) (hg : MG X W tg g) (hb : MSs X W body m)
    (hs : ∀ x, foldedSetIterable iter X.env x = pure x := by intro _; kernel_rfl) : MS X W (.For tg iter body [] pos) (sFor mi g m) :=
  PS.imp (ps_for hp hc hi hg hb hs) fun D σ H ⟨μ, st, ρ, er, sr, h⟩ => ⟨μ, st, ρ, er, sr, (PostS.onErr h er).mono fun J H1 ⟨μ1, st1, ps, g1, s1, su, h1⟩ => for_imp su (er.mono g1) s1 h1⟩
def whileF (t : Rho → M Bool) (b : Rho → M Fl) : Nat → Rho → M Fl
  | 0, _ => M.fail
  | n + 1, ρ => onErr ρ (t ρ) fun c => if c = true then turnL (whileF t b n) (b ρ) else M.ret (.next ρ)
theorem ms_while {c : Expr} {body : List Stmt} {t : Rho → M Bool} (n : Nat) (hp : PassesOwn (model X.prog X.w) X.A X.env X.xe) (hc : MT X W c t) (hb : MSs X W body m) : MS X W (.While c body [] pos) (whileF t m n) :=
  PS.imp (ps_while hp hc hb) fun D σ H h => by
    refine ⟨fun n σ H => tMS X.K W (whileF t m n) D σ H, ⟨n, h⟩, ?_⟩
    rintro n σ H ⟨μ, st, ρ, er, sr, h⟩
    cases n with
    | zero => exact h.elim
    | succ n =>
      unfold whileF at h
      refine ⟨μ, st, ρ, er, sr, (PostS.onErr h er).mono fun c H1 ⟨μ1, st1, c', g1, s1, ec, h1⟩ => ?_⟩
      subst ec
      cases c' with
      | false =>
        rw [if_neg Bool.false_ne_true] at h1 ⊢
        exact h1 μ1 H1 σ (Gr.refl _ _) s1 (er.mono g1)
      | true =>
        rw [if_pos rfl] at h1 ⊢
        refine ⟨fun σ' H' => tMS X.K W (whileF t m n) D σ' H', fun σ' H' q => ⟨n, Nat.lt_succ_self _, q⟩, μ1, st1, ρ, er.mono g1, s1, ?_⟩
        unfold turnL at h1
        cases q : m ρ st1 with
        | ok f st' =>
          rw [q] at h1
          cases f with
          | next ρ' => exact fun μ' H' σ' g4 s4 e4 => ⟨μ', st', ρ', e4, s4, PostS.grow h1 g4⟩
          | cont ρ' => exact fun μ' H' σ' g4 s4 e4 => ⟨μ', st', ρ', e4, s4, PostS.grow h1 g4⟩
          | brk ρ' => exact h1
          | ret p => exact h1
          | exc x ρ' => exact h1
        | err x st' => rw [q] at h1; exact h1
        | bad => rw [q] at h1; exact h1
end

def runB (m : Rho → M Fl) (n : Nat) (ps : List PV) : M PV := fun st => match m (ps.map some ++ List.replicate (n - ps.length) none) st with
  | .ok (.next _) st' => .ok .non st'
  | .ok (.ret p) st' => .ok p st'
  | .ok (.exc x _) st' => .err x st'
  | _ => .bad
theorem er_start {K : PySem.W.Frag} {H : Hp} {μ : Mu} {N : List Str} {ps : List PV} {vs : List V} (r : VRs K H μ ps vs) : ER K H μ (ps.map some ++ List.replicate (N.length - ps.length) none) (L2.start N vs) := by
  have hl := VRs.length r
  refine ⟨by unfold L2.start; simp [hl], fun i p h => ?_⟩
  by_cases hi : i < ps.length
  · rw [List.getElem?_append_left (by simpa using hi), List.getElem?_map] at h
    cases q : ps[i]? with
    | none => rw [q] at h; cases h
    | some p' =>
      rw [q] at h
      cases h
      obtain ⟨v, e1, e2⟩ := VRs.get r q
      refine ⟨v, ?_, e2⟩
      unfold L2.start
      rw [List.getElem?_append_left (by simpa [← hl] using hi), List.getElem?_map, e1]
      rfl
  · rw [List.getElem?_append_right (by simpa using hi), List.getElem?_replicate] at h
    split at h <;> cases h
theorem def_ok {P : Program} {w : World} {K : PySem.W.Frag} {mg : Str → Option Value} {base : Heap} {x qual : Str} {st : Stmt} {f : Addr} {fd : FuncData} {N ps : List Str} {k : Nat} {m : Rho → M Fl} (F : Fun K x qual st f fd) (S : FnScope N ps (defScope st))
    (hb : ∀ (cdv : Value) (A : Around) (outer : List Env) (s : Shared) (H : Hp) (E : XK), Room k (A.deeper (PyProof.Rows.envOfC qual (defScope st) s.heap.objs.size f cdv)) →
      MSs (cxOf (L2.CX P w) P w K mg base N qual (defScope st) f cdv A outer s H E) (fun c d _ H => E c d H) (defBody st) m) :
    FnOk P w K mg base (L2.CX P w) (k + 1) f fd ps (spM K (runB m N.length) ps.length) := by
  refine F.okX S (fun vs H Q E h => ?_) (fun cdv A outer s H vs Q E hr h => ?_)
  · obtain ⟨μ, st, qs, _, r, hn, _⟩ := h
    rw [← VRs.length r, hn]
  · refine ⟨_, hb cdv A outer s H E hr, ?_⟩
    obtain ⟨μ, st, qs, sr, r, hn, h⟩ := h
    refine ⟨μ, st, _, er_start r, sr, ?_⟩
    unfold runB at h
    cases q : m (qs.map some ++ List.replicate (N.length - qs.length) none) st with
    | ok fl st' =>
      rw [q] at h
      cases fl with
      | next ρ' => exact fun μ' H' σ' g s e => h μ' H' .non g s rfl
      | ret p => exact h
      | brk ρ' => exact h.elim
      | cont ρ' => exact h.elim
      | exc x ρ' => exact fun μ' H' σ' d g s e z => h μ' H' d g s z
    | err x st' => rw [q] at h; exact h.elim
    | bad => rw [q] at h; exact h.elim
end MP

set_option maxRecDepth 100000
set_option maxHeartbeats 4000000
namespace MP
open PySem L2 PySem.Spec PyProof.Rows
theorem tuple_mul1 (l : Addr) (items : Array Value) (n : Nat) (dd : Option Addr) (sl : Array (Option Value)) (u : Tok) :
    Meets (Builtin.«tuple.__mul__» ⟨[.ref l, .int 1 u], []⟩) (fun _ R s => s.heap.get? l = some { cls := .type "tuple", dict := dd, data := .seq items n, slots := sl } ∧ R (.ok (.ret (Value.ref l))) s) :=
  .of_wp fun prog w A R s h => by
    obtain ⟨hp, g, d, tk, os⟩ := s
    obtain ⟨hl, h⟩ := h
    have f1 := AutoSeq1.idx_int
    wp_walk using wpAny_loadPart' hl
    exact ⟨_, rfl, h⟩
theorem tuple_mul0 (l : Addr) (items : Array Value) (n : Nat) (dd : Option Addr) (sl : Array (Option Value)) (x : Int) (u : Tok) (c0 : (decide (x < -(2 ^ 63)) || decide (x ≥ 2 ^ 63)) = false) (c1 : (items.isEmpty || x == 1) = false) (c2 : (decide (x ≤ 0) || items.isEmpty) = true) :
    Meets (Builtin.«tuple.__mul__» ⟨[.ref l, .int x u], []⟩) (fun _ R s => s.heap.get? l = some { cls := .type "tuple", dict := dd, data := .seq items n, slots := sl } ∧
      R (.ok (.ret (Value.ref s.heap.objs.size))) { s with heap := s.heap.push { cls := Value.type "tuple", data := Data.seq #[] }, toks := s.toks }) :=
  .of_wp fun prog w A R s h => by
    obtain ⟨hp, g, d, tk, os⟩ := s
    obtain ⟨hl, h⟩ := h
    have f1 := AutoSeq1.idx_int
    wp_walk using wpAny_loadPart' hl
    repeat (first
      | (refine wpAny_ite_false (decide_eq_false (by rw [c0]; exact Bool.false_ne_true)) ?_; wp_walk using wpAny_loadPart' hl)
      | (refine wpAny_ite_false (decide_eq_false (by rw [c1]; exact Bool.false_ne_true)) ?_; wp_walk using wpAny_loadPart' hl)
      | (refine wpAny_ite_true (decide_eq_true (by rw [c2])) ?_; wp_walk using wpAny_loadPart' hl))
    exact ⟨_, rfl, h⟩
def rRepL (K : PySem.W.Frag) : R2 := fun x y H Q => ∃ l k xs, x = .ref l ∧ y = .int k ∧ SqT K H l xs ∧ ((k = 1 ∧ Q (.ref l) H) ∨ (xs ≠ [] ∧ k ≤ 0 ∧ -1000000 ≤ k ∧ ∀ p, H p = none → Q (.ref p) (upd H p (.tup []))))
theorem op_repL {X : Cx} : OpR X (binaryOp .Mult) (rRepL X.K) := by
  intro pins s σ H x y v u Q I rx ry h
  obtain ⟨l, k, xs, rfl, rfl, hT, h⟩ := h
  cases rx
  obtain ⟨t, rfl⟩ := ry
  obtain ⟨its, r, ⟨⟨cls, dd, data, sl⟩, ho, hc, n, hd⟩, hs⟩ := I.tuple hT
  simp only at hc hd
  subst hc hd
  have hle : its.length = xs.length := r.length.symm
  rcases h with ⟨rfl, q⟩ | ⟨hne, h1, h2, q⟩
  · refine wpAny_binaryOp_repeat_ref (T := "tuple") (U := "int") (by decide) ⟨_, ho, rfl⟩ (fun s' => typeIs_int s' 1 t) noFill_tuple_mul F.fills_int_mul F.slot_int_rmul repeat_tuple F.slot_int_index.lookup
      (call_meets F.slot_int_rmul (typeIs_int s 1 t) F.entry_int_rmul (F.args_int_rmul_2 _ _) (int_rmul_tuple 1 t l its.toArray n dd sl)
        ⟨ho, rfl, ⟨_, ho, rfl⟩, call_meets F.slot_tuple_mul ⟨_, ho, rfl⟩ F.entry_tuple_mul (F.args_tuple_mul_2 _ _) (tuple_mul1 l its.toArray n dd sl t) ⟨ho, ?_⟩⟩)
    exact ⟨.ref l, H, I, rfl, q⟩
  · have hn : its ≠ [] := fun e => hne (by
      rw [e] at hle
      exact List.eq_nil_of_length_eq_zero hle.symm)
    have hi : its.toArray.isEmpty = false := by
      cases its with
      | nil => exact absurd rfl hn
      | cons a b => rfl
    have c0 : (decide (k < -(2 ^ 63)) || decide (k ≥ 2 ^ 63)) = false := by
      rw [decide_eq_false (by omega), decide_eq_false (by omega)] <;> rfl
    have c1 : (its.toArray.isEmpty || k == 1) = false := by
      rw [hi, Bool.false_or]
      exact beq_eq_false_iff_ne.mpr (by omega)
    have c2 : (decide (k ≤ 0) || its.toArray.isEmpty) = true := by
      rw [hi, Bool.or_false]
      exact decide_eq_true (by omega)
    refine wpAny_binaryOp_repeat_ref (T := "tuple") (U := "int") (by decide) ⟨_, ho, rfl⟩ (fun s' => typeIs_int s' k t) noFill_tuple_mul F.fills_int_mul F.slot_int_rmul repeat_tuple F.slot_int_index.lookup
      (call_meets F.slot_int_rmul (typeIs_int s k t) F.entry_int_rmul (F.args_int_rmul_2 _ _) (int_rmul_tuple k t l its.toArray n dd sl)
        ⟨ho, rfl, ⟨_, ho, rfl⟩, call_meets F.slot_tuple_mul ⟨_, ho, rfl⟩ F.entry_tuple_mul (F.args_tuple_mul_2 _ _) (tuple_mul0 l its.toArray n dd sl k t c0 c1 c2) ⟨ho, ?_⟩⟩)
    refine ⟨.ref s.heap.objs.size, _, I.laid (t' := s.toks) (o := .tup []) (fun b ob q => Heap.get?_push_of_some _ q) (Nat.le_refl _) ?_, rfl, q _ (I.hok.fresh (Nat.le_refl _))⟩
    exact ⟨by rw [sizeLine_eq]; simp, _, .nil, IsTup.new _ _⟩
end MP

set_option maxRecDepth 100000
set_option maxHeartbeats 1000000
namespace MP
open PySem L2
abbrev SZ : Nat := 16777216
theorem sz_eq : sizeLine = SZ := sizeLine_eq
section
variable {K : PySem.W.Frag} {H : Hp} {μ : Mu} {st : Sto} {E : XK} {Q : VK} {x y : PV} {u v : V}
theorem post_tup {ps : List PV} {vs : List V} {p : Addr} (sr : SR K μ st H) (r : VRs K H μ ps vs) (hp : H p = none) (h : PostG K E (VR K) Q μ H (.ok (.tup ps) st)) : Q (.ref p) (upd H p (.tup vs)) :=
  h μ _ _ (gr_new hp) (sr.new hp) (show ∃ a ws, V.ref p = .ref a ∧ TupAt K (upd H p (.tup vs)) μ a ws ∧ VRs K (upd H p (.tup vs)) μ ps ws from ⟨p, vs, rfl, .inl ⟨upd_same, sr.free hp⟩, VRs.mono (gr_new hp) ps vs r⟩)
theorem post_lst {ps : List PV} {vs : List V} {p : Addr} (sr : SR K μ st H) (r : VRs K H μ ps vs) (hp : H p = none) (h : PostG K E (VR K) Q μ H (.ok (.lst ps) st)) : Q (.ref p) (upd H p (.lst vs)) :=
  h μ _ _ (gr_new hp) (sr.new hp) (show ∃ a ws, V.ref p = .ref a ∧ LstAt (upd H p (.lst vs)) μ a ws ∧ VRs K (upd H p (.lst vs)) μ ps ws from ⟨p, vs, rfl, ⟨upd_same, sr.free hp⟩, VRs.mono (gr_new hp) ps vs r⟩)
theorem post_cell {c : Cell} {o : HO} {p : Addr} (h : PostG K E (VR K) Q μ H (.ok (.loc st.length) (st ++ [c]))) (sr : SR K μ st H) (hp : H p = none) (hc : CR K (upd H p o) (μ.add p) p c) : Q (.ref p) (upd H p o) :=
  h _ _ _ (gr_alloc hp) (sr.alloc hp hc) (show ∃ a, V.ref p = .ref a ∧ (μ.add p).l[st.length]? = some a from ⟨p, rfl, by rw [← sr.len]; simp [Mu.add]⟩)
theorem post_same {p : PV} (h : PostG K E (VR K) Q μ H (.ok p st)) (sr : SR K μ st H) (r : VR K H μ p v) : Q v H := h μ H v (Gr.refl _ _) sr r
theorem lst_at {ps : List PV} (r : VR K H μ (.lst ps) v) : ∃ a vs, v = .ref a ∧ LstAt H μ a vs ∧ VRs K H μ ps vs := r
theorem frz_at {ps : List PV} (r : VR K H μ (.frz ps) v) : ∃ a vs, v = .ref a ∧ FrzAt K H μ a vs ∧ VRs K H μ ps vs := r
theorem tup_at {ps : List PV} (r : VR K H μ (.tup ps) v) : ∃ a vs, v = .ref a ∧ TupAt K H μ a vs ∧ VRs K H μ ps vs := r
theorem loc_at {n : Nat} (r : VR K H μ (.loc n) v) : ∃ a, v = .ref a ∧ μ.l[n]? = some a := r
def listOf (p : PV) (st : Sto) : Option (List PV) := match p with
  | .lst xs => some xs
  | .loc n => match st[n]? with
    | some (.lst xs) => some xs
    | _ => none
  | _ => none
theorem listOf_at {ps : List PV} (sr : SR K μ st H) (r : VR K H μ x v) (h : listOf x st = some ps) : ∃ a vs, v = .ref a ∧ H a = some (.lst vs) ∧ VRs K H μ ps vs := by
  cases x with
  | lst xs =>
    cases h
    obtain ⟨a, vs, e, l, rs⟩ := lst_at r
    exact ⟨a, vs, e, l.1, rs⟩
  | loc n =>
    obtain ⟨a, e, ha⟩ := loc_at r
    unfold listOf at h
    dsimp only at h
    cases q : st[n]? with
    | none => rw [q] at h; cases h
    | some c =>
      rw [q] at h
      cases c with
      | lst xs =>
        cases h
        obtain ⟨vs, h1, h2⟩ := sr.cell n _ a q ha
        exact ⟨a, vs, e, h1, h2⟩
      | dct kvs => cases h
      | ins C fs => cases h
  | _ => cases h
def seqOf (p : PV) (st : Sto) : Option (List PV) := match p with
  | .lst xs => some xs
  | .frz xs => some xs
  | .tup xs => some xs
  | .loc n => match st[n]? with
    | some (.lst xs) => some xs
    | _ => none
  | _ => none
theorem seqOf_at {ps : List PV} (sr : SR K μ st H) (r : VR K H μ x v) (h : seqOf x st = some ps) : ∃ a vs, v = .ref a ∧ (SqL K H a vs ∨ SqT K H a vs) ∧ VRs K H μ ps vs := by
  cases x with
  | lst xs =>
    cases h
    obtain ⟨a, vs, e, l, rs⟩ := lst_at r
    exact ⟨a, vs, e, .inl l.sq, rs⟩
  | frz xs =>
    cases h
    obtain ⟨a, vs, e, l, rs⟩ := frz_at r
    exact ⟨a, vs, e, .inl l.sq, rs⟩
  | tup xs =>
    cases h
    obtain ⟨a, vs, e, l, rs⟩ := tup_at r
    exact ⟨a, vs, e, .inr l.sq, rs⟩
  | loc n =>
    obtain ⟨a, vs, e, l, rs⟩ := listOf_at sr r (show listOf (.loc n) st = some ps from h)
    exact ⟨a, vs, e, .inl (SqL.of l), rs⟩
  | _ => cases h
theorem VRs.atI {ps : List PV} {vs : List V} {i : Int} {p : PV} (r : VRs K H μ ps vs) (h : L2.atI ps i = some p) : ∃ w, L2.atI vs i = some w ∧ VR K H μ p w := by
  unfold L2.atI at h ⊢
  rw [VRs.length r] at h
  cases q : ixN vs.length i with
  | none => rw [q] at h; cases h
  | some j =>
    rw [q] at h
    exact VRs.get r h
end

def addV (x y : PV) : M PV := match x, y with
  | .int i, .int j => M.ret (.int (i + j))
  | .str a, .str b => if a.length + b.length ≤ SZ then M.ret (.str (a ++ b)) else M.fail
  | .tup a, .tup b => if a.length + b.length ≤ SZ then M.ret (.tup (a ++ b)) else M.fail
  | x, y => fun st => match listOf x st, listOf y st with
    | some a, some b => if a.length + b.length ≤ SZ then .ok (.lst (a ++ b)) st else .bad
    | _, _ => .bad
def rAddM (K : PySem.W.Frag) : R2 := fun x y H Q => (∃ i j, x = .int i ∧ y = .int j ∧ Q (.int (i + j)) H) ∨ (∃ i j, x = .str i ∧ y = .str j ∧ i.length + j.length ≤ sizeLine ∧ Q (.str (i ++ j)) H) ∨ rCatA K x y H Q ∨ rCat x y H Q
theorem op_addM {X : Cx} : OpR X (binaryOp .Add) (rAddM X.K) := op_add.or (op_add_str.or (op_catA.or op_cat))
theorem str_app (a b : List Nat) : (⟨a.toArray⟩ : Str) ++ (⟨b.toArray⟩ : Str) = ⟨(a ++ b).toArray⟩ := by
  show (⟨a.toArray ++ b.toArray⟩ : Str) = ⟨(a ++ b).toArray⟩
  simp
theorem str_len (a : List Nat) : (⟨a.toArray⟩ : Str).length = a.length := by
  show a.toArray.size = a.length
  simp
theorem add_list {K : PySem.W.Frag} {μ : Mu} {st : Sto} {H : Hp} {x y : PV} {u v : V} {E : XK} {Q : VK} (sr : SR K μ st H) (rx : VR K H μ x u) (ry : VR K H μ y v)
    (h : PostG K E (VR K) Q μ H (match listOf x st, listOf y st with
    | some a, some b => if a.length + b.length ≤ SZ then .ok (.lst (a ++ b)) st else .bad
    | _, _ => .bad)) : rCat u v H Q := by
  cases q1 : listOf x st with
  | none => rw [q1] at h; exact h.elim
  | some a =>
    cases q2 : listOf y st with
    | none => rw [q1, q2] at h; exact h.elim
    | some b =>
      rw [q1, q2] at h
      dsimp only at h
      by_cases hz : a.length + b.length ≤ SZ
      · rw [if_pos hz] at h
        obtain ⟨p, vs, rfl, h1, r1⟩ := listOf_at sr rx q1
        obtain ⟨p', vs', rfl, h2, r2⟩ := listOf_at sr ry q2
        exact ⟨p, p', vs, vs', rfl, rfl, h1, h2, by rw [← VRs.length r1, ← VRs.length r2, sz_eq]; exact hz, fun q hq => post_lst sr (VRs.append r1 r2) hq h⟩
      · rw [if_neg hz] at h
        exact h.elim
theorem t_add {K : PySem.W.Frag} : T2 K (rAddM K) addV := by
  intro μ st H x y u v E Q sr rx ry h
  cases x with
  | int i =>
    cases y with
    | int j =>
      cases (show u = V.int _ from rx); cases (show v = V.int _ from ry)
      exact .inl ⟨_, _, rfl, rfl, post_same h sr rfl⟩
    | _ => exact .inr (.inr (.inr (add_list sr rx ry h)))
  | str a =>
    cases y with
    | str b =>
      cases (show u = V.str ⟨a.toArray⟩ from rx); cases (show v = V.str ⟨b.toArray⟩ from ry)
      unfold addV at h
      dsimp only at h
      by_cases hz : a.length + b.length ≤ SZ
      · rw [if_pos hz] at h
        exact .inr (.inl ⟨_, _, rfl, rfl, by rw [str_len, str_len, sz_eq]; exact hz, by rw [str_app]; exact post_same h sr rfl⟩)
      · rw [if_neg hz] at h
        exact h.elim
    | _ => exact .inr (.inr (.inr (add_list sr rx ry h)))
  | tup a =>
    cases y with
    | tup b =>
      obtain ⟨p, vs, rfl, h1, r1⟩ := tup_at rx
      obtain ⟨p', vs', rfl, h2, r2⟩ := tup_at ry
      unfold addV at h
      dsimp only at h
      by_cases hz : a.length + b.length ≤ SZ
      · rw [if_pos hz] at h
        refine .inr (.inr (.inl ⟨p, p', vs, vs', rfl, rfl, h1.sq, h2.sq, by rw [← VRs.length r1, ← VRs.length r2, sz_eq]; exact hz, fun e => ?_, fun _ e => ?_, fun _ _ q hq => post_tup sr (VRs.append r1 r2) hq h⟩))
        · have ea : a = [] := (VRs.nil_iff r1).mp e
          subst ea
          exact post_same h sr ry
        · have eb : b = [] := (VRs.nil_iff r2).mp e
          subst eb
          rw [List.append_nil] at h
          exact post_same h sr rx
      · rw [if_neg hz] at h
        exact h.elim
    | _ => exact .inr (.inr (.inr (add_list sr rx ry h)))
  | _ => exact .inr (.inr (.inr (add_list sr rx ry h)))
def subV (x y : PV) : M PV := match x, y with
  | .int i, .int j => M.ret (.int (i - j))
  | _, _ => M.fail
theorem t_sub {K : PySem.W.Frag} : T2 K (rI0 fun i j => .int (i - j)) subV := by
  intro μ st H x y u v E Q sr rx ry h
  unfold subV at h
  split at h
  · cases (show u = V.int _ from rx); cases (show v = V.int _ from ry)
    exact ⟨_, _, rfl, rfl, post_same h sr rfl⟩
  · exact h.elim
def mulOk (i j : Int) : Bool := decide (-18446744073709551616 < i ∧ i < 18446744073709551616) || decide (-18446744073709551616 < j ∧ j < 18446744073709551616)
def mulV (x y : PV) : M PV := match x, y with
  | .int i, .int j => if mulOk i j = true then M.ret (.int (i * j)) else M.fail
  | .tup a, .int k => if a ≠ [] ∧ -1000000 ≤ k ∧ k ≤ 1000 ∧ a.length ≤ 1000 then M.ret (.tup (List.replicate k.toNat a).flatten) else M.fail
  | _, _ => M.fail
theorem VRs.rep {K : PySem.W.Frag} {H : Hp} {μ : Mu} {ps : List PV} {vs : List V} (r : VRs K H μ ps vs) : ∀ k : Nat, VRs K H μ (List.replicate k ps).flatten (List.replicate k vs).flatten
  | 0 => rfl
  | k + 1 => by
    rw [List.replicate_succ, List.replicate_succ, List.flatten_cons, List.flatten_cons]
    exact VRs.append r (VRs.rep r k)
theorem t_mul {K : PySem.W.Frag} : T2 K (fun x y H Q => rI CMul (fun i j => .int (i * j)) x y H Q ∨ (rRepT K x y H Q ∨ rRepL K x y H Q)) mulV := by
  intro μ st H x y u v E Q sr rx ry h
  unfold mulV at h
  split at h
  · rename_i i j
    cases (show u = V.int i from rx); cases (show v = V.int j from ry)
    by_cases hz : mulOk i j = true
    · rw [if_pos hz] at h
      refine .inl ⟨_, _, rfl, rfl, ?_, post_same h sr rfl⟩
      unfold mulOk at hz
      rw [Bool.or_eq_true, decide_eq_true_eq, decide_eq_true_eq] at hz
      exact hz
    · rw [if_neg hz] at h
      exact h.elim
  · rename_i a k
    obtain ⟨p, vs, rfl, h1, r1⟩ := tup_at rx
    cases (show v = V.int k from ry)
    by_cases hz : a ≠ [] ∧ -1000000 ≤ k ∧ k ≤ 1000 ∧ a.length ≤ 1000
    · rw [if_pos hz] at h
      have hn : vs ≠ [] := fun e => hz.1 ((VRs.nil_iff r1).mp e)
      by_cases h2 : 2 ≤ k
      · exact .inr (.inl ⟨p, k, vs, rfl, rfl, h1.sq, hn, h2, hz.2.2.1, by rw [← VRs.length r1]; exact hz.2.2.2, fun q hq => post_tup sr (VRs.rep r1 _) hq h⟩)
      · by_cases h3 : k = 1
        · subst h3
          have e : (List.replicate (1 : Int).toNat a).flatten = a := by simp
          rw [e] at h
          exact .inr (.inr ⟨p, 1, vs, rfl, rfl, h1.sq, .inl ⟨rfl, post_same h sr rx⟩⟩)
        · have e : (List.replicate k.toNat a).flatten = [] := by rw [show k.toNat = 0 by omega]; rfl
          rw [e] at h
          exact .inr (.inr ⟨p, k, vs, rfl, rfl, h1.sq, .inr ⟨hn, by omega, hz.2.1, fun q hq => post_tup (ps := []) sr (show VRs K H μ [] [] from rfl) hq h⟩⟩)
    · rw [if_neg hz] at h
      exact h.elim
  · exact h.elim
def fdivV (x y : PV) : M PV := match x, y with
  | .int i, .int j => if (j ≠ 0 ∧ j.natAbs < 1073741824) ∨ (0 < j ∧ j.natAbs.log2 < 9000) then M.ret (.int (i.fdiv j)) else M.fail
  | _, _ => M.fail
theorem t_fdiv {K : PySem.W.Frag} : T2 K (fun x y H Q => rI CDivN (fun i j => .int (i.fdiv j)) x y H Q ∨ rI CDivW (fun i j => .int (i / j)) x y H Q) fdivV := by
  intro μ st H x y u v E Q sr rx ry h
  unfold fdivV at h
  split at h
  · rename_i i j
    cases (show u = V.int i from rx); cases (show v = V.int j from ry)
    by_cases hz : (j ≠ 0 ∧ j.natAbs < 1073741824) ∨ (0 < j ∧ j.natAbs.log2 < 9000)
    · rw [if_pos hz] at h
      rcases hz with hz | hz
      · exact .inl ⟨_, _, rfl, rfl, hz, post_same h sr rfl⟩
      · refine .inr ⟨_, _, rfl, rfl, hz, ?_⟩
        have q := post_same (v := V.int (i.fdiv j)) h sr rfl
        rw [Int.fdiv_eq_ediv_of_nonneg i (by omega)] at q
        exact q
    · rw [if_neg hz] at h
      exact h.elim
  · exact h.elim
def modV (x y : PV) : M PV := match x, y with
  | .int i, .int j => if j ≠ 0 then M.ret (.int (i.fmod j)) else M.fail
  | _, _ => M.fail
theorem t_mod {K : PySem.W.Frag} : T2 K (rI (fun _ j => j ≠ 0) fun i j => .int (i.fmod j)) modV := by
  intro μ st H x y u v E Q sr rx ry h
  unfold modV at h
  split at h
  · rename_i i j
    cases (show u = V.int i from rx); cases (show v = V.int j from ry)
    by_cases hz : j ≠ 0
    · rw [if_pos hz] at h
      exact ⟨_, _, rfl, rfl, hz, post_same h sr rfl⟩
    · rw [if_neg hz] at h
      exact h.elim
  · exact h.elim
def powV (x y : PV) : M PV := match x, y with
  | .int i, .int j => if 0 ≤ j ∧ j ≤ 1000000 ∧ i.natAbs < 18446744073709551616 then M.ret (.int (i ^ j.toNat)) else M.fail
  | _, _ => M.fail
theorem t_pow {K : PySem.W.Frag} : T2 K (rI CPow fun i j => .int (i ^ j.toNat)) powV := by
  intro μ st H x y u v E Q sr rx ry h
  unfold powV at h
  split at h
  · rename_i i j
    cases (show u = V.int i from rx); cases (show v = V.int j from ry)
    by_cases hz : 0 ≤ j ∧ j ≤ 1000000 ∧ i.natAbs < 18446744073709551616
    · rw [if_pos hz] at h
      exact ⟨_, _, rfl, rfl, hz, post_same h sr rfl⟩
    · rw [if_neg hz] at h
      exact h.elim
  · exact h.elim
def negV (x : PV) : M PV := match x with
  | .int i => M.ret (.int (-i))
  | _ => M.fail
theorem t_neg {K : PySem.W.Frag} : T1 K (rU fun i => .int (-i)) negV := by
  intro μ st H x u E Q sr rx h
  unfold negV at h
  split at h
  · cases (show u = V.int _ from rx)
    exact ⟨_, rfl, post_same h sr rfl⟩
  · exact h.elim
section
variable {X : Cx} {W : WX} {a b : Expr} {pos : Pos} {ma mb : Rho → M PV}
theorem me_add (ha : ME X W a ma) (hb : ME X W b mb) : ME X W (.BinOp a .Add b pos) (eBin addV ma mb) := me_bin op_addM t_add ha hb
theorem me_sub (ha : ME X W a ma) (hb : ME X W b mb) : ME X W (.BinOp a .Sub b pos) (eBin subV ma mb) := me_bin op_sub t_sub ha hb
theorem me_mul (ha : ME X W a ma) (hb : ME X W b mb) : ME X W (.BinOp a .Mult b pos) (eBin mulV ma mb) := me_bin (op_mul.or (op_repT.or op_repL)) t_mul ha hb
theorem me_fdiv (ha : ME X W a ma) (hb : ME X W b mb) : ME X W (.BinOp a .FloorDiv b pos) (eBin fdivV ma mb) := me_bin (op_fdivN.or op_fdivW) t_fdiv ha hb
theorem me_mod (ha : ME X W a ma) (hb : ME X W b mb) : ME X W (.BinOp a .Mod b pos) (eBin modV ma mb) := me_bin op_modN t_mod ha hb
theorem me_pow (ha : ME X W a ma) (hb : ME X W b mb) : ME X W (.BinOp a .Pow b pos) (eBin powV ma mb) := me_bin op_pow t_pow ha hb
theorem me_neg (ha : ME X W a ma) : ME X W (.UnaryOp .USub a pos) (eUn negV ma) := me_un un_neg t_neg ha
end
def ltV (p : Int → Int → Bool) (x y : PV) : M PV := match x, y with
  | .int i, .int j => M.ret (.bl (p i j))
  | _, _ => M.fail
theorem t_cmpI {K : PySem.W.Frag} (p : Int → Int → Bool) : T2 K (rI0 fun i j => .bl (p i j)) (ltV p) := by
  intro μ st H x y u v E Q sr rx ry h
  unfold ltV at h
  split at h
  · cases (show u = V.int _ from rx); cases (show v = V.int _ from ry)
    exact ⟨_, _, rfl, rfl, post_same h sr rfl⟩
  · exact h.elim
abbrev ltI : PV → PV → M PV := ltV fun i j => decide (i < j)
abbrev leI : PV → PV → M PV := ltV fun i j => decide (i ≤ j)
abbrev gtI : PV → PV → M PV := ltV fun i j => decide (j < i)
abbrev geI : PV → PV → M PV := ltV fun i j => decide (j ≤ i)
mutual
def eqb : PV → PV → Bool
  | .non, .non => true
  | .bl a, .bl b => a == b
  | .bl a, .int j => (if a then 1 else 0) == j
  | .int i, .bl b => i == (if b then 1 else 0)
  | .int i, .int j => i == j
  | .str x, .str y => x == y
  | .lst xs, .lst ys => eqbs xs ys
  | .tup xs, .tup ys => eqbs xs ys
  | _, _ => false
def eqbs : List PV → List PV → Bool
  | [], [] => true
  | x :: xs, y :: ys => eqb x y && eqbs xs ys
  | _, _ => false
end
mutual
def toD : PV → Option PyData
  | .non => some .none
  | .bl b => some (.bool b)
  | .int i => some (.int i)
  | .str x => some (.str ⟨x.toArray⟩)
  | .lst xs => (toDs xs).map .list
  | .tup xs => (toDs xs).map .tuple
  | _ => none
def toDs : List PV → Option (List PyData)
  | [] => some []
  | x :: xs => match toD x, toDs xs with
    | some d, some ds => some (d :: ds)
    | _, _ => none
end
end MP

set_option maxRecDepth 100000
set_option maxHeartbeats 1000000
namespace MP
open PySem L2
mutual
theorem eqb_eqv : ∀ (x y : PV) (d e : PyData), toD x = some d → toD y = some e → PyData.eqv d e = eqb x y
  | .non, y, d, e, h1, h2 => by
    cases h1
    cases y <;> simp [toD] at h2 <;> (try (obtain ⟨z, _, rfl⟩ := h2)) <;> (try subst h2) <;> simp [PyData.eqv, eqb]
  | .bl a, y, d, e, h1, h2 => by
    cases h1
    cases y <;> simp [toD] at h2 <;> (try (obtain ⟨z, _, rfl⟩ := h2)) <;> (try subst h2) <;> simp [PyData.eqv, eqb]
  | .int a, y, d, e, h1, h2 => by
    cases h1
    cases y <;> simp [toD] at h2 <;> (try (obtain ⟨z, _, rfl⟩ := h2)) <;> (try subst h2) <;> simp [PyData.eqv, eqb]
  | .str a, y, d, e, h1, h2 => by
    cases h1
    cases y <;> simp [toD] at h2 <;> (try (obtain ⟨z, _, rfl⟩ := h2)) <;> (try subst h2) <;> simp [PyData.eqv, eqb]
    rw [Bool.eq_iff_iff]
    simp
  | .tup xs, y, d, e, h1, h2 => by
    simp [toD] at h1
    obtain ⟨ds, q, rfl⟩ := h1
    cases y <;> simp [toD] at h2 <;> (try (obtain ⟨z, qz, rfl⟩ := h2)) <;> (try subst h2) <;> simp [PyData.eqv, eqb]
    exact eqbs_eqv xs _ ds z q qz
  | .lst xs, y, d, e, h1, h2 => by
    simp [toD] at h1
    obtain ⟨ds, q, rfl⟩ := h1
    cases y <;> simp [toD] at h2 <;> (try (obtain ⟨z, qz, rfl⟩ := h2)) <;> (try subst h2) <;> simp [PyData.eqv, eqb]
    exact eqbs_eqv xs _ ds z q qz
  | .ty _, _, _, _, h1, _ => by cases h1
  | .gl _, _, _, _, h1, _ => by cases h1
  | .frz _, _, _, _, h1, _ => by cases h1
  | .loc _, _, _, _, h1, _ => by cases h1
theorem eqbs_eqv : ∀ (xs ys : List PV) (ds es : List PyData), toDs xs = some ds → toDs ys = some es → PyData.eqvAll ds es = eqbs xs ys
  | [], ys, ds, es, h1, h2 => by
    cases h1
    cases ys with
    | nil => cases h2; simp [PyData.eqvAll, eqbs]
    | cons y ys =>
      unfold toDs at h2
      cases q1 : toD y with
      | none => rw [q1] at h2; cases h2
      | some d =>
        cases q2 : toDs ys with
        | none => rw [q1, q2] at h2; cases h2
        | some r => rw [q1, q2] at h2; cases h2; simp [PyData.eqvAll, eqbs]
  | x :: xs, ys, ds, es, h1, h2 => by
    unfold toDs at h1
    cases p1 : toD x with
    | none => rw [p1] at h1; cases h1
    | some d =>
      cases p2 : toDs xs with
      | none => rw [p1, p2] at h1; cases h1
      | some r =>
        rw [p1, p2] at h1
        cases h1
        cases ys with
        | nil => cases h2; simp [PyData.eqvAll, eqbs]
        | cons y ys =>
          unfold toDs at h2
          cases q1 : toD y with
          | none => rw [q1] at h2; cases h2
          | some d' =>
            cases q2 : toDs ys with
            | none => rw [q1, q2] at h2; cases h2
            | some r' =>
              rw [q1, q2] at h2
              cases h2
              simp [PyData.eqvAll, eqbs, eqb_eqv x y d d' p1 q1, eqbs_eqv xs ys r r' p2 q2]
end
section
variable {K : PySem.W.Frag} {H : Hp} {μ : Mu}
mutual
theorem dp_of : ∀ (x : PV) (v : V) (d : PyData), VR K H μ x v → toD x = some d → Dp K H v d
  | .non, v, d, r, h => by cases h; cases (show v = .non from r); exact .non
  | .bl b, v, d, r, h => by cases h; cases (show v = .bl b from r); exact .bl b
  | .int b, v, d, r, h => by cases h; cases (show v = .int b from r); exact .int b
  | .str b, v, d, r, h => by cases h; cases (show v = .str ⟨b.toArray⟩ from r); exact .str _
  | .tup xs, v, d, r, h => by
    obtain ⟨a, vs, rfl, t, rs⟩ := tup_at r
    simp [toD] at h
    obtain ⟨ds, q, rfl⟩ := h
    exact .tup t.sq (dps_of xs vs ds rs q)
  | .lst xs, v, d, r, h => by
    obtain ⟨a, vs, rfl, t, rs⟩ := lst_at r
    simp [toD] at h
    obtain ⟨ds, q, rfl⟩ := h
    exact .lst t.sq (dps_of xs vs ds rs q)
  | .ty _, _, _, _, h => by cases h
  | .gl _, _, _, _, h => by cases h
  | .frz _, _, _, _, h => by cases h
  | .loc _, _, _, _, h => by cases h
theorem dps_of : ∀ (xs : List PV) (vs : List V) (ds : List PyData), VRs K H μ xs vs → toDs xs = some ds → DpAll K H vs ds
  | [], vs, ds, r, h => by cases h; cases (show vs = [] from r); exact .nil
  | x :: xs, vs, ds, r, h => by
    obtain ⟨v, t, rfl, r1, r2⟩ := (show ∃ v t, vs = v :: t ∧ VR K H μ x v ∧ VRs K H μ xs t from r)
    unfold toDs at h
    cases p1 : toD x with
    | none => rw [p1] at h; cases h
    | some d =>
      cases p2 : toDs xs with
      | none => rw [p1, p2] at h; cases h
      | some ds' =>
        rw [p1, p2] at h
        cases h
        exact .cons (dp_of x v d r1 p1) (dps_of xs t ds' r2 p2)
end
end
mutual
def layP : PV → Bool
  | .non => true
  | .bl _ => true
  | .int _ => true
  | .str x => x.all fun c => decide (c < 1114112)
  | .tup xs => layPs xs
  | .lst xs => layPs xs
  | _ => false
def layPs : List PV → Bool
  | [] => true
  | x :: xs => layP x && layPs xs
end
mutual
def depP : PV → Nat
  | .tup xs => depPs xs + 1
  | .lst xs => depPs xs + 1
  | _ => 0
def depPs : List PV → Nat
  | [] => 0
  | x :: xs => max (depP x) (depPs xs)
end
mutual
theorem lay_toD : ∀ (x : PV), layP x = true → ∃ d, toD x = some d ∧ d.canLay0 = true ∧ d.depth = depP x
  | .non, _ => ⟨_, rfl, by simp [PyData.canLay0], by simp [PyData.depth, depP]⟩
  | .bl b, _ => ⟨_, rfl, by simp [PyData.canLay0], by simp [PyData.depth, depP]⟩
  | .int b, _ => ⟨_, rfl, by simp [PyData.canLay0], by simp [PyData.depth, depP]⟩
  | .str x, h => ⟨_, rfl, by
      simp only [PyData.canLay0, PyData.strOk]
      simp [layP] at h
      simpa using h, by simp [PyData.depth, depP]⟩
  | .tup xs, h => by
    obtain ⟨ds, e, c, p⟩ := lays_toD xs (by simpa [layP] using h)
    exact ⟨.tuple ds, by simp [toD, e], by simpa [PyData.canLay0] using c, by simp [PyData.depth, depP, p]⟩
  | .lst xs, h => by
    obtain ⟨ds, e, c, p⟩ := lays_toD xs (by simpa [layP] using h)
    exact ⟨.list ds, by simp [toD, e], by simpa [PyData.canLay0] using c, by simp [PyData.depth, depP, p]⟩
  | .ty _, h => by simp [layP] at h
  | .gl _, h => by simp [layP] at h
  | .frz _, h => by simp [layP] at h
  | .loc _, h => by simp [layP] at h
theorem lays_toD : ∀ (xs : List PV), layPs xs = true → ∃ ds, toDs xs = some ds ∧ PyData.canLayAll0 ds = true ∧ PyData.depthAll ds = depPs xs
  | [], _ => ⟨[], rfl, by simp [PyData.canLayAll0], by simp [PyData.depthAll, depPs]⟩
  | x :: xs, h => by
    have h' : layP x = true ∧ layPs xs = true := by simpa [layPs] using h
    obtain ⟨d, e, c, p⟩ := lay_toD x h'.1
    obtain ⟨ds, e2, c2, p2⟩ := lays_toD xs h'.2
    exact ⟨d :: ds, by simp [toDs, e, e2], by simp [PyData.canLayAll0, c, c2], by simp [PyData.depthAll, depPs, p, p2]⟩
end
def shal (x : PV) (st : Sto) : PV := match x with
  | .frz xs => .lst xs
  | .loc n => match st[n]? with
    | some (.lst xs) => .lst xs
    | _ => .loc n
  | _ => x
def scalP : PV → PV → Bool
  | .non, .non => true | .non, .int _ => true | .int _, .non => true | .non, .bl _ => true | .bl _, .non => true | .non, .str _ => true | .str _, .non => true
  | .int _, .int _ => true | .bl _, .bl _ => true | .str _, .str _ => true
  | .int _, .str _ => true | .str _, .int _ => true | .bl _, .str _ => true | .str _, .bl _ => true
  | _, _ => false
def cmpOk (x y : PV) (st : Sto) : Bool := scalP x y || (layP (shal x st) && layP (shal y st) && decide (depP (shal x st) ≤ 64) && decide (depP (shal y st) ≤ 64))
def eqM (x y : PV) : M PV := fun st => if cmpOk x y st = true then .ok (.bl (eqb (shal x st) (shal y st))) st else .bad
def neM (x y : PV) : M PV := fun st => if cmpOk x y st = true then .ok (.bl (!eqb (shal x st) (shal y st))) st else .bad
theorem dp_shal {K : PySem.W.Frag} {H : Hp} {μ : Mu} {st : Sto} {x : PV} {v : V} {d : PyData} (sr : SR K μ st H) (r : VR K H μ x v) (h : toD (shal x st) = some d) : Dp K H v d := by
  cases x with
  | frz xs =>
    obtain ⟨a, vs, rfl, t, rs⟩ := frz_at r
    have h' : toD (.lst xs) = some d := h
    simp [toD] at h'
    obtain ⟨ds, q, rfl⟩ := h'
    exact .lst t.sq (dps_of xs vs ds rs q)
  | loc n =>
    obtain ⟨a, rfl, ha⟩ := loc_at r
    unfold shal at h
    dsimp only at h
    cases q : st[n]? with
    | none => rw [q] at h; cases h
    | some c =>
      rw [q] at h
      cases c with
      | lst xs =>
        obtain ⟨vs, h1, h2⟩ := sr.cell n _ a q ha
        have h' : toD (.lst xs) = some d := h
        simp [toD] at h'
        obtain ⟨ds, q, rfl⟩ := h'
        exact .lst (SqL.of h1) (dps_of xs vs ds h2 q)
      | dct kvs => cases h
      | ins C fs => cases h
  | non => exact dp_of _ _ _ r h
  | bl b => exact dp_of _ _ _ r h
  | int b => exact dp_of _ _ _ r h
  | str b => exact dp_of _ _ _ r h
  | tup b => exact dp_of _ _ _ r h
  | lst b => exact dp_of _ _ _ r h
  | ty b => cases h
  | gl b => cases h
theorem scal_eq {K : PySem.W.Frag} {H : Hp} {μ : Mu} {st : Sto} {x y : PV} {u v : V} (rx : VR K H μ x u) (ry : VR K H μ y v) (h : scalP x y = true) : scal u v = true ∧ decide (u = v) = eqb (shal x st) (shal y st) := by
  cases x <;> cases y <;> simp [scalP] at h <;> cases rx <;> cases ry <;> simp [scal, eqb, shal] <;> (rw [Bool.eq_iff_iff]; simp)
def rEqM (K : PySem.W.Frag) (n : Bool) : R2 := fun x y H Q => (scal x y = true ∧ Q (.bl (if n then !decide (x = y) else decide (x = y))) H) ∨ ∃ d e, Dp K H x d ∧ Dp K H y e ∧ SeqAt.shaped d = true ∧ SeqAt.shaped e = true ∧ Q (.bl (if n then !PyData.eqv d e else PyData.eqv d e)) H
theorem op_eqM {X : Cx} (hu : X.A.units + 64 < cLine) : OpR X (compareOp .Eq) (rEqM X.K false) := op_eq.or (op_eqD hu)
theorem op_neM {X : Cx} (hu : X.A.units + 64 < cLine) : OpR X (compareOp .NotEq) (rEqM X.K true) := op_ne.or (op_neD hu)
theorem t_eqn {K : PySem.W.Frag} {n : Bool} : T2 K (rEqM K n) (fun x y st => if cmpOk x y st = true then .ok (.bl (if n then !eqb (shal x st) (shal y st) else eqb (shal x st) (shal y st))) st else .bad) := by
  intro μ st H x y u v E Q sr rx ry h
  dsimp only at h
  by_cases hc : cmpOk x y st = true
  · rw [if_pos hc] at h
    have q := post_same (v := .bl (if n then !eqb (shal x st) (shal y st) else eqb (shal x st) (shal y st))) h sr rfl
    unfold cmpOk at hc
    rw [Bool.or_eq_true] at hc
    rcases hc with hc | hc
    · obtain ⟨h1, h2⟩ := scal_eq (st := st) rx ry hc
      exact .inl ⟨h1, by rw [h2]; exact q⟩
    · simp only [Bool.and_eq_true, decide_eq_true_eq] at hc
      obtain ⟨⟨⟨l1, l2⟩, d1⟩, d2⟩ := hc
      obtain ⟨d, e1, c1, p1⟩ := lay_toD _ l1
      obtain ⟨e, e2, c2, p2⟩ := lay_toD _ l2
      refine .inr ⟨d, e, dp_shal sr rx e1, dp_shal sr ry e2, ?_, ?_, ?_⟩
      · unfold SeqAt.shaped
        rw [c1, p1]
        simpa using d1
      · unfold SeqAt.shaped
        rw [c2, p2]
        simpa using d2
      · rw [eqb_eqv _ _ d e e1 e2]
        exact q
  · rw [if_neg hc] at h
    exact h.elim
theorem t_eq {K : PySem.W.Frag} : T2 K (rEqM K false) eqM := t_eqn (n := false)
theorem t_ne {K : PySem.W.Frag} : T2 K (rEqM K true) neM := t_eqn (n := true)
def nonP : PV → Bool
  | .non => true
  | _ => false
def isN (x y : PV) : M PV := match y with
  | .non => M.ret (.bl (nonP x))
  | _ => M.fail
def notN (x y : PV) : M PV := match y with
  | .non => M.ret (.bl (!nonP x))
  | _ => M.fail
theorem non_dec {K : PySem.W.Frag} {H : Hp} {μ : Mu} {x : PV} {v : V} (r : VR K H μ x v) : decide (v = .non) = nonP x := by
  cases x with
  | non => cases (show v = .non from r); rfl
  | bl b => cases (show v = .bl b from r); rfl
  | int b => cases (show v = .int b from r); rfl
  | str b => cases (show v = .str ⟨b.toArray⟩ from r); rfl
  | ty b => cases (show v = .ty b from r); rfl
  | gl b => cases (show v = .ref b from r); rfl
  | tup b => obtain ⟨a, vs, rfl, _⟩ := tup_at r; rfl
  | lst b => obtain ⟨a, vs, rfl, _⟩ := lst_at r; rfl
  | frz b => obtain ⟨a, vs, rfl, _⟩ := frz_at r; rfl
  | loc b => obtain ⟨a, rfl, _⟩ := loc_at r; rfl
theorem t_isN {K : PySem.W.Frag} : T2 K (fun x y H Q => y = .non ∧ Q (.bl (decide (x = .non))) H) isN := by
  intro μ st H x y u v E Q sr rx ry h
  unfold isN at h
  cases y with
  | non => exact ⟨ry, by rw [non_dec rx]; exact post_same h sr rfl⟩
  | _ => exact h.elim
theorem t_notN {K : PySem.W.Frag} : T2 K (fun x y H Q => y = .non ∧ Q (.bl (!decide (x = .non))) H) notN := by
  intro μ st H x y u v E Q sr rx ry h
  unfold notN at h
  cases y with
  | non =>
    refine ⟨ry, ?_⟩
    rw [non_dec rx]
    exact post_same h sr rfl
  | _ => exact h.elim
def lookP : List (PV × PV) → PV → Option PV
  | [], _ => none
  | p :: r, k => if p.1 = k then some p.2 else lookP r k
def putP (kvs : List (PV × PV)) (k v : PV) : List (PV × PV) :=
  if (kvs.any fun kv => decide (kv.1 = k)) = true then kvs.map (fun kv => if kv.1 = k then (kv.1, v) else kv) else kvs ++ [(k, v)]
section
variable {K : PySem.W.Frag} {H : Hp} {μ : Mu}
theorem key_dec {p k : PV} {p' k' : Key} (h : keyOf p = some p') (hk : keyOf k = some k') : (p' = k') = (p = k) := by
  refine propext ⟨fun e => ?_, fun e => ?_⟩
  · rw [← e] at hk
    exact keyOf_inj h hk
  · rw [e, hk] at h
    exact (Option.some.inj h).symm
theorem KRs.look {k : PV} {k' : Key} (hk : keyOf k = some k') : ∀ {kvs : List (PV × PV)} {kv : List (Key × V)}, KRs K H μ kvs kv → (∀ p, lookP kvs k = some p → ∃ v, valV kv k' = some v ∧ VR K H μ p v) ∧ (lookP kvs k = none → valV kv k' = none)
  | [], kv, h => by
    have e : kv = [] := h
    subst e
    exact ⟨fun p q => (nomatch q), fun _ => rfl⟩
  | p :: r, kv, h => by
    obtain ⟨k1, v, t, rfl, e1, rv, rt⟩ := h
    unfold lookP
    by_cases e : p.1 = k
    · have e' : k1 = k' := by rw [key_dec e1 hk]; exact e
      rw [if_pos e, valV_pos (p := (k1, v)) e']
      exact ⟨fun q hq => by cases hq; exact ⟨v, rfl, rv⟩, fun hq => (nomatch hq)⟩
    · have e' : ¬ k1 = k' := by rw [key_dec e1 hk]; exact e
      rw [if_neg e, valV_neg (p := (k1, v)) e']
      exact KRs.look hk rt
theorem KRs.any {k : PV} {k' : Key} (hk : keyOf k = some k') : ∀ {kvs : List (PV × PV)} {kv : List (Key × V)}, KRs K H μ kvs kv → (kv.any fun x => decide (x.1 = k')) = (kvs.any fun x => decide (x.1 = k))
  | [], kv, h => by have e : kv = [] := h; subst e; rfl
  | p :: r, kv, h => by
    obtain ⟨k1, v, t, rfl, e1, rv, rt⟩ := h
    rw [List.any_cons, List.any_cons, KRs.any hk rt]
    simp only [key_dec e1 hk]
theorem KRs.length : ∀ {kvs : List (PV × PV)} {kv : List (Key × V)}, KRs K H μ kvs kv → kvs.length = kv.length
  | [], kv, h => by have e : kv = [] := h; subst e; rfl
  | p :: r, kv, h => by
    obtain ⟨k1, v, t, rfl, e1, rv, rt⟩ := h
    rw [List.length_cons, List.length_cons, KRs.length rt]
theorem KRs.mapPut {k p : PV} {k' : Key} {v : V} (hk : keyOf k = some k') (r : VR K H μ p v) : ∀ {kvs : List (PV × PV)} {kv : List (Key × V)}, KRs K H μ kvs kv →
    KRs K H μ (kvs.map fun x => if x.1 = k then (x.1, p) else x) (kv.map fun x => if x.1 = k' then (x.1, v) else x)
  | [], kv, h => by have e : kv = [] := h; subst e; exact rfl
  | q :: t, kv, h => by
    obtain ⟨k1, w, t', rfl, e1, rv, rt⟩ := h
    rw [List.map_cons, List.map_cons]
    simp only [key_dec e1 hk]
    by_cases e : q.1 = k
    · rw [if_pos e, if_pos e]
      exact ⟨k1, v, _, rfl, e1, r, KRs.mapPut hk r rt⟩
    · rw [if_neg e, if_neg e]
      exact ⟨k1, w, _, rfl, e1, rv, KRs.mapPut hk r rt⟩
theorem KRs.snoc {k p : PV} {k' : Key} {v : V} (hk : keyOf k = some k') (r : VR K H μ p v) : ∀ {kvs : List (PV × PV)} {kv : List (Key × V)}, KRs K H μ kvs kv → KRs K H μ (kvs ++ [(k, p)]) (kv ++ [(k', v)])
  | [], kv, h => by have e : kv = [] := h; subst e; exact ⟨k', v, [], rfl, hk, r, rfl⟩
  | q :: t, kv, h => by
    obtain ⟨k1, w, t', rfl, e1, rv, rt⟩ := h
    exact ⟨k1, w, _, rfl, e1, rv, KRs.snoc hk r rt⟩
theorem KRs.put {k p : PV} {k' : Key} {v : V} {kvs : List (PV × PV)} {kv : List (Key × V)} (h : KRs K H μ kvs kv) (hk : keyOf k = some k') (r : VR K H μ p v) : KRs K H μ (putP kvs k p) (putK kv k' v) := by
  unfold putP putK
  rw [KRs.any hk h]
  split
  · exact KRs.mapPut hk r h
  · exact KRs.snoc hk r h
theorem keyOf_kV {k : PV} {k' : Key} {v : V} (hk : keyOf k = some k') (r : VR K H μ k v) : v = kV k' := by
  cases k with
  | int i => cases hk; exact r
  | str x => cases hk; exact r
  | _ => cases hk
end
def flatP : PV → Bool
  | .non => true
  | .bl _ => true
  | .int _ => true
  | .str _ => true
  | _ => false
def ng (n b : Bool) : Bool := if n then !b else b
def inM (n : Bool) (x y : PV) : M PV := fun st => match y with
  | .str z => match x with
    | .str [c] => .ok (.bl (ng n (decide (c ∈ z)))) st
    | _ => .bad
  | y => match seqOf y st with
    | some xs => if (flatP x && xs.all flatP) = true then .ok (.bl (ng n (xs.any fun p => eqb p x))) st else .bad
    | none => match y with
      | .loc m => match st[m]? with
        | some (.dct kvs) => if (keyOf x).isSome = true then .ok (.bl (ng n (lookP kvs x).isSome)) st else .bad
        | _ => .bad
      | _ => .bad
theorem flat_eq {K : PySem.W.Frag} {H : Hp} {μ : Mu} {x y : PV} {u v : V} (rx : VR K H μ x u) (ry : VR K H μ y v) (fx : flatP x = true) (fy : flatP y = true) : flatV u = true ∧ flatV v = true ∧ L2.eqV u v = eqb x y := by
  cases x <;> simp [flatP] at fx <;> cases y <;> simp [flatP] at fy <;> cases rx <;> cases ry <;> simp [flatV, L2.eqV, eqb]
  rw [Bool.eq_iff_iff]
  simp
theorem flat_any {K : PySem.W.Frag} {H : Hp} {μ : Mu} {x : PV} {u : V} (rx : VR K H μ x u) (fx : flatP x = true) : ∀ {ps : List PV} {vs : List V}, VRs K H μ ps vs → ps.all flatP = true → vs.all flatV = true ∧ L2.inV u vs = ps.any fun p => eqb p x
  | [], vs, h, _ => by have e : vs = [] := h; subst e; exact ⟨rfl, rfl⟩
  | p :: ps, vs, h, hf => by
    obtain ⟨v, t, rfl, r1, r2⟩ := (show ∃ v t, vs = v :: t ∧ VR K H μ p v ∧ VRs K H μ ps t from h)
    rw [List.all_cons, Bool.and_eq_true] at hf
    obtain ⟨f1, f2, f3⟩ := flat_eq r1 rx hf.1 fx
    obtain ⟨g1, g2⟩ := flat_any rx fx r2 hf.2
    refine ⟨by rw [List.all_cons, f1, g1]; rfl, ?_⟩
    show (L2.eqV v u || L2.inV u t) = (eqb p x || ps.any fun q => eqb q x)
    rw [f3, g2]
def rInM (K : PySem.W.Frag) (n : Bool) : R2 := fun x y H Q => (∃ (c : Nat) (z : Str), x = .str ⟨#[c]⟩ ∧ y = .str z ∧ Q (.bl (ng n (decide (c ∈ z.cps.toList)))) H) ∨ rIn K n x y H Q ∨ ∃ a o, y = .ref a ∧ DGet H a x o ∧ Q (.bl (ng n o.isSome)) H
theorem op_inD {X : Cx} (hu : X.A.units + 1 < cLine) : OpR X (compareOp .In) (fun x y H Q => ∃ a o, y = .ref a ∧ DGet H a x o ∧ Q (.bl (ng false o.isSome)) H) := by
  intro pins s σ H x y v u Q I rx ry h
  obtain ⟨a, o, rfl, g, q⟩ := h
  cases (show u = Value.ref a from ry)
  exact d_in hu I g rx fun s3 I3 => ⟨.bl o.isSome, H, I3, rfl, q⟩
theorem op_notInD {X : Cx} (hu : X.A.units + 1 < cLine) : OpR X (compareOp .NotIn) (fun x y H Q => ∃ a o, y = .ref a ∧ DGet H a x o ∧ Q (.bl (ng true o.isSome)) H) := by
  intro pins s σ H x y v u Q I rx ry h
  obtain ⟨a, o, rfl, g, q⟩ := h
  cases (show u = Value.ref a from ry)
  exact d_notIn hu I g rx fun s3 I3 => ⟨.bl (!o.isSome), H, I3, rfl, q⟩
theorem op_inM {X : Cx} (hu : X.A.units + 1 < cLine) : OpR X (compareOp .In) (rInM X.K false) := op_in_sign.or (op_in_seq.or (op_inD hu))
theorem op_notInM {X : Cx} (hu : X.A.units + 1 < cLine) : OpR X (compareOp .NotIn) (rInM X.K true) := op_notIn_sign.or (op_notIn_seq.or (op_notInD hu))
theorem t_in {K : PySem.W.Frag} {n : Bool} : T2 K (rInM K n) (inM n) := by
  intro μ st H x y u v E Q sr rx ry h
  have seqC : ∀ xs, seqOf y st = some xs → PostG K E (VR K) Q μ H (if (flatP x && xs.all flatP) = true then .ok (.bl (ng n (xs.any fun p => eqb p x))) st else .bad) → rInM K n u v H Q := by
    intro xs hs h
    by_cases hf : (flatP x && xs.all flatP) = true
    · rw [if_pos hf] at h
      rw [Bool.and_eq_true] at hf
      obtain ⟨a, vs, rfl, hq, rs⟩ := seqOf_at sr ry hs
      obtain ⟨g1, g2⟩ := flat_any rx hf.1 rs hf.2
      obtain ⟨f1, _, _⟩ := flat_eq rx rx hf.1 hf.1
      refine .inr (.inl ⟨a, vs, rfl, hq, f1, g1, ?_⟩)
      rw [g2]
      exact post_same h sr rfl
    · rw [if_neg hf] at h
      exact h.elim
  cases y with
  | str z =>
    cases (show v = V.str ⟨z.toArray⟩ from ry)
    cases x with
    | str c =>
      cases c with
      | nil => exact h.elim
      | cons c r =>
        cases r with
        | nil =>
          cases (show u = V.str ⟨[c].toArray⟩ from rx)
          refine .inl ⟨c, ⟨z.toArray⟩, rfl, rfl, ?_⟩
          have q := post_same (v := V.bl (ng n (decide (c ∈ z)))) h sr rfl
          simpa using q
        | cons c' r => exact h.elim
    | _ => exact h.elim
  | lst xs => exact seqC xs rfl h
  | frz xs => exact seqC xs rfl h
  | tup xs => exact seqC xs rfl h
  | loc m =>
    unfold inM at h
    dsimp only at h
    cases hs : seqOf (.loc m) st with
    | some xs => rw [hs] at h; exact seqC xs hs h
    | none =>
      rw [hs] at h
      dsimp only at h
      cases q : st[m]? with
      | none => rw [q] at h; exact h.elim
      | some c =>
        rw [q] at h
        cases c with
        | dct kvs =>
          dsimp only at h
          by_cases hk : (keyOf x).isSome = true
          · rw [if_pos hk] at h
            obtain ⟨k', ek⟩ := Option.isSome_iff_exists.mp hk
            obtain ⟨a, rfl, ha⟩ := loc_at ry
            obtain ⟨kv, h1, h2⟩ := sr.cell m _ a q ha
            refine .inr (.inr ⟨a, valV kv k', rfl, ?_, ?_⟩)
            · rw [keyOf_kV ek rx]
              exact DGet.k h1
            · obtain ⟨l1, l2⟩ := KRs.look ek h2
              have e : (valV kv k').isSome = (lookP kvs x).isSome := by
                cases hl : lookP kvs x with
                | none => rw [l2 hl]; rfl
                | some p => obtain ⟨w, ew, _⟩ := l1 p hl; rw [ew]; rfl
              rw [e]
              exact post_same h sr rfl
          · rw [if_neg hk] at h
            exact h.elim
        | lst xs => exact h.elim
        | ins C fs => exact h.elim
  | _ => exact h.elim
section
variable {X : Cx} {W : WX} {a b : Expr} {pos : Pos} {ma mb : Rho → M PV}
theorem me_lt (ha : ME X W a ma) (hb : ME X W b mb) : ME X W (.Compare a [.Lt] [b] pos) (eBin ltI ma mb) := me_cmp op_lt (t_cmpI _) ha hb (nomark _)
theorem me_le (ha : ME X W a ma) (hb : ME X W b mb) : ME X W (.Compare a [.LtE] [b] pos) (eBin leI ma mb) := me_cmp op_le (t_cmpI _) ha hb (nomark _)
theorem me_gt (ha : ME X W a ma) (hb : ME X W b mb) : ME X W (.Compare a [.Gt] [b] pos) (eBin gtI ma mb) := me_cmp op_gt (t_cmpI _) ha hb (nomark _)
theorem me_ge (ha : ME X W a ma) (hb : ME X W b mb) : ME X W (.Compare a [.GtE] [b] pos) (eBin geI ma mb) := me_cmp op_ge (t_cmpI _) ha hb (nomark _)
theorem me_eq (hu : X.A.units + 64 < cLine) (ha : ME X W a ma) (hb : ME X W b mb) : ME X W (.Compare a [.Eq] [b] pos) (eBin eqM ma mb) := me_cmp (op_eqM hu) t_eq ha hb (nomark _)
theorem me_ne (hu : X.A.units + 64 < cLine) (ha : ME X W a ma) (hb : ME X W b mb) : ME X W (.Compare a [.NotEq] [b] pos) (eBin neM ma mb) := me_cmp (op_neM hu) t_ne ha hb (nomark _)
theorem me_is (ha : ME X W a ma) (hb : ME X W b mb) : ME X W (.Compare a [.Is] [b] pos) (eBin isN ma mb) := me_cmp op_isN t_isN ha hb (nomark _)
theorem me_isnot (ha : ME X W a ma) (hb : ME X W b mb) : ME X W (.Compare a [.IsNot] [b] pos) (eBin notN ma mb) := me_cmp op_notN t_notN ha hb (nomark _)
theorem me_in (hu : X.A.units + 1 < cLine) (ha : ME X W a ma) (hb : ME X W b mb) (hm : behindInMarks .In b = false) : ME X W (.Compare a [.In] [b] pos) (eBin (inM false) ma mb) := me_cmp (op_inM hu) t_in ha hb hm
theorem me_notin (hu : X.A.units + 1 < cLine) (ha : ME X W a ma) (hb : ME X W b mb) (hm : behindInMarks .NotIn b = false) : ME X W (.Compare a [.NotIn] [b] pos) (eBin (inM true) ma mb) := me_cmp (op_notInM hu) t_in ha hb hm
theorem mt_lt (ha : ME X W a ma) (hb : ME X W b mb) : MT X W (.Compare a [.Lt] [b] pos) (eB (eBin ltI ma mb)) := mt_cmp op_lt (t_cmpI _) ha hb (nomark _)
theorem mt_le (ha : ME X W a ma) (hb : ME X W b mb) : MT X W (.Compare a [.LtE] [b] pos) (eB (eBin leI ma mb)) := mt_cmp op_le (t_cmpI _) ha hb (nomark _)
theorem mt_gt (ha : ME X W a ma) (hb : ME X W b mb) : MT X W (.Compare a [.Gt] [b] pos) (eB (eBin gtI ma mb)) := mt_cmp op_gt (t_cmpI _) ha hb (nomark _)
theorem mt_ge (ha : ME X W a ma) (hb : ME X W b mb) : MT X W (.Compare a [.GtE] [b] pos) (eB (eBin geI ma mb)) := mt_cmp op_ge (t_cmpI _) ha hb (nomark _)
theorem mt_eq (hu : X.A.units + 64 < cLine) (ha : ME X W a ma) (hb : ME X W b mb) : MT X W (.Compare a [.Eq] [b] pos) (eB (eBin eqM ma mb)) := mt_cmp (op_eqM hu) t_eq ha hb (nomark _)
theorem mt_ne (hu : X.A.units + 64 < cLine) (ha : ME X W a ma) (hb : ME X W b mb) : MT X W (.Compare a [.NotEq] [b] pos) (eB (eBin neM ma mb)) := mt_cmp (op_neM hu) t_ne ha hb (nomark _)
theorem mt_is (ha : ME X W a ma) (hb : ME X W b mb) : MT X W (.Compare a [.Is] [b] pos) (eB (eBin isN ma mb)) := mt_cmp op_isN t_isN ha hb (nomark _)
theorem mt_isnot (ha : ME X W a ma) (hb : ME X W b mb) : MT X W (.Compare a [.IsNot] [b] pos) (eB (eBin notN ma mb)) := mt_cmp op_notN t_notN ha hb (nomark _)
theorem mt_in (hu : X.A.units + 1 < cLine) (ha : ME X W a ma) (hb : ME X W b mb) (hm : behindInMarks .In b = false) : MT X W (.Compare a [.In] [b] pos) (eB (eBin (inM false) ma mb)) := mt_cmp (op_inM hu) t_in ha hb hm
theorem mt_notin (hu : X.A.units + 1 < cLine) (ha : ME X W a ma) (hb : ME X W b mb) (hm : behindInMarks .NotIn b = false) : MT X W (.Compare a [.NotIn] [b] pos) (eB (eBin (inM true) ma mb)) := mt_cmp (op_notInM hu) t_in ha hb hm
end
end MP

set_option maxRecDepth 100000
set_option maxHeartbeats 1000000
namespace MP
open PySem L2
def optM {α : Type} : Option α → M α
  | some a => M.ret a
  | none => M.fail
def dctOf (x : PV) (st : Sto) : Option (List (PV × PV)) := match x with
  | .loc n => match st[n]? with
    | some (.dct kvs) => some kvs
    | _ => none
  | _ => none
theorem dctOf_at {K : PySem.W.Frag} {H : Hp} {μ : Mu} {st : Sto} {x : PV} {v : V} {kvs : List (PV × PV)} (sr : SR K μ st H) (r : VR K H μ x v) (h : dctOf x st = some kvs) :
    ∃ n a kv, x = .loc n ∧ v = .ref a ∧ μ.l[n]? = some a ∧ st[n]? = some (.dct kvs) ∧ H a = some (.dK kv) ∧ KRs K H μ kvs kv := by
  cases x with
  | loc n =>
    obtain ⟨a, rfl, ha⟩ := loc_at r
    unfold dctOf at h
    dsimp only at h
    cases q : st[n]? with
    | none => rw [q] at h; cases h
    | some c =>
      rw [q] at h
      cases c with
      | dct k =>
        cases h
        obtain ⟨kv, h1, h2⟩ := sr.cell n _ a q ha
        exact ⟨n, a, kv, rfl, rfl, ha, q, h1, h2⟩
      | lst xs => cases h
      | ins C fs => cases h
  | _ => cases h
def ixM (x y : PV) : M PV := fun st => match seqOf x st with
  | some xs => match y with
    | .int i => optM (L2.atI xs i) st
    | _ => .bad
  | none => match x with
    | .str z => match y with
      | .int i => if z.length ≤ SZ then (match L2.atI z i with | some c => .ok (.str [c]) st | none => .bad) else .bad
      | _ => .bad
    | x => match dctOf x st with
      | some kvs => if (keyOf y).isSome = true then optM (lookP kvs y) st else .bad
      | none => .bad
def rIxM (K : PySem.W.Frag) : R2 := fun x y H Q => (rIxL K x y H Q ∨ rIxT K x y H Q ∨ rIxS x y H Q) ∨ ∃ a v, x = .ref a ∧ DGet H a y (some v) ∧ Q v H
theorem ix_dict {X : Cx} (hu : X.A.units + 1 < cLine) : IxR X (fun x y H Q => ∃ a v, x = .ref a ∧ DGet H a y (some v) ∧ Q v H) := by
  intro value slice pins s σ H x y v u Q I rx ry h hs
  obtain ⟨a, w, rfl, g, q⟩ := h
  cases (show v = Value.ref a from rx)
  exact PyProof.Rows.tail_any (dict_typeIs I g) PySem.F.slot_dict_getitem.lookup (d_getItem hu I g ry fun w' s3 I3 rw' => ⟨w, H, I3, rw', q⟩) hs
theorem ix_M {X : Cx} (hu : X.A.units + 1 < cLine) : IxR X (rIxM X.K) := ix_seq.or (ix_dict hu)
theorem t_ix {K : PySem.W.Frag} : T2 K (rIxM K) ixM := by
  intro μ st H x y u v E Q sr rx ry h
  unfold ixM at h
  cases hs : seqOf x st with
  | some xs =>
    rw [hs] at h
    cases y with
    | int i =>
      cases (show v = V.int i from ry)
      dsimp only at h
      obtain ⟨a, vs, rfl, hq, rs⟩ := seqOf_at sr rx hs
      cases q : L2.atI xs i with
      | none => rw [q] at h; exact h.elim
      | some p =>
        rw [q] at h
        obtain ⟨w, e, rw'⟩ := VRs.atI rs q
        have z := post_same h sr rw'
        rcases hq with hq | hq
        · exact .inl (.inl ⟨a, vs, i, w, rfl, rfl, hq, e, z⟩)
        · exact .inl (.inr (.inl ⟨a, vs, i, w, rfl, rfl, hq, e, z⟩))
    | _ => exact h.elim
  | none =>
    rw [hs] at h
    dsimp only at h
    have dcase : PostG K E (VR K) Q μ H (match dctOf x st with
      | some kvs => if (keyOf y).isSome = true then optM (lookP kvs y) st else .bad
      | none => .bad) → rIxM K u v H Q := by
      intro h
      cases hd : dctOf x st with
      | none => rw [hd] at h; exact h.elim
      | some kvs =>
        rw [hd] at h
        dsimp only at h
        by_cases hk : (keyOf y).isSome = true
        · rw [if_pos hk] at h
          obtain ⟨k', ek⟩ := Option.isSome_iff_exists.mp hk
          obtain ⟨n, a, kv, ex, rfl, ha, hc, h1, h2⟩ := dctOf_at sr rx hd
          cases q : lookP kvs y with
          | none => rw [q] at h; exact h.elim
          | some p =>
            rw [q] at h
            obtain ⟨w, e, rw'⟩ := (KRs.look ek h2).1 p q
            refine .inr ⟨a, w, rfl, ?_, post_same h sr rw'⟩
            rw [keyOf_kV ek ry, ← e]
            exact DGet.k h1
        · rw [if_neg hk] at h
          exact h.elim
    cases x with
    | str z =>
      cases (show u = V.str ⟨z.toArray⟩ from rx)
      cases y with
      | int i =>
        cases (show v = V.int i from ry)
        dsimp only at h
        by_cases hz : z.length ≤ SZ
        · rw [if_pos hz] at h
          cases q : L2.atI z i with
          | none => rw [q] at h; exact h.elim
          | some c =>
            rw [q] at h
            refine .inl (.inr (.inr ⟨⟨z.toArray⟩, i, c, rfl, rfl, by rw [str_len, sz_eq]; exact hz, ?_, post_same h sr rfl⟩))
            simpa using q
        · rw [if_neg hz] at h
          exact h.elim
      | _ => exact h.elim
    | _ => exact dcase h
section
variable {X : Cx} {W : WX} {a b : Expr} {pos : Pos} {ma mb : Rho → M PV}
theorem me_sub_ix (hu : X.A.units + 1 < cLine) (ha : ME X W a ma) (hb : ME X W b mb) (hs : PlainIx b) : ME X W (.Subscript a b pos) (eBin ixM ma mb) := me_ix (ix_M hu) t_ix ha hb hs
end
def cutL {α : Type} (xs : List α) (lo hi : Option Int) : List α := (xs.drop (HT.sIx xs.length 0 lo)).take (HT.sIx xs.length xs.length hi - HT.sIx xs.length 0 lo)
theorem VRs.cut {K : PySem.W.Frag} {H : Hp} {μ : Mu} {ps : List PV} {vs : List V} (r : VRs K H μ ps vs) (lo hi : Option Int) : VRs K H μ (cutL ps lo hi) (cutV vs lo hi) := by
  unfold cutL cutV
  rw [VRs.length r]
  exact VRs.take _ (VRs.drop _ r)
def slM (x : PV) (lo hi : Option Int) : M PV := match x with
  | .str z => if z.length ≤ SZ then M.ret (.str (cutL z lo hi)) else M.fail
  | .tup xs => M.ret (.tup (cutL xs lo hi))
  | x => fun st => match seqOf x st with
    | some xs => .ok (.lst (cutL xs lo hi)) st
    | none => .bad
def slN (x : PV) (lo hi : Option Int) : M PV := match x with
  | .str _ => M.fail
  | .tup _ => M.fail
  | x => fun st => match seqOf x st with
    | some xs => .ok (.loc st.length) (st ++ [.lst (cutL xs lo hi)])
    | none => .bad
def oNone : Rho → M (Option Int) := fun _ => M.ret none
def asI : PV → M Int
  | .int i => M.ret i
  | _ => M.fail
def oSome (m : Rho → M PV) : Rho → M (Option Int) := fun ρ => M.bind (m ρ) fun x => M.bind (asI x) fun i => M.ret (some i)
def tMO (K : PySem.W.Frag) (W : WX) (m : Rho → M (Option Int)) : TO := fun σ H Q => ∃ μ st ρ, ER K H μ ρ σ ∧ SR K μ st H ∧ PostG K (fun c d H' => W c d σ H') (fun _ _ (a : Option Int) b => a = b) Q μ H (m ρ st)
def MO (X : Cx) (W : WX) (e : Option Expr) (m : Rho → M (Option Int)) : Prop := PO X e (tMO X.K W m)
theorem PO.imp {X : Cx} {e : Option Expr} {t t' : TO} (h : PO X e t) (i : ∀ σ H Q, t' σ H Q → t σ H Q) : PO X e t' := ⟨fun pins s σ H Q I q => h.run pins s σ H Q I (i σ H Q q)⟩
def eSl (f : PV → Option Int → Option Int → M PV) (me : Rho → M PV) (ml mh : Rho → M (Option Int)) : Rho → M PV := fun ρ => M.bind (me ρ) fun x => M.bind (ml ρ) fun l => M.bind (mh ρ) fun h => f x l h
def rSlM (K : PySem.W.Frag) : V → Option Int → Option Int → Hp → VK → Prop := fun x lo hi H Q => rSlS x lo hi H Q ∨ rSlA K x lo hi H Q ∨ rSlL K x lo hi H Q
section
variable {X : Cx} {W : WX} {e : Expr} {lo hi : Option Expr} {pos p2 : Pos} {me : Rho → M PV} {ml mh : Rho → M (Option Int)}
theorem mo_none : MO X W none oNone := PO.imp po_none fun σ H Q ⟨μ, st, ρ, er, sr, h⟩ => h μ H none (Gr.refl _ _) sr rfl
theorem mo_some (he : ME X W e me) : MO X W (some e) (oSome me) := PO.imp (po_some he) fun σ H Q ⟨μ, st, ρ, er, sr, h⟩ => ⟨μ, st, ρ, er, sr, (PostG.bind h).mono fun u H1 ⟨μ1, st1, x, g1, s1, rx, h1⟩ => by
  cases x with
  | int i => exact ⟨i, rx, h1 μ1 H1 _ (Gr.refl _ _) s1 rfl⟩
  | _ => exact h1.elim⟩
def TSl (K : PySem.W.Frag) (r : V → Option Int → Option Int → Hp → VK → Prop) (f : PV → Option Int → Option Int → M PV) : Prop :=
  ∀ (μ : Mu) (st : Sto) (H : Hp) (x : PV) (lo hi : Option Int) (u : V) (E : XK) (Q : VK), SR K μ st H → VR K H μ x u → PostG K E (VR K) Q μ H (f x lo hi st) → r u lo hi H Q
theorem me_slG {f : PV → Option Int → Option Int → M PV} (t : TSl X.K (rSlM X.K) f) (he : ME X W e me) (hl : MO X W lo ml) (hh : MO X W hi mh) : ME X W (.Subscript e (.Slice lo hi none p2) pos) (eSl f me ml mh) :=
  PE.imp (pe_slice (sl_str.or (sl_tupA.or sl_list)) he hl hh) fun σ H Q ⟨μ, st, ρ, er, sr, h⟩ => ⟨μ, st, ρ, er, sr, (PostG.bind h).mono fun u H1 ⟨μ1, st1, x, g1, s1, rx, h1⟩ =>
    ⟨μ1, st1, ρ, er.mono g1, s1, (PostG.bind h1).mono fun l H2 ⟨μ2, st2, l', g2, s2, el, h2⟩ => ⟨μ2, st2, ρ, (er.mono g1).mono g2, s2, (PostG.bind h2).mono fun k H3 ⟨μ3, st3, k', g3, s3, ek, h3⟩ => by
      subst el ek
      exact t μ3 st3 H3 x l' k' u _ Q s3 (VR.mono g3 x u (VR.mono g2 x u rx)) h3⟩⟩⟩
theorem sl_lists {K : PySem.W.Frag} {μ : Mu} {st : Sto} {H : Hp} {x : PV} {lo hi : Option Int} {u : V} {E : XK} {Q : VK} (sr : SR K μ st H) (rx : VR K H μ x u) (nt : ∀ xs, x ≠ .tup xs)
    (h : PostG K E (VR K) Q μ H (match seqOf x st with
    | some xs => .ok (.lst (cutL xs lo hi)) st
    | none => .bad)) : rSlM K u lo hi H Q := by
  cases q : seqOf x st with
  | none => rw [q] at h; exact h.elim
  | some xs =>
    rw [q] at h
    obtain ⟨a, vs, rfl, hq, rs⟩ : ∃ a vs, u = .ref a ∧ SqL K H a vs ∧ VRs K H μ xs vs := by
      cases x with
      | lst xs => cases q; obtain ⟨a, vs, e, l, rs⟩ := lst_at rx; exact ⟨a, vs, e, l.sq, rs⟩
      | frz xs => cases q; obtain ⟨a, vs, e, l, rs⟩ := frz_at rx; exact ⟨a, vs, e, l.sq, rs⟩
      | loc n => obtain ⟨a, vs, e, l, rs⟩ := listOf_at sr rx (show listOf (.loc n) st = some xs from q); exact ⟨a, vs, e, SqL.of l, rs⟩
      | tup xs => exact absurd rfl (nt xs)
      | _ => cases q
    exact .inr (.inr ⟨a, vs, rfl, hq, fun p hp => post_lst sr (VRs.cut rs lo hi) hp h⟩)
theorem t_sl {K : PySem.W.Frag} : TSl K (rSlM K) slM := by
  intro μ st H x lo hi u E Q sr rx h
  cases x with
  | str z =>
    cases (show u = V.str ⟨z.toArray⟩ from rx)
    unfold slM at h
    dsimp only at h
    by_cases hz : z.length ≤ SZ
    · rw [if_pos hz] at h
      refine .inl ⟨⟨z.toArray⟩, rfl, by rw [str_len, sz_eq]; exact hz, ?_⟩
      have e : cutS ⟨z.toArray⟩ lo hi = ⟨(cutL z lo hi).toArray⟩ := by
        unfold cutS cutL
        rw [str_len]
      rw [e]
      exact post_same h sr rfl
    · rw [if_neg hz] at h
      exact h.elim
  | tup xs =>
    obtain ⟨a, vs, rfl, t, rs⟩ := tup_at rx
    refine .inr (.inl ⟨a, vs, rfl, t.sq, fun hw => ?_, fun _ p hp => post_tup sr (VRs.cut rs lo hi) hp h⟩)
    have h' : PostG K E (VR K) Q μ H (.ok (.tup (cutL xs lo hi)) st) := h
    have e : cutL xs lo hi = xs := by
      unfold cutL
      rw [VRs.length rs, hw.1, hw.2, List.drop_zero, Nat.sub_zero, ← VRs.length rs]
      simp
    rw [e] at h'
    exact post_same h' sr rx
  | lst xs => exact sl_lists sr rx (fun _ z => nomatch z) h
  | frz xs => exact sl_lists sr rx (fun _ z => nomatch z) h
  | loc n => exact sl_lists sr rx (fun _ z => nomatch z) h
  | _ => exact h.elim
theorem me_slice (he : ME X W e me) (hl : MO X W lo ml) (hh : MO X W hi mh) : ME X W (.Subscript e (.Slice lo hi none p2) pos) (eSl slM me ml mh) := me_slG t_sl he hl hh
theorem t_slN {K : PySem.W.Frag} : TSl K (rSlM K) slN := by
  intro μ st H x lo hi u E Q sr rx h
  have go : ∀ (nt : ∀ xs, x ≠ .tup xs), PostG K E (VR K) Q μ H (match seqOf x st with
    | some xs => .ok (.loc st.length) (st ++ [.lst (cutL xs lo hi)])
    | none => .bad) → rSlM K u lo hi H Q := by
    intro nt h
    cases q : seqOf x st with
    | none => rw [q] at h; exact h.elim
    | some xs =>
      rw [q] at h
      obtain ⟨a, vs, rfl, hq, rs⟩ : ∃ a vs, u = .ref a ∧ SqL K H a vs ∧ VRs K H μ xs vs := by
        cases x with
        | lst xs => cases q; obtain ⟨a, vs, e, l, rs⟩ := lst_at rx; exact ⟨a, vs, e, l.sq, rs⟩
        | frz xs => cases q; obtain ⟨a, vs, e, l, rs⟩ := frz_at rx; exact ⟨a, vs, e, l.sq, rs⟩
        | loc n => obtain ⟨a, vs, e, l, rs⟩ := listOf_at sr rx (show listOf (.loc n) st = some xs from q); exact ⟨a, vs, e, SqL.of l, rs⟩
        | tup xs => exact absurd rfl (nt xs)
        | _ => cases q
      exact .inr (.inr ⟨a, vs, rfl, hq, fun p hp => post_cell h sr hp ⟨_, upd_same, VRs.mono (gr_alloc hp) _ _ (VRs.cut rs lo hi)⟩⟩)
  cases x with
  | str z => exact h.elim
  | tup xs => exact h.elim
  | lst xs => exact go (fun _ z => nomatch z) h
  | frz xs => exact go (fun _ z => nomatch z) h
  | loc n => exact go (fun _ z => nomatch z) h
  | _ => exact h.elim
theorem me_sliceN (he : ME X W e me) (hl : MO X W lo ml) (hh : MO X W hi mh) : ME X W (.Subscript e (.Slice lo hi none p2) pos) (eSl slN me ml mh) := me_slG t_slN he hl hh
end
section
variable {X : Cx} {W : WX} {es : List Expr} {pos : Pos} {ma : Rho → M (List PV)}
def mkTup (xs : List PV) : M PV := if xs.length ≤ SZ then M.ret (.tup xs) else M.fail
def mkLst (xs : List PV) : M PV := if xs.length ≤ SZ then M.ret (.lst xs) else M.fail
def mkLstN (xs : List PV) : M PV := fun st => if xs.length ≤ SZ then .ok (.loc st.length) (st ++ [.lst xs]) else .bad
theorem me_tup {k : Nat} (h : MA X W es ma) : ME X W (.Tuple es k pos) (eCall mkTup ma) :=
  PE.imp (pe_tup h) fun σ H Q ⟨μ, st, ρ, er, sr, h⟩ => ⟨μ, st, ρ, er, sr, (PostG.bind h).mono fun us H1 ⟨μ1, st1, xs, g1, s1, rxs, h1⟩ => by
    unfold mkTup at h1
    by_cases hz : xs.length ≤ SZ
    · rw [if_pos hz] at h1
      exact ⟨by rw [← VRs.length rxs, sz_eq]; exact hz, fun p hp => post_tup s1 rxs hp h1⟩
    · rw [if_neg hz] at h1
      exact h1.elim⟩
theorem me_lst (h : MA X W es ma) : ME X W (.List es pos) (eCall mkLst ma) :=
  PE.imp (pe_lst h) fun σ H Q ⟨μ, st, ρ, er, sr, h⟩ => ⟨μ, st, ρ, er, sr, (PostG.bind h).mono fun us H1 ⟨μ1, st1, xs, g1, s1, rxs, h1⟩ => by
    unfold mkLst at h1
    by_cases hz : xs.length ≤ SZ
    · rw [if_pos hz] at h1
      exact ⟨by rw [← VRs.length rxs, sz_eq]; exact hz, fun p hp => post_lst s1 rxs hp h1⟩
    · rw [if_neg hz] at h1
      exact h1.elim⟩
theorem me_lstN (h : MA X W es ma) : ME X W (.List es pos) (eCall mkLstN ma) :=
  PE.imp (pe_lst h) fun σ H Q ⟨μ, st, ρ, er, sr, h⟩ => ⟨μ, st, ρ, er, sr, (PostG.bind h).mono fun us H1 ⟨μ1, st1, xs, g1, s1, rxs, h1⟩ => by
    unfold mkLstN at h1
    by_cases hz : xs.length ≤ SZ
    · rw [if_pos hz] at h1
      exact ⟨by rw [← VRs.length rxs, sz_eq]; exact hz, fun p hp => post_cell h1 s1 hp ⟨_, upd_same, VRs.mono (gr_alloc hp) _ _ rxs⟩⟩
    · rw [if_neg hz] at h1
      exact h1.elim⟩
def eDct0 : Rho → M PV := fun _ st => .ok (.loc st.length) (st ++ [.dct []])
theorem me_dict0 : ME X W (.Dict [] [] pos) eDct0 := PE.imp pe_dnewK fun σ H Q ⟨μ, st, ρ, er, sr, h⟩ p hp => post_cell h sr hp ⟨_, upd_same, rfl⟩
def pairsM : List ((Rho → M PV) × (Rho → M PV)) → Rho → M (List (PV × PV))
  | [], _ => M.ret []
  | m :: r, ρ => M.bind (m.1 ρ) fun k => M.bind (m.2 ρ) fun v => M.bind (pairsM r ρ) fun ps => M.ret ((k, v) :: ps)
def PRs (K : PySem.W.Frag) (H : Hp) (μ : Mu) : List (PV × PV) → List (V × V) → Prop
  | [], ps => ps = []
  | p :: r, ps => ∃ k v t, ps = (k, v) :: t ∧ VR K H μ p.1 k ∧ VR K H μ p.2 v ∧ PRs K H μ r t
theorem PRs.mono {K : PySem.W.Frag} {H H' : Hp} {μ μ' : Mu} (g : Gr μ H μ' H') : ∀ (ps : List (PV × PV)) (kv : List (V × V)), PRs K H μ ps kv → PRs K H' μ' ps kv
  | [], _, h => h
  | p :: ps, kv, h => by
    obtain ⟨k, v, t, e, hk, h1, h2⟩ := h
    exact ⟨k, v, t, e, VR.mono g _ _ hk, VR.mono g _ _ h1, PRs.mono g ps t h2⟩
theorem pairs_imp {K : PySem.W.Frag} {W : WX} {σ : St} {ρ : Rho} : ∀ (ms : List ((Rho → M PV) × (Rho → M PV))) (μ : Mu) (st : Sto) (H : Hp) (Q : List (V × V) → Hp → Prop), ER K H μ ρ σ → SR K μ st H →
    PostG K (fun c d H' => W c d σ H') (PRs K) Q μ H (pairsM ms ρ st) → tPairs (ms.map fun m => (tM K W m.1, tM K W m.2)) σ H Q
  | [], μ, st, H, Q, er, sr, h => h μ H [] (Gr.refl _ _) sr rfl
  | m :: r, μ, st, H, Q, er, sr, h => ⟨μ, st, ρ, er, sr, (PostG.bind h).mono fun u H1 ⟨μ1, st1, x, g1, s1, rx, h1⟩ => ⟨μ1, st1, ρ, er.mono g1, s1, (PostG.bind h1).mono fun w H2 ⟨μ2, st2, y, g2, s2, ry, h2⟩ =>
      pairs_imp r μ2 st2 H2 _ ((er.mono g1).mono g2) s2 ((PostG.bind h2).mono fun ps H3 ⟨μ3, st3, qs, g3, s3, rs, h3⟩ => h3 μ3 H3 _ (Gr.refl _ _) s3 ⟨u, w, ps, rfl, VR.mono g3 x u (VR.mono g2 x u rx), VR.mono g3 y w ry, rs⟩)⟩⟩
def mergeP (kvs more : List (PV × PV)) : List (PV × PV) := more.foldl (fun acc kv => putP acc kv.1 kv.2) kvs
def keysOk (kvs : List (PV × PV)) : Bool := kvs.all fun kv => (keyOf kv.1).isSome
def eDct (ms : List ((Rho → M PV) × (Rho → M PV))) : Rho → M PV := fun ρ => M.bind (pairsM ms ρ) fun ps st => if keysOk ps = true ∧ ps.length ≤ 15 then .ok (.loc st.length) (st ++ [.dct (mergeP [] ps)]) else .bad
def MPs (X : Cx) (W : WX) (pos : Pos) (keys : List (Option Expr)) (values : List Expr) (ms : List ((Rho → M PV) × (Rho → M PV))) : Prop := PPs X pos keys values (ms.map fun m => (tM X.K W m.1, tM X.K W m.2))
theorem mps_nil : MPs X W pos [] [] [] := pps_nil
theorem mps_cons {k v : Expr} {ks : List (Option Expr)} {vs : List Expr} {mk mv : Rho → M PV} {ms : List ((Rho → M PV) × (Rho → M PV))} (hk : ME X W k mk) (hv : ME X W v mv) (hr : MPs X W pos ks vs ms) : MPs X W pos (some k :: ks) (v :: vs) ((mk, mv) :: ms) := pps_cons hk hv hr
theorem PRs.keys {K : PySem.W.Frag} {H : Hp} {μ : Mu} : ∀ {ps : List (PV × PV)} {kv : List (V × V)}, PRs K H μ ps kv → keysOk ps = true → ∃ ks : List (Key × V), kv = ks.map (fun x => (kV x.1, x.2)) ∧ KRs K H μ ps ks
  | [], kv, h, _ => by have e : kv = [] := h; subst e; exact ⟨[], rfl, rfl⟩
  | p :: ps, kv, h, hk => by
    obtain ⟨k, v, t, rfl, h1, h2, h3⟩ := h
    have hk' : (keyOf p.1).isSome = true ∧ keysOk ps = true := by simpa [keysOk] using hk
    obtain ⟨k', ek⟩ := Option.isSome_iff_exists.mp hk'.1
    obtain ⟨ks, e, r⟩ := PRs.keys h3 hk'.2
    exact ⟨(k', v) :: ks, by rw [List.map_cons, ← e, keyOf_kV ek h1], k', v, ks, rfl, ek, h2, r⟩
theorem KRs.merge {K : PySem.W.Frag} {H : Hp} {μ : Mu} : ∀ {ps : List (PV × PV)} {ks : List (Key × V)} {qs : List (PV × PV)} {ls : List (Key × V)}, KRs K H μ ps ks → KRs K H μ qs ls → KRs K H μ (mergeP qs ps) (mergeK ls ks)
  | [], ks, qs, ls, h, r => by have e : ks = [] := h; subst e; exact r
  | p :: ps, ks, qs, ls, h, r => by
    obtain ⟨k, v, t, rfl, ek, h1, h2⟩ := h
    show KRs K H μ (mergeP (putP qs p.1 p.2) ps) (mergeK (putK ls k v) t)
    exact KRs.merge h2 (r.put ek h1)
theorem me_dict {keys : List (Option Expr)} {values : List Expr} {ms : List ((Rho → M PV) × (Rho → M PV))} (h : MPs X W pos keys values ms) (hall : keys.all (·.isSome) = true := by kernel_rfl) (hl : keys.length = values.length := by kernel_rfl) (h0 : keys ≠ [] := by intro z; cases z) (h15 : keys.length ≤ 15 := by decide) : ME X W (.Dict keys values pos) (eDct ms) :=
  PE.imp (pe_disp h hall hl h0 h15) fun σ H Q ⟨μ, st, ρ, er, sr, h⟩ p hp => pairs_imp ms μ st _ _ (er.mono (gr_new hp)) (sr.new hp) ((PostG.bindAt h (gr_new (o := .dK []) hp)).mono fun ps H1 ⟨μ1, st1, qs, g1, s1, rs, h1⟩ => by
    have hp1 : H1 p = some (.dK []) := g1.keep p _ upd_same (fun z => sr.free hp (.inl z))
    have np : p ∉ μ1 := g1.out upd_same (sr.free hp)
    by_cases hk : keysOk qs = true ∧ qs.length ≤ 15
    · rw [if_pos hk] at h1
      obtain ⟨ks, e, r⟩ := PRs.keys rs hk.1
      refine ⟨hp1, ks, e, by rw [← KRs.length r]; exact hk.2, ?_⟩
      have nseq : ∀ u, H1 p = some u → seqO u = false := fun u z => by rw [hp1] at z; cases z; rfl
      have gr : Gr μ H (μ1.add p) (upd H1 p (.dK (mergeK [] ks))) := by
        obtain ⟨t, et⟩ := g1.pre
        refine ⟨⟨t ++ [p], by show μ1.l ++ [p] = _; rw [et, List.append_assoc]⟩, g1.ban, fun b m => ?_, fun b m => ?_, fun b o e nb => ?_⟩
        · rcases g1.bnew b m with z | z
          · exact .inl z
          · by_cases hb : b = p
            · rw [hb]; exact .inr hp
            · rw [upd_ne hb] at z; exact .inr z
        · rcases List.mem_append.mp m with z | z
          · rcases g1.new b z with z | z
            · exact .inl z
            · by_cases hb : b = p
              · rw [hb]; exact .inr hp
              · rw [upd_ne hb] at z; exact .inr z
          · rw [List.mem_singleton.mp z]; exact .inr hp
        · have hb : b ≠ p := ne_of_none e hp
          rw [upd_ne hb]
          exact g1.keep b o (by rw [upd_ne hb]; exact e) nb
      refine h1 _ _ (.ref p) gr (s1.track np nseq ⟨_, upd_same, KRs.mono (gv_alloc nseq) _ _ (KRs.merge r (show KRs X.K H1 μ1 [] [] from rfl))⟩) ?_
      exact (show ∃ a, V.ref p = .ref a ∧ (μ1.add p).l[st1.length]? = some a from ⟨p, rfl, by rw [← s1.len]; simp [Mu.add]⟩)
    · rw [if_neg hk] at h1
      exact h1.elim)
end
end MP

set_option maxRecDepth 100000
set_option maxHeartbeats 1000000
namespace MP
open PySem L2
def setM (o i v : PV) : M Unit := fun st => match o with
  | .loc n => match st[n]? with
    | some (.lst xs) => match i with
      | .int k => match ixN xs.length k with
        | some j => .ok () (st.set n (.lst (xs.set j v)))
        | none => .bad
      | _ => .bad
    | some (.dct kvs) => if (keyOf i).isSome = true ∧ kvs.length < SZ then .ok () (st.set n (.dct (putP kvs i v))) else .bad
    | _ => .bad
  | _ => .bad
def rSetM : V → V → V → Hp → (Hp → Prop) → Prop := fun o i v H Q => rSetL o i v H Q ∨ ∃ a H', o = .ref a ∧ DPut H a i v H' ∧ Q H'
theorem set_M {X : Cx} (hu : X.A.units + 1 < cLine) : PSet X rSetM := by
  intro pins s σ H o i v ov iv u Q I ro ri rv h
  rcases h with h | ⟨a, H', rfl, g, q⟩
  · exact set_list pins s σ H o i v ov iv u Q I ro ri rv h
  · cases (show ov = Value.ref a from ro)
    exact d_setItem hu I g ri rv fun s4 I4 => ⟨H', I4, q⟩
theorem t_set {K : PySem.W.Frag} {μ : Mu} {st : Sto} {H : Hp} {o i v : PV} {a b c : V} {E : XK} {Q : Hp → Prop} (sr : SR K μ st H) (ro : VR K H μ o a) (ri : VR K H μ i b) (rv : VR K H μ v c)
    (h : PostG K E (fun _ _ (_ : Unit) (_ : Unit) => True) (fun _ H' => Q H') μ H (setM o i v st)) : rSetM a b c H Q := by
  cases o with
  | loc n =>
    obtain ⟨p, rfl, hp⟩ := loc_at ro
    unfold setM at h
    dsimp only at h
    cases q : st[n]? with
    | none => rw [q] at h; exact h.elim
    | some cc =>
      rw [q] at h
      cases cc with
      | lst xs =>
        dsimp only at h
        cases i with
        | int k =>
          dsimp only at h
          cases (show b = V.int k from ri)
          cases qj : ixN xs.length k with
          | none => rw [qj] at h; exact h.elim
          | some j =>
            rw [qj] at h
            obtain ⟨vs, h1, h2⟩ := sr.cell n _ p q hp
            refine .inl ⟨p, vs, k, j, rfl, rfl, h1, by rw [← VRs.length h2]; exact qj, ?_⟩
            exact h μ _ () (gr_put hp) (sr.put hp ⟨_, upd_same, VRs.mono (gr_put hp) _ _ (VRs.set rv j h2)⟩) trivial
        | _ => exact h.elim
      | dct kvs =>
        dsimp only at h
        by_cases hk : (keyOf i).isSome = true ∧ kvs.length < SZ
        · rw [if_pos hk] at h
          obtain ⟨k', ek⟩ := Option.isSome_iff_exists.mp hk.1
          obtain ⟨kv, h1, h2⟩ := sr.cell n _ p q hp
          refine .inr ⟨p, upd H p (.dK (putK kv k' c)), rfl, ?_, ?_⟩
          · rw [keyOf_kV ek ri]
            exact DPut.k h1 (by rw [← KRs.length h2, sz_eq]; exact hk.2)
          · exact h μ _ () (gr_put hp) (sr.put hp ⟨_, upd_same, KRs.mono (gr_put hp).v _ _ (h2.put ek rv)⟩) trivial
        · rw [if_neg hk] at h
          exact h.elim
      | ins C fs => exact h.elim
  | _ => exact h.elim
def gSubM (mo mi : Rho → M PV) : GM := fun p ρ => M.bind (mo ρ) fun o => M.bind (mi ρ) fun i => M.bind (setM o i p) fun _ => M.ret ρ
section
variable {X : Cx} {W : WX} {o i : Expr} {pos : Pos} {mo mi : Rho → M PV}
theorem mg_sub (hu : X.A.units + 1 < cLine) (ho : ME X W o mo) (hi : ME X W i mi)
    (ha : ∀ v, assign (.Subscript o i pos) X.env v = (do
      let ov ← holding [v] (eval o X.env)
      let iv ← holding [v, ov] (eval i X.env)
      standAt pos
      holding [v, ov, iv] (setItem ov iv v)
      release [v, ov, iv] []) := by intro _; rfl) : MG X W (.Subscript o i pos) (gSubM mo mi) :=
  PG.imp (pg_sub ho hi (set_M hu) ha) fun v σ H Q ⟨μ, st, ρ, p, er, sr, rv, h⟩ => ⟨μ, st, ρ, er, sr, (PostG.bind h).mono fun u H1 ⟨μ1, st1, x, g1, s1, rx, h1⟩ =>
    ⟨μ1, st1, ρ, er.mono g1, s1, (PostG.bind h1).mono fun w H2 ⟨μ2, st2, y, g2, s2, ry, h2⟩ => t_set s2 (VR.mono g2 x u rx) ry (VR.mono g2 p v (VR.mono g1 p v rv))
      ((PostG.bind (R' := fun _ _ (_ : Unit) (_ : Unit) => True) h2).mono fun _ H3 ⟨μ3, st3, _, g3, s3, _, h3⟩ => h3 μ3 H3 σ (Gr.refl _ _) s3 (((er.mono g1).mono g2).mono g3))⟩⟩
end
def lenM (xs : List PV) : M PV := fun st => match xs with
  | [x] => match seqOf x st with
    | some ys => .ok (.int ys.length) st
    | none => match x with
      | .str z => if z.length ≤ SZ then .ok (.int z.length) st else .bad
      | x => match dctOf x st with
        | some kvs => .ok (.int kvs.length) st
        | none => .bad
  | _ => .bad
theorem one_of {K : PySem.W.Frag} {H : Hp} {μ : Mu} {x : PV} {us : List V} (r : VRs K H μ [x] us) : ∃ u, us = [u] ∧ VR K H μ x u := by
  obtain ⟨u, t, rfl, h1, h2⟩ := (show ∃ v t, us = v :: t ∧ VR K H μ x v ∧ VRs K H μ [] t from r)
  cases (show t = [] from h2)
  exact ⟨u, rfl, h1⟩
theorem two_of {K : PySem.W.Frag} {H : Hp} {μ : Mu} {x y : PV} {us : List V} (r : VRs K H μ [x, y] us) : ∃ u v, us = [u, v] ∧ VR K H μ x u ∧ VR K H μ y v := by
  obtain ⟨u, t, rfl, h1, h2⟩ := (show ∃ v t, us = v :: t ∧ VR K H μ x v ∧ VRs K H μ [y] t from r)
  obtain ⟨v, rfl, h3⟩ := one_of h2
  exact ⟨u, v, rfl, h1, h3⟩
def rLenM (K : PySem.W.Frag) : List V → Hp → VK → Prop := fun xs H Q => (∃ x n, xs = [x] ∧ LenV K x H n ∧ Q (.int n) H) ∨ ∃ a kvs, xs = [V.ref a] ∧ H a = some (.dK kvs) ∧ Q (.int kvs.length) H
theorem cr_lenM {X : Cx} : CallR X (.builtin "len") (rLenM X.K) := call_len.or call_lenD
theorem t_len {K : PySem.W.Frag} : TL K (rLenM K) lenM := by
  intro μ st H xs us E Q sr r h
  cases xs with
  | nil => exact h.elim
  | cons x t =>
    cases t with
    | cons y t => exact h.elim
    | nil =>
      obtain ⟨u, rfl, rx⟩ := one_of r
      unfold lenM at h
      dsimp only at h
      cases hs : seqOf x st with
      | some ys =>
        rw [hs] at h
        obtain ⟨a, vs, rfl, hq, rs⟩ := seqOf_at sr rx hs
        refine .inl ⟨.ref a, ys.length, rfl, ?_, post_same h sr rfl⟩
        rcases hq with hq | hq
        · exact .inl ⟨vs, hq, VRs.length rs⟩
        · exact .inr ⟨vs, hq, VRs.length rs⟩
      | none =>
        rw [hs] at h
        dsimp only at h
        have dc : PostG K E (VR K) Q μ H (match dctOf x st with
          | some kvs => .ok (.int kvs.length) st
          | none => .bad) → rLenM K [u] H Q := by
          intro h
          cases hd : dctOf x st with
          | none => rw [hd] at h; exact h.elim
          | some kvs =>
            rw [hd] at h
            obtain ⟨n, a, kv, ex, rfl, ha, hc, h1, h2⟩ := dctOf_at sr rx hd
            refine .inr ⟨a, kv, rfl, h1, ?_⟩
            rw [← KRs.length h2]
            exact post_same h sr rfl
        cases x with
        | str z =>
          cases (show u = V.str ⟨z.toArray⟩ from rx)
          dsimp only at h
          by_cases hz : z.length ≤ SZ
          · rw [if_pos hz] at h
            refine .inl ⟨_, z.length, rfl, ?_, post_same h sr rfl⟩
            exact ⟨by rw [str_len, sz_eq]; exact hz, by rw [str_len]⟩
          · rw [if_neg hz] at h
            exact h.elim
        | _ => exact dc h
def listM (xs : List PV) : M PV := fun st => match xs with
  | [x] => match seqOf x st with
    | some ys => .ok (.lst ys) st
    | none => .bad
  | _ => .bad
def listN (xs : List PV) : M PV := fun st => match xs with
  | [x] => match seqOf x st with
    | some ys => .ok (.loc st.length) (st ++ [.lst ys])
    | none => .bad
  | _ => .bad
abbrev rListM (K : PySem.W.Frag) : List V → Hp → VK → Prop := fun xs H Q => ∃ p ys, xs = [.ref p] ∧ (SqL K H p ys ∨ SqT K H p ys) ∧ ∀ l, H l = none → Q (.ref l) (upd H l (.lst ys))
theorem t_list {K : PySem.W.Frag} : TL K (rListM K) listM := by
  intro μ st H xs us E Q sr r h
  cases xs with
  | nil => exact h.elim
  | cons x t =>
    cases t with
    | cons y t => exact h.elim
    | nil =>
      obtain ⟨u, rfl, rx⟩ := one_of r
      unfold listM at h
      dsimp only at h
      cases hs : seqOf x st with
      | none => rw [hs] at h; exact h.elim
      | some ys =>
        rw [hs] at h
        obtain ⟨a, vs, rfl, hq, rs⟩ := seqOf_at sr rx hs
        exact ⟨a, vs, rfl, hq, fun l hl => post_lst sr rs hl h⟩
theorem t_listN {K : PySem.W.Frag} : TL K (rListM K) listN := by
  intro μ st H xs us E Q sr r h
  cases xs with
  | nil => exact h.elim
  | cons x t =>
    cases t with
    | cons y t => exact h.elim
    | nil =>
      obtain ⟨u, rfl, rx⟩ := one_of r
      unfold listN at h
      dsimp only at h
      cases hs : seqOf x st with
      | none => rw [hs] at h; exact h.elim
      | some ys =>
        rw [hs] at h
        obtain ⟨a, vs, rfl, hq, rs⟩ := seqOf_at sr rx hs
        exact ⟨a, vs, rfl, hq, fun l hl => post_cell h sr hl ⟨_, upd_same, VRs.mono (gr_alloc hl) _ _ rs⟩⟩
def tupleM (xs : List PV) : M PV := fun st => match xs with
  | [x] => match seqOf x st with
    | some ys => .ok (.tup ys) st
    | none => .bad
  | _ => .bad
abbrev rTupM (K : PySem.W.Frag) : List V → Hp → VK → Prop := fun xs H Q => ∃ p ys, xs = [.ref p] ∧ ((SqL K H p ys ∧ ∀ l, H l = none → Q (.ref l) (upd H l (.tup ys))) ∨ (SqT K H p ys ∧ Q (.ref p) H))
theorem t_tuple {K : PySem.W.Frag} : TL K (rTupM K) tupleM := by
  intro μ st H xs us E Q sr r h
  cases xs with
  | nil => exact h.elim
  | cons x t =>
    cases t with
    | cons y t => exact h.elim
    | nil =>
      obtain ⟨u, rfl, rx⟩ := one_of r
      unfold tupleM at h
      dsimp only at h
      cases hs : seqOf x st with
      | none => rw [hs] at h; exact h.elim
      | some ys =>
        rw [hs] at h
        cases x with
        | tup zs =>
          cases hs
          obtain ⟨a, vs, rfl, t, rs⟩ := tup_at rx
          exact ⟨a, vs, rfl, .inr ⟨t.sq, post_same h sr rx⟩⟩
        | lst zs =>
          cases hs
          obtain ⟨a, vs, rfl, t, rs⟩ := lst_at rx
          exact ⟨a, vs, rfl, .inl ⟨t.sq, fun l hl => post_tup sr rs hl h⟩⟩
        | frz zs =>
          cases hs
          obtain ⟨a, vs, rfl, t, rs⟩ := frz_at rx
          exact ⟨a, vs, rfl, .inl ⟨t.sq, fun l hl => post_tup sr rs hl h⟩⟩
        | loc n =>
          obtain ⟨a, vs, rfl, t, rs⟩ := listOf_at sr rx (show listOf (.loc n) st = some ys from hs)
          exact ⟨a, vs, rfl, .inl ⟨SqL.of t, fun l hl => post_tup sr rs hl h⟩⟩
        | _ => cases hs
def tyP (x : PV) (st : Sto) : Option String := match x with
  | .non => some "NoneType"
  | .bl _ => some "bool"
  | .int _ => some "int"
  | .str _ => some "str"
  | .tup _ => some "tuple"
  | .lst _ => some "list"
  | .loc n => match st[n]? with
    | some (.lst _) => some "list"
    | some (.dct _) => some "dict"
    | _ => none
  | _ => none
def isiT (t T : String) : Bool := t == T || (t == "bool" && T == "int")
def isiOk (T : String) : Bool := T == "int" || T == "bool" || T == "str" || T == "tuple" || T == "list" || T == "dict"
def isiM (xs : List PV) : M PV := fun st => match xs with
  | [x, .ty T] => if isiOk T = true then (match tyP x st with
    | some t => .ok (.bl (isiT t T)) st
    | none => .bad) else .bad
  | _ => .bad
theorem kit_tab : ∀ t ∈ ["NoneType", "bool", "int", "str", "tuple", "list", "dict"], ∀ T ∈ ["int", "bool", "str", "tuple", "list", "dict"], kitB t T = some (isiT t T) := by decide +kernel
theorem tyP_at {K : PySem.W.Frag} {H : Hp} {μ : Mu} {st : Sto} {x : PV} {v : V} {t : String} (sr : SR K μ st H) (r : VR K H μ x v) (h : tyP x st = some t) : t ∈ ["NoneType", "bool", "int", "str", "tuple", "list", "dict"] ∧ TyX K H v (.type t) := by
  cases x with
  | non => cases h; cases (show v = .non from r); exact ⟨by decide, .base .non⟩
  | bl b => cases h; cases (show v = .bl b from r); exact ⟨by decide, .base (.bl b)⟩
  | int b => cases h; cases (show v = .int b from r); exact ⟨by decide, .base (.int b)⟩
  | str b => cases h; cases (show v = .str ⟨b.toArray⟩ from r); exact ⟨by decide, .base (.str _)⟩
  | tup b =>
    cases h
    obtain ⟨a, vs, rfl, t, rs⟩ := tup_at r
    rcases t with ⟨t, _⟩ | ⟨o, its, n, hk, hc, _⟩
    · exact ⟨by decide, .base (.tup t)⟩
    · exact ⟨by decide, .kTuple hk hc⟩
  | lst b =>
    cases h
    obtain ⟨a, vs, rfl, t, rs⟩ := lst_at r
    exact ⟨by decide, .base (.lst t.1)⟩
  | loc n =>
    obtain ⟨a, rfl, ha⟩ := loc_at r
    unfold tyP at h
    dsimp only at h
    cases q : st[n]? with
    | none => rw [q] at h; cases h
    | some c =>
      rw [q] at h
      cases c with
      | lst xs =>
        cases h
        obtain ⟨vs, h1, _⟩ := sr.cell n _ a q ha
        exact ⟨by decide, .base (.lst h1)⟩
      | dct kvs =>
        cases h
        obtain ⟨vs, h1, _⟩ := sr.cell n _ a q ha
        exact ⟨by decide, .base (.dK h1)⟩
      | ins C fs => cases h
  | _ => cases h
theorem t_isi {K : PySem.W.Frag} : TL K (rIsi K) isiM := by
  intro μ st H xs us E Q sr r h
  cases xs with
  | nil => exact h.elim
  | cons x t =>
    cases t with
    | nil => exact h.elim
    | cons y t =>
      cases t with
      | cons z t =>
        unfold isiM at h
        cases y <;> exact h.elim
      | nil =>
        obtain ⟨u, v, rfl, rx, ry⟩ := two_of r
        cases y with
        | ty T =>
          cases (show v = V.ty T from ry)
          unfold isiM at h
          dsimp only at h
          by_cases hT : isiOk T = true
          · rw [if_pos hT] at h
            have hT' : T ∈ ["int", "bool", "str", "tuple", "list", "dict"] := by
              unfold isiOk at hT
              simp only [Bool.or_eq_true, beq_iff_eq] at hT
              simp only [List.mem_cons]
              rcases hT with ((((e | e) | e) | e) | e) | e <;> simp [e]
            cases q : tyP x st with
            | none => rw [q] at h; exact h.elim
            | some t =>
              rw [q] at h
              obtain ⟨m, ty⟩ := tyP_at sr rx q
              exact ⟨u, .ty T, .type t, .type T, _, rfl, .ty T, ty, kit_ty (kit_tab t m T hT'), post_same h sr rfl⟩
          · rw [if_neg hT] at h
            exact h.elim
        | _ => exact h.elim
def intM (xs : List PV) : M PV := match xs with
  | [.int i] => M.ret (.int i)
  | [.bl b] => M.ret (.int (if b then 1 else 0))
  | [.str x] => if x.length ≤ 640 then (match PySem.intText? ⟨x.toArray⟩ with | some n => M.ret (.int n) | none => M.fail) else M.fail
  | _ => M.fail
def rIntM : List V → Hp → VK → Prop := fun xs H Q => ((∃ i, xs = [.int i] ∧ Q (.int i) H) ∨ ∃ k, xs = [.bl k] ∧ Q (.int (if k then 1 else 0)) H) ∨ ∃ a n, xs = [.str a] ∧ PySem.intText? a = some n ∧ a.length ≤ 640 ∧ Q (.int n) H
theorem t_int {K : PySem.W.Frag} : TL K rIntM intM := by
  intro μ st H xs us E Q sr r h
  cases xs with
  | nil => exact h.elim
  | cons x t =>
    cases t with
    | cons y t => cases x <;> exact h.elim
    | nil =>
      obtain ⟨u, rfl, rx⟩ := one_of r
      cases x with
      | int i => cases (show u = V.int i from rx); exact .inl (.inl ⟨i, rfl, post_same h sr rfl⟩)
      | bl i => cases (show u = V.bl i from rx); exact .inl (.inr ⟨i, rfl, post_same h sr rfl⟩)
      | str x =>
        cases (show u = V.str ⟨x.toArray⟩ from rx)
        unfold intM at h
        dsimp only at h
        by_cases hz : x.length ≤ 640
        · rw [if_pos hz] at h
          cases q : PySem.intText? ⟨x.toArray⟩ with
          | none => rw [q] at h; exact h.elim
          | some n => rw [q] at h; exact .inr ⟨_, n, rfl, q, by rw [str_len]; exact hz, post_same h sr rfl⟩
        · rw [if_neg hz] at h
          exact h.elim
      | _ => exact h.elim
def maxM (xs : List PV) : M PV := match xs with
  | [.int i, .int j] => M.ret (.int (if j > i then j else i))
  | _ => M.fail
def minM (xs : List PV) : M PV := match xs with
  | [.int i, .int j] => M.ret (.int (if j < i then j else i))
  | _ => M.fail
theorem t_max {K : PySem.W.Frag} : TL K (fun xs H Q => ∃ i j, xs = [.int i, .int j] ∧ Q (.int (if j > i then j else i)) H) maxM := by
  intro μ st H xs us E Q sr r h
  unfold maxM at h
  split at h
  · obtain ⟨u, v, rfl, rx, ry⟩ := two_of r
    cases (show u = V.int _ from rx); cases (show v = V.int _ from ry)
    exact ⟨_, _, rfl, post_same h sr rfl⟩
  · exact h.elim
theorem t_min {K : PySem.W.Frag} : TL K (fun xs H Q => ∃ i j, xs = [.int i, .int j] ∧ Q (.int (if j < i then j else i)) H) minM := by
  intro μ st H xs us E Q sr r h
  unfold minM at h
  split at h
  · obtain ⟨u, v, rfl, rx, ry⟩ := two_of r
    cases (show u = V.int _ from rx); cases (show v = V.int _ from ry)
    exact ⟨_, _, rfl, post_same h sr rfl⟩
  · exact h.elim
def boolsOf : List PV → Option (List Bool)
  | [] => some []
  | .bl b :: r => (boolsOf r).map (b :: ·)
  | _ :: _ => none
theorem boolsOf_at {K : PySem.W.Frag} {H : Hp} {μ : Mu} : ∀ {ps : List PV} {vs : List V} {bs : List Bool}, VRs K H μ ps vs → boolsOf ps = some bs → vs = bs.map V.bl
  | [], vs, bs, r, h => by cases h; exact r
  | p :: ps, vs, bs, r, h => by
    obtain ⟨v, t, rfl, r1, r2⟩ := (show ∃ v t, vs = v :: t ∧ VR K H μ p v ∧ VRs K H μ ps t from r)
    cases p with
    | bl b =>
      unfold boolsOf at h
      cases q : boolsOf ps with
      | none => rw [q] at h; cases h
      | some cs =>
        rw [q] at h
        cases h
        cases (show v = V.bl b from r1)
        rw [boolsOf_at r2 q]
        rfl
    | _ => cases h
def allM (n : Bool) (xs : List PV) : M PV := fun st => match xs with
  | [x] => match listOf x st with
    | some ys => match boolsOf ys with
      | some bs => .ok (.bl (if n then bs.any id else bs.all id)) st
      | none => .bad
    | none => .bad
  | _ => .bad
abbrev rAllM (K : PySem.W.Frag) (n : Bool) : List V → Hp → VK → Prop := fun vs H Q => ∃ (a : Addr) (bs : List Bool), vs = [V.ref a] ∧ SqL K H a (bs.map V.bl) ∧ Q (.bl (if n then bs.any id else bs.all id)) H
theorem t_all {K : PySem.W.Frag} {n : Bool} : TL K (rAllM K n) (allM n) := by
  intro μ st H xs us E Q sr r h
  cases xs with
  | nil => exact h.elim
  | cons x t =>
    cases t with
    | cons y t => exact h.elim
    | nil =>
      obtain ⟨u, rfl, rx⟩ := one_of r
      unfold allM at h
      dsimp only at h
      cases hs : listOf x st with
      | none => rw [hs] at h; exact h.elim
      | some ys =>
        rw [hs] at h
        dsimp only at h
        cases hb : boolsOf ys with
        | none => rw [hb] at h; exact h.elim
        | some bs =>
          rw [hb] at h
          obtain ⟨a, vs, rfl, hq, rs⟩ := listOf_at sr rx hs
          rw [boolsOf_at rs hb] at hq
          exact ⟨a, bs, rfl, SqL.of hq, post_same h sr rfl⟩
section
variable {X : Cx} {W : WX} {e : Expr} {es : List Expr} {p pos : Pos} {ma : Rho → M (List PV)}
theorem me_len (hg : Gl X "len") (hm : X.mg "len" = none) (ha : MA X W [e] ma) (he : starEach [e] X.env = (false, eval e X.env) :: starEach [] X.env := by kernel_rfl) : ME X W (.Call (.Name "len" p) [e] [] pos) (eCall lenM ma) :=
  me_callB cr_lenM t_len hg hm PySem.boot_len ha (by decide) (by decide) he rfl
theorem me_listOf (hg : Gl X "list") (hm : X.mg "list" = none) (ha : MA X W [e] ma) (he : starEach [e] X.env = (false, eval e X.env) :: starEach [] X.env := by kernel_rfl) : ME X W (.Call (.Name "list" p) [e] [] pos) (eCall listM ma) :=
  me_callTy call_list_of t_list hg hm (by decide +kernel) ha (by decide) (by decide) he rfl
theorem me_listNew (hg : Gl X "list") (hm : X.mg "list" = none) (ha : MA X W [e] ma) (he : starEach [e] X.env = (false, eval e X.env) :: starEach [] X.env := by kernel_rfl) : ME X W (.Call (.Name "list" p) [e] [] pos) (eCall listN ma) :=
  me_callTy call_list_of t_listN hg hm (by decide +kernel) ha (by decide) (by decide) he rfl
theorem me_tupleOf (hg : Gl X "tuple") (hm : X.mg "tuple" = none) (ha : MA X W [e] ma) (he : starEach [e] X.env = (false, eval e X.env) :: starEach [] X.env := by kernel_rfl) : ME X W (.Call (.Name "tuple" p) [e] [] pos) (eCall tupleM ma) :=
  me_callTy call_tuple_of t_tuple hg hm (by decide +kernel) ha (by decide) (by decide) he rfl
theorem me_isinst (hg : Gl X "isinstance") (hm : X.mg "isinstance" = none) (ha : MA X W (e :: es) ma) (he : starEach (e :: es) X.env = (false, eval e X.env) :: starEach es X.env := by kernel_rfl) (hpl : (backTo pos (starEach es X.env)).any (·.1) = false := by kernel_rfl) : ME X W (.Call (.Name "isinstance" p) (e :: es) [] pos) (eCall isiM ma) :=
  me_callB call_isi t_isi hg hm (by decide +kernel) ha (by decide) (by decide) he hpl
theorem me_intOf (hg : Gl X "int") (hm : X.mg "int" = none) (ha : MA X W [e] ma) (he : starEach [e] X.env = (false, eval e X.env) :: starEach [] X.env := by kernel_rfl) : ME X W (.Call (.Name "int" p) [e] [] pos) (eCall intM ma) :=
  me_callTy (call_int1.or call_int_str) t_int hg hm (by decide +kernel) ha (by decide) (by decide) he rfl
theorem me_max2 (hc : X.calm = true) (hg : Gl X "max") (hm : X.mg "max" = none) (ha : MA X W (e :: es) ma) (he : starEach (e :: es) X.env = (false, eval e X.env) :: starEach es X.env := by kernel_rfl) (hpl : (backTo pos (starEach es X.env)).any (·.1) = false := by kernel_rfl) : ME X W (.Call (.Name "max" p) (e :: es) [] pos) (eCall maxM ma) :=
  me_callB (call_max2 hc) t_max hg hm (by decide +kernel) ha (by decide) (by decide) he hpl
theorem me_min2 (hc : X.calm = true) (hg : Gl X "min") (hm : X.mg "min" = none) (ha : MA X W (e :: es) ma) (he : starEach (e :: es) X.env = (false, eval e X.env) :: starEach es X.env := by kernel_rfl) (hpl : (backTo pos (starEach es X.env)).any (·.1) = false := by kernel_rfl) : ME X W (.Call (.Name "min" p) (e :: es) [] pos) (eCall minM ma) :=
  me_callB (call_min2 hc) t_min hg hm (by decide +kernel) ha (by decide) (by decide) he hpl
theorem me_all (hc : X.calm = true) (hg : Gl X "all") (hm : X.mg "all" = none) (ha : MA X W [e] ma) (he : starEach [e] X.env = (false, eval e X.env) :: starEach [] X.env := by kernel_rfl) : ME X W (.Call (.Name "all" p) [e] [] pos) (eCall (allM false) ma) :=
  me_callB (cr_all hc) (t_all (n := false)) hg hm (by decide +kernel) ha (by decide) (by decide) he rfl
theorem me_any (hc : X.calm = true) (hg : Gl X "any") (hm : X.mg "any" = none) (ha : MA X W [e] ma) (he : starEach [e] X.env = (false, eval e X.env) :: starEach [] X.env := by kernel_rfl) : ME X W (.Call (.Name "any" p) [e] [] pos) (eCall (allM true) ma) :=
  me_callB (cr_any hc) (t_all (n := true)) hg hm (by decide +kernel) ha (by decide) (by decide) he rfl
end
end MP

set_option maxRecDepth 100000
set_option maxHeartbeats 1000000
namespace MP
open PySem L2
theorem TupAt.grow {K : PySem.W.Frag} {H H' : Hp} {μ μ' : Mu} {a : Addr} {vs : List V} (g : Gr μ H μ' H') (t : TupAt K H μ a vs) : TupAt K H' μ' a vs := by
  rcases t with ⟨t, n⟩ | t
  · exact .inl ⟨g.keep a _ t (fun z => n (.inl z)), g.out t n⟩
  · exact .inr t
theorem LstAt.grow {H H' : Hp} {μ μ' : Mu} {a : Addr} {vs : List V} (g : Gr μ H μ' H') (t : LstAt H μ a vs) : LstAt H' μ' a vs := ⟨g.keep a _ t.1 (fun z => t.2 (.inl z)), g.out t.1 t.2⟩
theorem FrzAt.grow {K : PySem.W.Frag} {H H' : Hp} {μ μ' : Mu} {a : Addr} {vs : List V} (g : Gr μ H μ' H') (t : FrzAt K H μ a vs) : FrzAt K H' μ' a vs := by
  rcases t with ⟨t | ⟨o, t⟩, n⟩ | t
  · exact .inl ⟨.inl (g.keep a _ t (fun z => n (.inl z))), g.out t n⟩
  · exact .inl ⟨.inr ⟨o, g.keep a _ t (fun z => n (.inl z))⟩, g.out t n⟩
  · exact .inr t
theorem sup_tup {K : PySem.W.Frag} {H : Hp} {μ : Mu} {a : Addr} {ps : List PV} {vs : List V} (t : TupAt K H μ a vs) (r : VRs K H μ ps vs) : Sup K (Itt K a) ps μ H := fun μ' H' st g sr => by
  have q := (t.grow g).sq
  refine ⟨fun i p hp => ?_, ⟨vs, q, by rw [VRs.length r]; exact Nat.le_refl _⟩⟩
  obtain ⟨v, e1, e2⟩ := VRs.get (VRs.mono g ps vs r) hp
  refine ⟨⟨vs, v, q, e1⟩, fun x H2 ⟨eh, y⟩ => ?_⟩
  subst eh
  have ex : v = x := Option.some.inj (e1.symm.trans (y vs q))
  subst ex
  exact ⟨Gr.refl _ _, sr, e2⟩
theorem sup_lst {K : PySem.W.Frag} {H : Hp} {μ : Mu} {a : Addr} {ps : List PV} {vs : List V} (t : ∀ μ' H', Gr μ H μ' H' → SqL K H' a vs) (r : VRs K H μ ps vs) : Sup K (Itl K a) ps μ H := fun μ' H' st g sr => by
  have q := t μ' H' g
  refine ⟨fun i p hp => ?_, ⟨vs, q, by rw [VRs.length r]; exact Nat.le_refl _⟩⟩
  obtain ⟨v, e1, e2⟩ := VRs.get (VRs.mono g ps vs r) hp
  refine ⟨⟨vs, v, q, e1⟩, fun x H2 ⟨eh, y⟩ => ?_⟩
  subst eh
  have ex : v = x := Option.some.inj (e1.symm.trans (y vs q))
  subst ex
  exact ⟨Gr.refl _ _, sr, e2⟩
theorem sup_str {K : PySem.W.Frag} {H : Hp} {μ : Mu} {z : List Nat} : Sup K (Its ⟨z.toArray⟩) (z.map fun c => .str [c]) μ H := fun μ' H' st g sr => by
  refine ⟨fun i p hp => ?_, by show z.toArray.size ≤ _; simp⟩
  rw [List.getElem?_map] at hp
  cases q : z[i]? with
  | none => rw [q] at hp; cases hp
  | some c =>
    rw [q] at hp
    cases hp
    refine ⟨by show i < z.toArray.size; have := (List.getElem?_eq_some_iff.mp q).1; simpa using this, fun x H2 ⟨eh, c', ec, ex⟩ => ?_⟩
    subst eh ex
    have e : z.toArray[i]? = some c' := ec
    have e' : c' = c := by
      rw [List.getElem?_toArray, q] at e
      exact (Option.some.inj e).symm
    subst e'
    exact ⟨Gr.refl _ _, sr, rfl⟩
theorem sup_range {K : PySem.W.Frag} {H : Hp} {μ : Mu} {lo : Int} {n : Nat} : Sup K (Itr lo n) ((List.range n).map fun (i : Nat) => .int (lo + (i : Int))) μ H := fun μ' H' st g sr => by
  refine ⟨fun i p hp => ?_, by show n ≤ _; simp⟩
  rw [List.getElem?_map] at hp
  cases q : (List.range n)[i]? with
  | none => rw [q] at hp; cases hp
  | some c =>
    rw [q] at hp
    cases hp
    obtain ⟨h1, h2⟩ := List.getElem?_eq_some_iff.mp q
    rw [List.getElem_range] at h2
    subst h2
    refine ⟨by show i < n; simpa using h1, fun x H2 ⟨eh, ex⟩ => ?_⟩
    subst eh ex
    exact ⟨Gr.refl _ _, sr, rfl⟩
def itemsM : PV → M (List PV)
  | .tup xs => M.ret xs
  | .lst xs => M.ret xs
  | .frz xs => M.ret xs
  | .str z => M.ret (z.map fun c => .str [c])
  | _ => M.fail
def iSeq (m : Rho → M PV) : Rho → M (List PV) := fun ρ => M.bind (m ρ) itemsM
section
variable {X : Cx} {W : WX} {tg e a b : Expr} {p pos : Pos} {me : Rho → M PV} {ma : Rho → M (List PV)}
theorem PI.or {iter : Expr} {t t' : TI} (h : PI X tg iter t) (h' : PI X tg iter t') : PI X tg iter (fun σ H R => t σ H R ∨ t' σ H R) := ⟨fun pins s σ H R I q => by
  rcases q with q | q
  · exact h.run pins s σ H R I q
  · exact h'.run pins s σ H R I q⟩
theorem mi_seq (he : ME X W e me) : MI X W tg e (iSeq me) :=
  PI.imp (PI.or (pi_tup he) (PI.or (pi_list he) (pi_str he))) fun σ H R ⟨μ, st, ρ, er, sr, h⟩ => by
    have h0 := h
    unfold iSeq M.bind at h
    cases q : me ρ st with
    | bad => rw [q] at h; exact h.elim
    | err x st' =>
      rw [q] at h
      refine .inl ⟨μ, st, ρ, er, sr, ?_⟩
      rw [q]
      exact h
    | ok v st' =>
      rw [q] at h
      dsimp only at h
      cases v with
      | tup xs =>
        refine .inl ⟨μ, st, ρ, er, sr, ?_⟩
        rw [q]
        intro μ1 H1 u g1 s1 ru
        obtain ⟨a, vs, rfl, t, rs⟩ := tup_at ru
        exact ⟨a, rfl, ⟨vs, t.sq⟩, h μ1 H1 _ g1 s1 (sup_tup t rs)⟩
      | lst xs =>
        refine .inr (.inl ⟨μ, st, ρ, er, sr, ?_⟩)
        rw [q]
        intro μ1 H1 u g1 s1 ru
        obtain ⟨a, vs, rfl, t, rs⟩ := lst_at ru
        exact ⟨a, rfl, ⟨vs, t.sq⟩, h μ1 H1 _ g1 s1 (sup_lst (fun _ _ g => (t.grow g).sq) rs)⟩
      | frz xs =>
        refine .inr (.inl ⟨μ, st, ρ, er, sr, ?_⟩)
        rw [q]
        intro μ1 H1 u g1 s1 ru
        obtain ⟨a, vs, rfl, t, rs⟩ := frz_at ru
        exact ⟨a, rfl, ⟨vs, t.sq⟩, h μ1 H1 _ g1 s1 (sup_lst (fun _ _ g => (t.grow g).sq) rs)⟩
      | str z =>
        refine .inr (.inr ⟨μ, st, ρ, er, sr, ?_⟩)
        rw [q]
        intro μ1 H1 u g1 s1 ru
        cases (show u = V.str ⟨z.toArray⟩ from ru)
        exact ⟨_, rfl, h μ1 H1 _ g1 s1 sup_str⟩
      | _ => exact h.elim
def rangeOk (i : Int) : Prop := -4611686018427387904 ≤ i ∧ i < 4611686018427387904
instance (i : Int) : Decidable (rangeOk i) := by unfold rangeOk; exact inferInstance
def range1 (xs : List PV) : M (List PV) := match xs with
  | [.int j] => if rangeOk j then M.ret ((List.range j.toNat).map fun (i : Nat) => .int ((0 : Int) + (i : Int))) else M.fail
  | _ => M.fail
def range2 (xs : List PV) : M (List PV) := match xs with
  | [.int i, .int j] => if rangeOk i ∧ rangeOk j then M.ret ((List.range (j - i).toNat).map fun (k : Nat) => .int (i + (k : Int))) else M.fail
  | _ => M.fail
def iCall (f : List PV → M (List PV)) (m : Rho → M (List PV)) : Rho → M (List PV) := fun ρ => M.bind (m ρ) f
theorem mi_range1 (hg : Gl X "range") (hm : X.mg "range" = none) (ha : MA X W [a] ma) (hs : starEach [a] X.env = [(false, eval a X.env)] := by kernel_rfl) : MI X W tg (.Call (.Name "range" p) [a] [] pos) (iCall range1 ma) :=
  PI.imp (pi_range1 hg hm ha hs) fun σ H R ⟨μ, st, ρ, er, sr, h⟩ => ⟨μ, st, ρ, er, sr, (PostG.bind h).mono fun us H1 ⟨μ1, st1, xs, g1, s1, rxs, h1⟩ => by
    unfold range1 at h1
    split at h1
    · rename_i j
      by_cases hj : rangeOk j
      · rw [if_pos hj] at h1
        obtain ⟨u, rfl, ru⟩ := one_of rxs
        cases (show u = V.int j from ru)
        exact ⟨j, rfl, hj.1, hj.2, h1 μ1 H1 _ (Gr.refl _ _) s1 sup_range⟩
      · rw [if_neg hj] at h1
        exact h1.elim
    · exact h1.elim⟩
theorem mi_range2 (hg : Gl X "range") (hm : X.mg "range" = none) (ha : MA X W [a, b] ma) (hs : starEach [a, b] X.env = [(false, eval a X.env), (false, eval b X.env)] := by kernel_rfl) (hs2 : starEach [b] X.env = [(false, eval b X.env)] := by kernel_rfl) : MI X W tg (.Call (.Name "range" p) [a, b] [] pos) (iCall range2 ma) :=
  PI.imp (pi_range2 hg hm ha hs hs2) fun σ H R ⟨μ, st, ρ, er, sr, h⟩ => ⟨μ, st, ρ, er, sr, (PostG.bind h).mono fun us H1 ⟨μ1, st1, xs, g1, s1, rxs, h1⟩ => by
    unfold range2 at h1
    split at h1
    · rename_i i j
      by_cases hj : rangeOk i ∧ rangeOk j
      · rw [if_pos hj] at h1
        obtain ⟨u, v, rfl, ru, rv⟩ := two_of rxs
        cases (show u = V.int i from ru)
        cases (show v = V.int j from rv)
        exact ⟨i, j, rfl, ⟨hj.1.1, hj.1.2, hj.2.1, hj.2.2⟩, h1 μ1 H1 _ (Gr.refl _ _) s1 sup_range⟩
      · rw [if_neg hj] at h1
        exact h1.elim
    · exact h1.elim⟩
theorem sup_enum {K : PySem.W.Frag} {H : Hp} {μ : Mu} {a : Addr} {ps : List PV} {vs : List V} (t : ∀ μ' H', Gr μ H μ' H' → SqL K H' a vs) (r : VRs K H μ ps vs) : Sup K (Ite K a) (ps.mapIdx fun i p => .tup [.int (i : Nat), p]) μ H := fun μ' H' st g sr => by
  have q := t μ' H' g
  refine ⟨fun i p hp => ?_, ⟨vs, q, by rw [List.length_mapIdx, VRs.length r]; exact Nat.le_refl _⟩⟩
  rw [List.getElem?_mapIdx] at hp
  cases hq : ps[i]? with
  | none => rw [hq] at hp; cases hp
  | some p0 =>
    rw [hq] at hp
    cases hp
    obtain ⟨v, e1, e2⟩ := VRs.get (VRs.mono g ps vs r) hq
    refine ⟨⟨vs, v, q, e1⟩, fun x H2 ⟨T, y, ex, hT, eh, hy⟩ => ?_⟩
    subst ex eh
    have ev : v = y := Option.some.inj (e1.symm.trans (hy vs q))
    subst ev
    refine ⟨gr_new hT, sr.new hT, ?_⟩
    refine (show ∃ a ws, V.ref T = .ref a ∧ TupAt K (upd H' T (.tup [.int (i : Nat), v])) μ' a ws ∧ VRs K (upd H' T (.tup [.int (i : Nat), v])) μ' [.int (i : Nat), p0] ws from ⟨T, _, rfl, ?_, VRs.cons rfl (VRs.cons (VR.mono (gr_new hT) _ _ e2) VRs.nil)⟩)
    exact .inl ⟨upd_same, sr.free hT⟩
def enumM (xs : List PV) : M (List PV) := match xs with
  | [.lst ps] => M.ret (ps.mapIdx fun i p => .tup [.int (i : Nat), p])
  | [.frz ps] => M.ret (ps.mapIdx fun i p => .tup [.int (i : Nat), p])
  | _ => M.fail
theorem mi_enum {tpos : Pos} {elts : List Expr} {kk : Nat} (hg : Gl X "enumerate") (hm : X.mg "enumerate" = none) (ha : MA X W [e] ma) (hs : starEach [e] X.env = [(false, eval e X.env)] := by kernel_rfl) :
    MI X W (.Tuple elts kk tpos) (.Call (.Name "enumerate" p) [e] [] pos) (iCall enumM ma) :=
  PI.imp (pi_enum hg hm ha hs) fun σ H R ⟨μ, st, ρ, er, sr, h⟩ => ⟨μ, st, ρ, er, sr, (PostG.bind h).mono fun us H1 ⟨μ1, st1, xs, g1, s1, rxs, h1⟩ => by
    unfold enumM at h1
    split at h1
    · obtain ⟨u, rfl, ru⟩ := one_of rxs
      obtain ⟨a, vs, rfl, t, rs⟩ := lst_at ru
      exact ⟨a, vs, rfl, t.sq, h1 μ1 H1 _ (Gr.refl _ _) s1 (sup_enum (fun _ _ g => (t.grow g).sq) rs)⟩
    · obtain ⟨u, rfl, ru⟩ := one_of rxs
      obtain ⟨a, vs, rfl, t, rs⟩ := frz_at ru
      exact ⟨a, vs, rfl, t.sq, h1 μ1 H1 _ (Gr.refl _ _) s1 (sup_enum (fun _ _ g => (t.grow g).sq) rs)⟩
    · exact h1.elim⟩
end
def wipeP (ρ : Rho) : List Nat → Rho
  | [] => ρ
  | v :: vs => (wipeP ρ vs).set v none
theorem ER.wipe {K : PySem.W.Frag} {H : Hp} {μ : Mu} {ρ : Rho} {σ : St} (e : ER K H μ ρ σ) : ∀ vs : List Nat, ER K H μ (wipeP ρ vs) (L2.wipe σ vs)
  | [] => e
  | v :: vs => by
    unfold wipeP L2.wipe
    exact (ER.wipe e vs).unset v
theorem wipe_far {σ : St} {j : Nat} {o : Option V} : ∀ {vs : List Nat}, j ∉ vs → L2.wipe (σ.set j o) vs = (L2.wipe σ vs).set j o
  | [], _ => rfl
  | v :: vs, h => by
    have h1 : j ≠ v := fun z => h (by rw [z]; exact List.mem_cons_self)
    have h2 : j ∉ vs := fun z => h (List.mem_cons_of_mem _ z)
    unfold L2.wipe
    rw [wipe_far h2, List.set_comm _ _ h1]
theorem wipe_set {σ : St} {j : Nat} {o : Option V} : ∀ {vs : List Nat}, j ∈ vs → L2.wipe (σ.set j o) vs = L2.wipe σ vs
  | [], h => (nomatch h)
  | v :: vs, h => by
    unfold L2.wipe
    by_cases hj : j ∈ vs
    · rw [wipe_set hj]
    · have e : j = v := by
        rcases List.mem_cons.mp h with z | z
        · exact z
        · exact absurd z hj
      subst e
      rw [wipe_far hj, List.set_set]
theorem wipe_wipe {σ : St} {vs : List Nat} : ∀ {us : List Nat}, (∀ u ∈ us, u ∈ vs) → L2.wipe (L2.wipe σ us) vs = L2.wipe σ vs
  | [], _ => rfl
  | u :: us, h => by
    show L2.wipe ((L2.wipe σ us).set u none) vs = _
    rw [wipe_set (h u List.mem_cons_self), wipe_wipe fun w hw => h w (List.mem_cons_of_mem _ hw)]
def TGo (K : PySem.W.Frag) (vs : List Nat) (g0 : TG) (g : GM) : Prop := ∀ (v : V) (σ : St) (H : Hp) (Q : St → Hp → Prop) (μ : Mu) (st : Sto) (ρ : Rho) (p : PV), ER K H μ ρ σ → SR K μ st H → VR K H μ p v →
  PostG K (fun _ _ _ => False) (fun H μ ρ' σ' => ER K H μ ρ' σ' ∧ L2.wipe σ' vs = L2.wipe σ vs) Q μ H (g p ρ st) → g0 v σ H Q
theorem tgo_name {K : PySem.W.Frag} {vs : List Nat} {j : Nat} (h : j ∈ vs) : TGo K vs (gName j) (gN j) := fun v σ H Q μ st ρ p er sr rv q => q μ H _ (Gr.refl _ _) sr ⟨er.set rv j, wipe_set h⟩
def TGos (K : PySem.W.Frag) (vs : List Nat) (g0 : TGs) (g : GsM) : Prop := ∀ (us : List V) (σ : St) (H : Hp) (Q : St → Hp → Prop) (μ : Mu) (st : Sto) (ρ : Rho) (ps : List PV), ER K H μ ρ σ → SR K μ st H → VRs K H μ ps us →
  PostG K (fun _ _ _ => False) (fun H μ ρ' σ' => ER K H μ ρ' σ' ∧ L2.wipe σ' vs = L2.wipe σ vs) Q μ H (g ps ρ st) → g0 us σ H Q
theorem tgos_nil {K : PySem.W.Frag} {vs : List Nat} : TGos K vs gNil gsNil := fun us σ H Q μ st ρ ps er sr rv q => by
  cases ps with
  | nil => exact ⟨rv, q μ H σ (Gr.refl _ _) sr ⟨er, rfl⟩⟩
  | cons p ps => exact q.elim
theorem tgos_cons {K : PySem.W.Frag} {vs : List Nat} {g0 : TG} {g : GM} {r0 : TGs} {r : GsM} (h1 : TGo K vs g0 g) (h2 : TGos K vs r0 r) : TGos K vs (gCons g0 r0) (gsCons g r) := fun us σ H Q μ st ρ ps er sr rv q => by
  cases ps with
  | nil => exact q.elim
  | cons p ps =>
    obtain ⟨v, t, ev, rp, rt⟩ := (show ∃ v r, us = v :: r ∧ VR K H μ p v ∧ VRs K H μ ps r from rv)
    refine ⟨v, t, ev, h1 v σ H _ μ st ρ p er sr rp ?_⟩
    have z := PostG.bind (R' := fun H μ ρ' σ' => ER K H μ ρ' σ' ∧ L2.wipe σ' vs = L2.wipe σ vs) q
    exact (PostG.calm z).mono fun σ1 H1 ⟨μ1, st1, ρ1, g1, s1, ⟨e1, w1⟩, h3⟩ => h2 t σ1 H1 Q μ1 st1 ρ1 ps e1 s1 (VRs.mono g1 ps t rt) (by
      cases hr : r ps ρ1 st1 with
      | ok a st' =>
        have h3' := h3
        rw [hr] at h3'
        exact fun μ2 H2 σ2 g2 s2 ⟨e2, w2⟩ => h3' μ2 H2 σ2 g2 s2 ⟨e2, w2.trans w1⟩
      | err x st' => have h3' := h3; rw [hr] at h3'; exact h3'
      | bad => have h3' := h3; rw [hr] at h3'; exact h3'.elim)
theorem tgo_tup {K : PySem.W.Frag} {vs : List Nat} {n : Nat} {r0 : TGs} {r : GsM} (h : TGos K vs r0 r) : TGo K vs (gTup K n r0) (gT n r) := fun v σ H Q μ st ρ p er sr rv q => by
  cases p with
  | tup xs =>
    obtain ⟨a, ws, ev, ta, rs⟩ := tup_at rv
    have q' : PostG K (fun _ _ _ => False) (fun H μ ρ' σ' => ER K H μ ρ' σ' ∧ L2.wipe σ' vs = L2.wipe σ vs) Q μ H ((if xs.length = n then M.calm (r xs ρ) else M.fail) st) := q
    by_cases hx : xs.length = n
    · rw [if_pos hx] at q'
      exact ⟨a, ws, ev, ta.sq, by rw [← VRs.length rs]; exact hx, h ws σ H Q μ st ρ xs er sr rs (PostG.calm q')⟩
    · rw [if_neg hx] at q'
      exact q'.elim
  | _ => exact q.elim
def lcL (g : GM) (t : Rho → M Bool) (e : Rho → M PV) (ρ0 : Rho) : List PV → List PV → M (List PV)
  | [], acc => M.ret acc
  | p :: ps, acc => M.bind (M.calm (g p ρ0)) fun ρ1 => M.bind (M.calm (t ρ1)) fun c => if c = true then M.bind (M.calm (e ρ1)) fun y => if acc.length < SZ then lcL g t e ρ0 ps (acc ++ [y]) else M.fail else lcL g t e ρ0 ps acc
def Mu.bar (μ : Mu) (D : Addr) : Mu := ⟨μ.l, D :: μ.b⟩
theorem gv_bar {μ : Mu} {H : Hp} {D : Addr} {va : List V} (hb : D ∈ μ.b) : Gv μ H μ (upd H D (.lst va)) := ⟨⟨[], by simp⟩, fun a o e _ n => ⟨by rw [upd_ne (fun z => n (by rw [z]; exact .inr hb))]; exact e, n⟩⟩
theorem sr_bar {K : PySem.W.Frag} {μ : Mu} {st : Sto} {H : Hp} {D : Addr} {va : List V} (hb : D ∈ μ.b) (s : SR K μ st H) : SR K μ st (upd H D (.lst va)) := by
  have nD := (s.ban D hb).1
  refine ⟨s.len, s.nd, fun a m => ⟨(s.ban a m).1, ?_⟩, fun n c a e1 e2 => (s.cell n c a e1 e2).monov (gv_bar hb) (upd_ne (fun z => nD (by rw [← z]; exact List.mem_of_getElem? e2)))⟩
  by_cases ha : a = D
  · rw [ha]; exact ⟨_, upd_same⟩
  · rw [upd_ne ha]; exact (s.ban a m).2
theorem M.bind_assoc {α β γ : Type} (m : M α) (f : α → M β) (k : β → M γ) : M.bind (M.bind m f) k = M.bind m fun a => M.bind (f a) k := by
  funext st
  unfold M.bind
  cases m st <;> rfl
def Mu.unbar (μ : Mu) (D : Addr) : Mu := ⟨μ.l, μ.b.filter fun a => decide (a ≠ D)⟩
theorem unbar_b {μ : Mu} {D a : Addr} : a ∈ (μ.unbar D).b ↔ a ∈ μ.b ∧ a ≠ D := by
  show a ∈ μ.b.filter _ ↔ _
  rw [List.mem_filter]
  simp
theorem not_unbar {μ : Mu} {D a : Addr} (h : a ∉ μ) : a ∉ μ.unbar D := fun m => by
  rcases m with m | m
  · exact h (.inl m)
  · exact h (.inr (unbar_b.mp m).1)
theorem gv_unbar {μ : Mu} {H : Hp} {D : Addr} : Gv μ H (μ.unbar D) H := ⟨⟨[], by simp [Mu.unbar]⟩, fun a o e _ n => ⟨e, not_unbar n⟩⟩
theorem sr_unbar {K : PySem.W.Frag} {μ : Mu} {st : Sto} {H : Hp} {D : Addr} (s : SR K μ st H) : SR K (μ.unbar D) st H :=
  ⟨s.len, s.nd, fun a m => s.ban a (unbar_b.mp m).1, fun n c a e1 e2 => (s.cell n c a e1 e2).monov gv_unbar rfl⟩
theorem gr_unbar {K : PySem.W.Frag} {μ0 μ : Mu} {st0 : Sto} {H0 H : Hp} {D : Addr} (s0 : SR K μ0 st0 H0) (hD : H0 D = none) (g : Gr μ0 H0 μ H) : Gr μ0 H0 (μ.unbar D) H := by
  refine ⟨g.pre, fun a m => unbar_b.mpr ⟨g.ban a m, fun z => ?_⟩, fun a m => g.bnew a (unbar_b.mp m).1, g.new, g.keep⟩
  subst z
  obtain ⟨o, e⟩ := (s0.ban _ m).2
  rw [hD] at e; cases e
theorem gv_open {μ : Mu} {H : Hp} {D : Addr} (hb : D ∈ μ.b) : Gv μ H ((μ.unbar D).add D) H := ⟨⟨[D], rfl⟩, fun a o e _ n => ⟨e, fun m => by
  rcases m with m | m
  · rcases List.mem_append.mp m with m | m
    · exact n (.inl m)
    · rw [List.mem_singleton.mp m] at n; exact n (.inr hb)
  · exact n (.inr (unbar_b.mp m).1)⟩⟩
theorem sr_open {K : PySem.W.Frag} {μ : Mu} {st : Sto} {H : Hp} {D : Addr} {acc : List PV} {va : List V} (s : SR K μ st H) (hb : D ∈ μ.b) (hd : H D = some (.lst va)) (r : VRs K H μ acc va) : SR K ((μ.unbar D).add D) (st ++ [.lst acc]) H := by
  have nD := (s.ban D hb).1
  refine ⟨by simp [Mu.add, Mu.unbar, s.len], ?_, fun a m => ?_, fun n d a e1 e2 => ?_⟩
  · refine List.nodup_append.mpr ⟨s.nd, by simp, fun a ha b hb => ?_⟩
    rw [List.mem_singleton.mp hb]
    rintro rfl
    exact nD ha
  · obtain ⟨m1, m2⟩ := unbar_b.mp m
    refine ⟨fun z => ?_, (s.ban a m1).2⟩
    rcases List.mem_append.mp z with z | z
    · exact (s.ban a m1).1 z
    · exact m2 (List.mem_singleton.mp z)
  · have e2 : (μ.l ++ [D])[n]? = some a := e2
    by_cases hn : n < st.length
    · rw [List.getElem?_append_left hn] at e1
      rw [List.getElem?_append_left (by rw [s.len]; exact hn)] at e2
      exact (s.cell n d a e1 e2).monov (gv_open hb) rfl
    · rw [List.getElem?_append_right (by omega)] at e1
      rw [List.getElem?_append_right (by rw [s.len]; omega), s.len] at e2
      have e0 : n - st.length = 0 := by
        have := (List.getElem?_eq_some_iff.mp e1).1
        simp at this
        omega
      rw [e0] at e1 e2
      simp at e1 e2
      subst e1 e2
      exact ⟨va, hd, VRs.monov (gv_open hb) _ _ r⟩
theorem gr_open {K : PySem.W.Frag} {μ0 μ : Mu} {st0 : Sto} {H0 H : Hp} {D : Addr} (s0 : SR K μ0 st0 H0) (hD : H0 D = none) (g : Gr μ0 H0 μ H) : Gr μ0 H0 ((μ.unbar D).add D) H := by
  have u := gr_unbar s0 hD g
  obtain ⟨t, e⟩ := g.pre
  refine ⟨⟨t ++ [D], by show μ.l ++ [D] = _; rw [e, List.append_assoc]⟩, u.ban, u.bnew, fun a m => ?_, g.keep⟩
  rcases List.mem_append.mp m with m | m
  · exact g.new a m
  · rw [List.mem_singleton.mp m]; exact .inr hD
def lcV (acc : List PV) : M PV := M.ret (.lst acc)
def lcN (acc : List PV) : M PV := fun st => .ok (.loc st.length) (st ++ [.lst acc])
def LcEnd (K : PySem.W.Frag) (k : List PV → M PV) : Prop := ∀ (μ0 μ : Mu) (st0 st : Sto) (H0 H : Hp) (D : Addr) (acc : List PV) (va : List V) (E : XK) (Q : VK), SR K μ0 st0 H0 → H0 D = none → Gr μ0 H0 μ H → SR K μ st H → D ∈ μ.b → H D = some (.lst va) → VRs K H μ acc va →
  PostG K E (VR K) Q μ0 H0 (k acc st) → Q (.ref D) H
theorem lcV_end {K : PySem.W.Frag} : LcEnd K lcV := fun μ0 μ st0 st H0 H D acc va E Q s0 hD g s hb hd r h =>
  h _ H _ (gr_unbar s0 hD g) (sr_unbar s) (show ∃ a vs, V.ref D = .ref a ∧ LstAt H (μ.unbar D) a vs ∧ VRs K H (μ.unbar D) acc vs from ⟨D, va, rfl, ⟨hd, fun m => by
    rcases m with m | m
    · exact (s.ban D hb).1 m
    · exact (unbar_b.mp m).2 rfl⟩, VRs.monov gv_unbar _ _ r⟩)
theorem lcN_end {K : PySem.W.Frag} : LcEnd K lcN := fun μ0 μ st0 st H0 H D acc va E Q s0 hD g s hb hd r h =>
  h _ H _ (gr_open s0 hD g) (sr_open s hb hd r) (show ∃ a, V.ref D = .ref a ∧ ((μ.unbar D).add D).l[st.length]? = some a from ⟨D, rfl, by
    show (μ.l ++ [D])[st.length]? = some D
    rw [← s.len]; simp⟩)
abbrev W0 : WX := fun _ _ _ _ => False
theorem lc_imp {K : PySem.W.Frag} {E : XK} {Q : VK} {J : It} {ps : List PV} {g0 : TG} {g : GM} {t : Rho → M Bool} {e : Rho → M PV} {k : List PV → M PV} {vs : List Nat} {μ : Mu} {H : Hp} {σ : St} {ρ : Rho} {st : Sto} {D : Addr} (su : Sup K J ps μ H) (er : ER K H μ ρ σ) (sr : SR K μ st H) (tg : TGo K vs g0 g) (le : LcEnd K k)
    (hD : H D = none) (h : PostG K E (VR K) Q μ H (M.bind (lcL g t e (wipeP ρ vs) ps []) k st)) :
    ∃ V : Nat → Nat → Hp → Prop, (∃ m, V 0 m (upd H D (.lst []))) ∧ ∀ i m H, V i m H →
      (J.stop i H ∧ Q (.ref D) H) ∨ (J.go i H ∧ ∃ Nx : Hp → Prop, (∀ H', Nx H' → ∃ m', m' < m ∧ V (i + 1) m' H') ∧ ∀ x H', J.yld i H x H' → g0 x (L2.wipe σ vs) H' fun σ2 H2 => L2.wipe σ2 vs = L2.wipe σ vs ∧ tMT K W0 t σ2 H2 fun b H3 =>
        if b = true then tM K W0 e σ2 H3 fun y H4 => ∃ acc, H4 D = some (.lst acc) ∧ acc.length < sizeLine ∧ Nx (upd H4 D (.lst (acc ++ [y]))) else Nx H3) := by
  let P : Nat → Hp → Prop := fun i H' => ∃ μ' st' acc va, Gr μ H μ' H' ∧ SR K μ' st' H' ∧ D ∈ μ'.b ∧ H' D = some (.lst va) ∧ VRs K H' μ' acc va ∧ PostG K E (VR K) Q μ H (M.bind (lcL g t e (wipeP ρ vs) (ps.drop i) acc) k st')
  refine ⟨fun i m H' => m = ps.length - i ∧ i ≤ ps.length ∧ P i H', ⟨ps.length, by simp, Nat.zero_le _, ?_⟩, ?_⟩
  · have gb : Gr μ H (μ.bar D) (upd H D (.lst [])) := ⟨⟨[], by simp [Mu.bar]⟩, fun a m => List.mem_cons_of_mem _ m, fun a m => by
      rcases List.mem_cons.mp m with z | z
      · rw [z]; exact .inr hD
      · exact .inl z, fun a m => .inl m, fun a o q _ => by rw [upd_ne (ne_of_none q hD)]; exact q⟩
    refine ⟨μ.bar D, st, [], [], gb, ?_, List.mem_cons_self, upd_same, rfl, by rw [List.drop_zero]; exact h⟩
    refine ⟨sr.len, sr.nd, fun a m => ?_, fun n c a e1 e2 => (sr.cell n c a e1 e2).mono gb (upd_ne fun z => ?_)⟩
    · rcases List.mem_cons.mp m with z | z
      · subst z
        exact ⟨fun q => sr.free hD (.inl q), _, upd_same⟩
      · obtain ⟨n1, o, q⟩ := sr.ban a z
        exact ⟨n1, o, by rw [upd_ne (ne_of_none q hD)]; exact q⟩
    · obtain ⟨u, q⟩ := (sr.cell n c a e1 e2).has
      rw [z, hD] at q; cases q
  · rintro i m H1 ⟨rfl, hi, μ1, st1, acc, va, g1, s1, b1, d1, r1, h1⟩
    by_cases hlt : i < ps.length
    · have hp : ps[i]? = some ps[i] := by simp [hlt]
      obtain ⟨go, yl⟩ := (su μ1 H1 st1 g1 s1).1 i ps[i] hp
      refine .inr ⟨go, P (i + 1), fun H' q => ⟨ps.length - (i + 1), by omega, rfl, hlt, q⟩, fun x H2 y => ?_⟩
      obtain ⟨g2, s2, rx⟩ := yl x H2 y
      have gg2 := g1.trans g2 fun a m => (s2.ban a m).1
      rw [List.drop_eq_getElem_cons hlt] at h1
      unfold lcL at h1
      rw [M.bind_assoc] at h1
      refine tg x _ H2 _ μ1 st1 _ ps[i] ((er.mono gg2).wipe vs) s2 rx ((PostG.calm (PostG.bindAt h1 gg2)).mono fun σ3 H3 ⟨μ3, st3, ρ3, g3, s3, ⟨e3, w3⟩, h3⟩ => ⟨w3.trans (wipe_wipe fun _ z => z), ?_⟩)
      have gg3 := gg2.trans g3 fun a m => (s3.ban a m).1
      rw [M.bind_assoc] at h3
      refine ⟨μ3, st3, ρ3, e3, s3, (PostG.calm (PostG.bindAt h3 gg3)).mono fun c H4 ⟨μ4, st4, c', g4, s4, ec, h4⟩ => ?_⟩
      subst ec
      have gg4 := gg3.trans g4 fun a m => (s4.ban a m).1
      have keepD : ∀ {μa μb : Mu} {Ha Hb : Hp} {sa : Sto} {w : List V}, Gr μa Ha μb Hb → SR K μa sa Ha → D ∈ μa.b → Ha D = some (.lst w) → Hb D = some (.lst w) := fun g s m q => g.keep D _ q (s.ban D m).1
      have d2 := keepD g2 s1 b1 d1
      have b2 := g2.ban D b1
      have d3 := keepD g3 s2 b2 d2
      have b3 := g3.ban D b2
      have d4 := keepD g4 s3 b3 d3
      have b4 := g4.ban D b3
      have r4 : VRs K H4 μ4 acc va := VRs.mono g4 _ _ (VRs.mono g3 _ _ (VRs.mono g2 _ _ r1))
      cases c' with
      | false =>
        rw [if_neg Bool.false_ne_true] at h4 ⊢
        exact ⟨μ4, st4, acc, va, gg4, s4, b4, d4, r4, h4⟩
      | true =>
        rw [if_pos rfl] at h4 ⊢
        rw [M.bind_assoc] at h4
        refine ⟨μ4, st4, ρ3, e3.mono g4, s4, (PostG.calm (PostG.bindAt h4 gg4)).mono fun w H5 ⟨μ5, st5, py, g5, s5, rw5, h5⟩ => ?_⟩
        have gg5 := gg4.trans g5 fun a m => (s5.ban a m).1
        have d5 := keepD g5 s4 b4 d4
        have b5 := g5.ban D b4
        have r5 : VRs K H5 μ5 acc va := VRs.mono g5 _ _ r4
        by_cases hz : acc.length < SZ
        · rw [if_pos hz] at h5
          refine ⟨va, d5, by rw [← VRs.length r5, sz_eq]; exact hz, μ5, st5, acc ++ [py], va ++ [w], ?_, sr_bar b5 s5, b5, upd_same, VRs.monov (gv_bar b5) _ _ (VRs.append r5 (VRs.cons rw5 VRs.nil)), h5⟩
          exact ⟨gg5.pre, gg5.ban, gg5.bnew, gg5.new, fun a o q n => by rw [upd_ne (ne_of_none q hD)]; exact gg5.keep a o q n⟩
        · rw [if_neg hz] at h5
          exact h5.elim
    · have ei : i = ps.length := by omega
      subst ei
      rw [List.drop_length] at h1
      exact .inl ⟨(su μ1 H1 st1 g1 s1).2, le μ μ1 st st1 H H1 D acc va E Q sr hD g1 s1 b1 d1 r1 h1⟩
def eLc (k : List PV → M PV) (mi : Rho → M (List PV)) (g : GM) (t : Rho → M Bool) (e : Rho → M PV) (vs : List Nat) : Rho → M PV := fun ρ => M.bind (mi ρ) fun ps => M.bind (lcL g t e (wipeP ρ vs) ps []) k
def tYesM : Rho → M Bool := fun _ => M.ret true
def MTs (X : Cx) (W : WX) (ifs : List Expr) (m : Rho → M Bool) : Prop := PTs X ifs (tMT X.K W m)
section
variable {X : Cx} {W : WX}
theorem PTs.imp {ifs : List Expr} {t t' : TT} (h : PTs X ifs t) (i : ∀ σ H Q, t' σ H Q → t σ H Q) : PTs X ifs t' := ⟨fun pins s σ H Q I q => h.run pins s σ H Q I (i σ H Q q)⟩
theorem mts_nil : MTs X W [] tYesM := PTs.imp pts_nil fun σ H Q ⟨μ, st, ρ, er, sr, h⟩ => h μ H true (Gr.refl _ _) sr rfl
theorem mts_one {c : Expr} {m : Rho → M Bool} (h : MT X W c m) : MTs X W [c] m := pts_one h
theorem lc_tie {mi : Rho → M (List PV)} {g0 : TG} {g : GM} {t : Rho → M Bool} {e : Rho → M PV} {k : List PV → M PV} {vs : List Nat} (tg : TGo X.K vs g0 g) (le : LcEnd X.K k) : ∀ σ H Q, tM X.K W (eLc k mi g t e vs) σ H Q → tLc (tMI X.K W mi) g0 (tMT X.K W0 t) (tM X.K W0 e) vs σ H Q :=
  fun σ H Q ⟨μ, st, ρ, er, sr, h⟩ => ⟨μ, st, ρ, er, sr, (PostG.bind h).mono fun J H1 ⟨μ1, st1, ps, g1, s1, su, h1⟩ D hD => lc_imp su (er.mono g1) s1 tg le hD h1⟩
theorem me_lc {elt tgt iter : Expr} {ifs : List Expr} {scope : Scope} {own : List (Str × Nat)} {pos : Pos} {mi : Rho → M (List PV)} {g0 : TG} {g : GM} {t : Rho → M Bool} {e : Rho → M PV} {k : List PV → M PV} (hc : X.calm = true) (hN : X.N.Nodup) (hi : MI X W tgt iter mi) (ok : BlkOk X.N X.env.scope scope own) (tg : TGo X.K (own.map (·.2)) g0 g) (le : LcEnd X.K k)
    (hg : ∀ (s : Shared) (H : Hp) (C : Addr) (cl : List (Str × Addr)) (fp : List Addr), PG (X.blk s H scope (compEnvC scope cl C X.env) fp) tgt g0)
    (ht : ∀ (s : Shared) (H : Hp) (C : Addr) (cl : List (Str × Addr)) (fp : List Addr), MTs (X.blk s H scope (compEnvC scope cl C X.env) fp) W0 ifs t)
    (he : ∀ (s : Shared) (H : Hp) (C : Addr) (cl : List (Str × Addr)) (fp : List Addr), ME (X.blk s H scope (compEnvC scope cl C X.env) fp) W0 elt e) (hs : ∀ x, foldedSetIterable iter X.env x = pure x := by intro _; kernel_rfl) :
    ME X W (.ListComp elt [⟨tgt, iter, ifs, 0⟩] scope pos) (eLc k mi g t e (own.map (·.2))) := PE.imp (pe_lc (tt := tMT X.K W0 t) (te := tM X.K W0 e) hc hN hi ok hg ht he hs) (lc_tie tg le)
theorem ms_setLc {i : Nat} {y : Str} {py spos : Pos} {elt tgt iter : Expr} {ifs : List Expr} {scope : Scope} {own : List (Str × Nat)} {pos : Pos} {mi : Rho → M (List PV)} {g0 : TG} {g : GM} {t : Rho → M Bool} {e : Rho → M PV} {k : List PV → M PV} (hc : X.calm = true) (hN : X.N.Nodup) (hy : X.N[i]? = some y) (hyl : X.env.scope.names.lookup y = some .local)
    (hsw : swapsWith (.ListComp elt [⟨tgt, iter, ifs, 0⟩] scope pos) (some (.Name y py)) spos.line X.env = pure true) (hi : MI X W tgt iter mi) (ok : BlkOk X.N X.env.scope scope own) (tg : TGo X.K (own.map (·.2)) g0 g) (le : LcEnd X.K k)
    (hg : ∀ (s : Shared) (H : Hp) (C : Addr) (cl : List (Str × Addr)) (fp : List Addr), PG (X.blk s H scope (compEnvC scope cl C X.env) fp) tgt g0)
    (ht : ∀ (s : Shared) (H : Hp) (C : Addr) (cl : List (Str × Addr)) (fp : List Addr), MTs (X.blk s H scope (compEnvC scope cl C X.env) fp) W0 ifs t)
    (he : ∀ (s : Shared) (H : Hp) (C : Addr) (cl : List (Str × Addr)) (fp : List Addr), ME (X.blk s H scope (compEnvC scope cl C X.env) fp) W0 elt e) (hs : ∀ x, foldedSetIterable iter X.env x = pure x := by intro _; kernel_rfl) :
    MS X W (.Assign [.Name y py] (.ListComp elt [⟨tgt, iter, ifs, 0⟩] scope pos) spos) (sSet i (eLc k mi g t e (own.map (·.2)))) := PS.imp (ps_setLc (tt := tMT X.K W0 t) (te := tM X.K W0 e) hc hN hy hyl hsw hi ok hg ht he hs) fun D σ H ⟨μ, st, ρ, er, sr, h⟩ =>
      lc_tie tg le σ H _ ⟨μ, st, ρ, er, sr, (PostS.onErr h er).mono fun u H1 ⟨μ1, st1, x, g1, s1, rx, h1⟩ => h1 μ1 H1 _ (Gr.refl _ _) s1 ((er.mono g1).set rx i)⟩
end
end MP

set_option maxRecDepth 100000
set_option maxHeartbeats 1000000
namespace MP
open PySem L2
section
variable {X : Cx} {W : WX} {e : Expr} {pos : Pos} {me : Rho → M PV}
theorem ms_s {i : Nat} {x : Str} {pos' : Pos} (hN : X.N.Nodup) (he : ME X W e me) (hi : X.N[i]? = some x := by kernel_rfl) (hx : Loc X.env.scope x := by first | exact Or.inl rfl | exact Or.inr rfl) (hs : swapsWith e (some (.Name x pos')) pos.line X.env = pure false := by kernel_rfl)
    (hf : X.fn x = true ∨ X.env.scope.names.lookup x = some .local := by first | exact .inl rfl | exact .inr rfl) : MS X W (.Assign [.Name x pos'] e pos) (sSet i me) := ms_set hN hi hx he hs hf
theorem mg_n {i : Nat} {x : Str} (hN : X.N.Nodup) (hi : X.N[i]? = some x := by kernel_rfl) (hx : Loc X.env.scope x := by first | exact Or.inl rfl | exact Or.inr rfl) (hf : X.fn x = true ∨ X.env.scope.names.lookup x = some .local := by first | exact .inl rfl | exact .inr rfl) : MG X W (.Name x pos) (gN i) := mg_name hN hi hx hf
theorem pg_n {i : Nat} {x : Str} (hN : X.N.Nodup) (hi : X.N[i]? = some x := by kernel_rfl) (hx : Loc X.env.scope x := by first | exact Or.inl rfl | exact Or.inr rfl) (hf : X.fn x = true ∨ X.env.scope.names.lookup x = some .local := by first | exact .inl rfl | exact .inr rfl) : PG X (.Name x pos) (gName i) := pg_name hN hi hx hf
def truM (x : PV) : M Bool := fun st => match x with
  | .non => .ok false st
  | .bl b => .ok b st
  | .int i => .ok (i != 0) st
  | .str z => if z.length ≤ SZ then .ok (!z.isEmpty) st else .bad
  | x => match seqOf x st with
    | some xs => .ok (!xs.isEmpty) st
    | none => match dctOf x st with
      | some kvs => .ok (!kvs.isEmpty) st
      | none => .bad
end
def tyC (T : String) (x : PV) : M Unit := fun st => match x with
  | .str _ => if T = "str" then .ok () st else .bad
  | x => match listOf x st with
    | some _ => if T = "list" then .ok () st else .bad
    | none => match dctOf x st with
      | some _ => if T = "dict" then .ok () st else .bad
      | none => .bad
theorem tyC_at {K : PySem.W.Frag} {H : Hp} {μ : Mu} {st st' : Sto} {T : String} {x : PV} {v : V} (sr : SR K μ st H) (r : VR K H μ x v) (h : tyC T x st = .ok () st') : tyV K T v H ∧ st' = st := by
  have l : ∀ xs, listOf x st = some xs → (if T = "list" then (Res.ok () st) else Res.bad) = .ok () st' → tyV K T v H ∧ st' = st := by
    intro xs hl h
    obtain ⟨a, vs, rfl, h1, _⟩ := listOf_at sr r hl
    by_cases hT : T = "list"
    · rw [if_pos hT] at h
      cases h
      exact ⟨.inl ⟨hT, vs, SqL.of h1⟩, rfl⟩
    · rw [if_neg hT] at h
      cases h
  have d : ∀ kvs, dctOf x st = some kvs → (if T = "dict" then (Res.ok () st) else Res.bad) = .ok () st' → tyV K T v H ∧ st' = st := by
    intro kvs hl h
    obtain ⟨n, a, kv, _, rfl, _, _, h1, _⟩ := dctOf_at sr r hl
    by_cases hT : T = "dict"
    · rw [if_pos hT] at h
      cases h
      exact ⟨.inr (.inr (.inl ⟨hT, .inl ⟨kv, h1⟩⟩)), rfl⟩
    · rw [if_neg hT] at h
      cases h
  have dflt : (match listOf x st with
    | some _ => if T = "list" then Res.ok () st else Res.bad
    | none => match dctOf x st with
      | some _ => if T = "dict" then Res.ok () st else Res.bad
      | none => Res.bad) = .ok () st' → tyV K T v H ∧ st' = st := by
    intro h
    cases q : listOf x st with
    | some xs => rw [q] at h; exact l xs q h
    | none =>
      rw [q] at h
      dsimp only at h
      cases q2 : dctOf x st with
      | some kvs => rw [q2] at h; exact d kvs q2 h
      | none => rw [q2] at h; cases h
  cases x with
  | str z =>
    cases (show v = V.str ⟨z.toArray⟩ from r)
    unfold tyC at h
    dsimp only at h
    by_cases hT : T = "str"
    · rw [if_pos hT] at h
      cases h
      exact ⟨hT, rfl⟩
    · rw [if_neg hT] at h
      cases h
  | _ => exact dflt h
def eMeth (T : String) (f : PV → List PV → M PV) (mo : Rho → M PV) (ma : Rho → M (List PV)) : Rho → M PV := fun ρ => M.bind (mo ρ) fun o => M.bind (tyC T o) fun _ => M.bind (ma ρ) fun xs => f o xs
def TMe (K : PySem.W.Frag) (r : V → List V → Hp → VK → Prop) (f : PV → List PV → M PV) : Prop := ∀ (μ : Mu) (st : Sto) (H : Hp) (o : PV) (xs : List PV) (u : V) (us : List V) (E : XK) (Q : VK), SR K μ st H → VR K H μ o u → VRs K H μ xs us → PostG K E (VR K) Q μ H (f o xs st) → r u us H Q
section
variable {X : Cx} {W : WX} {o e : Expr} {es : List Expr} {name : Str} {apos cpos : Pos} {T id : String} {r : V → List V → Hp → VK → Prop} {f : PV → List PV → M PV} {mo : Rho → M PV} {ma : Rho → M (List PV)}
theorem meth_ty {μ : Mu} {st : Sto} {H : Hp} {x : PV} {v : V} {α β : Type} {E : XK} {R : Hp → Mu → α → β → Prop} {Q : β → Hp → Prop} {k : Unit → M α} (sr : SR X.K μ st H) (rx : VR X.K H μ x v) (h : PostG X.K E R Q μ H (M.bind (tyC T x) k st)) : tyV X.K T v H ∧ PostG X.K E R Q μ H (k () st) := by
  unfold M.bind at h
  cases q : tyC T x st with
  | ok a st' =>
    rw [q] at h
    obtain ⟨h1, rfl⟩ := tyC_at sr rx q
    exact ⟨h1, h⟩
  | err y st' =>
    exfalso
    unfold tyC at q
    repeat (first | split at q | cases q)
  | bad => rw [q] at h; exact h.elim
theorem me_meth (pa : PySem.PlainAttrs T) (slot : PySem.Slot T name id) (hty : typeOf (.builtin id) = pure (.type "method_descriptor")) (hm : MtR X id r) (t : TMe X.K r f) (ho : ME X W o mo) (ha : MA X W (e :: es) ma)
    (hbase : attributeBase o name X.env (eval o X.env) = eval o X.env := by kernel_rfl)
    (hfew : ((backTo cpos (starEach (e :: es) X.env)).all (fun x => !x.1) && (backToKw cpos (keywordEach [] X.env)).all (fun x => x.1.isSome)
      && decide ((e :: es).length + ([] : List Keyword).length + (if ([] : List Keyword).isEmpty then 0 else 1) < 30)) = true := by kernel_rfl)
    (hline : (apos.endLine == cpos.line) = true := by kernel_rfl) (hs : starEach (e :: es) X.env = (false, eval e X.env) :: starEach es X.env := by kernel_rfl) (hplain : (backTo cpos (starEach es X.env)).any (·.1) = false := by kernel_rfl) :
    ME X W (.Call (.Attribute o name apos) (e :: es) [] cpos) (eMeth T f mo ma) :=
  PE.imp (pe_bm pa slot hty hm ho ha hbase hfew hline hs hplain) fun σ H Q ⟨μ, st, ρ, er, sr, h⟩ => ⟨μ, st, ρ, er, sr, (PostG.bind h).mono fun u H1 ⟨μ1, st1, x, g1, s1, rx, h1⟩ => by
    obtain ⟨h2, h3⟩ := meth_ty s1 rx h1
    exact ⟨h2, μ1, st1, ρ, er.mono g1, s1, (PostG.bind h3).mono fun us H2 ⟨μ2, st2, xs, g2, s2, rxs, h4⟩ => t μ2 st2 H2 x xs u us _ Q s2 (VR.mono g2 x u rx) rxs h4⟩⟩
theorem me_meth0 (pa : PySem.PlainAttrs T) (slot : PySem.Slot T name id) (hty : typeOf (.builtin id) = pure (.type "method_descriptor")) (hm : MtR X id r) (t : TMe X.K r f) (ho : ME X W o mo)
    (hbase : attributeBase o name X.env (eval o X.env) = eval o X.env := by kernel_rfl) (hline : (apos.endLine == cpos.line) = true := by kernel_rfl) : ME X W (.Call (.Attribute o name apos) [] [] cpos) (eMeth T f mo aNil) :=
  PE.imp (pe_bm0 pa slot hty hm ho hbase hline) fun σ H Q ⟨μ, st, ρ, er, sr, h⟩ => ⟨μ, st, ρ, er, sr, (PostG.bind h).mono fun u H1 ⟨μ1, st1, x, g1, s1, rx, h1⟩ => by
    obtain ⟨h2, h3⟩ := meth_ty s1 rx h1
    exact ⟨h2, t μ1 st1 H1 x [] u [] _ Q s1 rx rfl h3⟩⟩
end
def lstCell (o : PV) (st : Sto) : Option (Nat × List PV) := match o with
  | .loc n => match st[n]? with
    | some (.lst xs) => some (n, xs)
    | _ => none
  | _ => none
theorem lstCell_at {K : PySem.W.Frag} {H : Hp} {μ : Mu} {st : Sto} {x : PV} {v : V} {n : Nat} {xs : List PV} (sr : SR K μ st H) (r : VR K H μ x v) (h : lstCell x st = some (n, xs)) : ∃ a vs, v = .ref a ∧ μ.l[n]? = some a ∧ H a = some (.lst vs) ∧ VRs K H μ xs vs := by
  cases x with
  | loc m =>
    obtain ⟨a, rfl, ha⟩ := loc_at r
    unfold lstCell at h
    dsimp only at h
    cases q : st[m]? with
    | none => rw [q] at h; cases h
    | some c =>
      rw [q] at h
      cases c with
      | lst ys =>
        cases h
        obtain ⟨vs, h1, h2⟩ := sr.cell n _ a q ha
        exact ⟨a, vs, rfl, ha, h1, h2⟩
      | dct kvs => cases h
      | ins C fs => cases h
  | _ => cases h
def appendM (o : PV) (xs : List PV) : M PV := fun st => match lstCell o st with
  | some (n, ys) => match xs with
    | [x] => if ys.length < SZ then .ok .non (st.set n (.lst (ys ++ [x]))) else .bad
    | _ => .bad
  | none => .bad
theorem t_append {K : PySem.W.Frag} : TMe K rAppend appendM := by
  intro μ st H o xs u us E Q sr ro rs h
  unfold appendM at h
  cases q : lstCell o st with
  | none => rw [q] at h; exact h.elim
  | some p =>
    obtain ⟨n, ys⟩ := p
    rw [q] at h
    dsimp only at h
    cases xs with
    | nil => exact h.elim
    | cons x t =>
      cases t with
      | cons y t => exact h.elim
      | nil =>
        dsimp only at h
        by_cases hz : ys.length < SZ
        · rw [if_pos hz] at h
          obtain ⟨a, vs, rfl, ha, h1, h2⟩ := lstCell_at sr ro q
          obtain ⟨w, rfl, rw'⟩ := one_of rs
          refine ⟨a, vs, w, rfl, rfl, h1, by rw [← VRs.length h2, sz_eq]; exact hz, ?_⟩
          exact h μ _ .non (gr_put ha) (sr.put ha ⟨_, upd_same, VRs.mono (gr_put ha) _ _ (VRs.append h2 (VRs.cons rw' VRs.nil))⟩) rfl
        · rw [if_neg hz] at h
          exact h.elim
def popM (o : PV) (xs : List PV) : M PV := fun st => match lstCell o st with
  | some (n, ys) => match xs with
    | [] => match ys[ys.length - 1]? with
      | some y => .ok y (st.set n (.lst ys.dropLast))
      | none => .bad
    | _ => .bad
  | none => .bad
theorem VRs.dropLast {K : PySem.W.Frag} {H : Hp} {μ : Mu} {ps : List PV} {vs : List V} (r : VRs K H μ ps vs) : VRs K H μ ps.dropLast vs.dropLast := by
  rw [List.dropLast_eq_take, List.dropLast_eq_take, VRs.length r]
  exact VRs.take _ r
theorem t_pop {K : PySem.W.Frag} : TMe K rPop popM := by
  intro μ st H o xs u us E Q sr ro rs h
  unfold popM at h
  cases q : lstCell o st with
  | none => rw [q] at h; exact h.elim
  | some p =>
    obtain ⟨n, ys⟩ := p
    rw [q] at h
    dsimp only at h
    cases xs with
    | cons x t => exact h.elim
    | nil =>
      dsimp only at h
      cases qy : ys[ys.length - 1]? with
      | none => rw [qy] at h; exact h.elim
      | some y =>
        rw [qy] at h
        obtain ⟨a, vs, rfl, ha, h1, h2⟩ := lstCell_at sr ro q
        obtain ⟨w, e, rw'⟩ := VRs.get h2 qy
        refine ⟨a, vs, w, rfl, rs, h1, by rw [← VRs.length h2]; exact e, ?_⟩
        exact h μ _ w (gr_put ha) (sr.put ha ⟨_, upd_same, VRs.mono (gr_put ha) _ _ (VRs.dropLast h2)⟩) (VR.mono (gr_put ha) _ _ rw')
section
variable {X : Cx} {W : WX} {o e : Expr} {apos cpos : Pos} {mo : Rho → M PV} {ma : Rho → M (List PV)}
theorem me_append (ho : ME X W o mo) (ha : MA X W [e] ma)
    (hbase : attributeBase o "append" X.env (eval o X.env) = eval o X.env := by kernel_rfl)
    (hfew : ((backTo cpos (starEach [e] X.env)).all (fun x => !x.1) && (backToKw cpos (keywordEach [] X.env)).all (fun x => x.1.isSome)
      && decide ([e].length + ([] : List Keyword).length + (if ([] : List Keyword).isEmpty then 0 else 1) < 30)) = true := by kernel_rfl)
    (hline : (apos.endLine == cpos.line) = true := by kernel_rfl) (hs : starEach [e] X.env = (false, eval e X.env) :: starEach [] X.env := by kernel_rfl) :
    ME X W (.Call (.Attribute o "append" apos) [e] [] cpos) (eMeth "list" appendM mo ma) :=
  me_meth PySem.F.plainAttrs_list PySem.F.slot_list_append PySem.F.type_list_append mt_append t_append ho ha hbase hfew hline hs rfl
theorem me_pop (ho : ME X W o mo) (hbase : attributeBase o "pop" X.env (eval o X.env) = eval o X.env := by kernel_rfl) (hline : (apos.endLine == cpos.line) = true := by kernel_rfl) :
    ME X W (.Call (.Attribute o "pop" apos) [] [] cpos) (eMeth "list" popM mo aNil) :=
  me_meth0 PySem.F.plainAttrs_list PySem.F.slot_list_pop PySem.F.type_list_pop mt_pop t_pop ho hbase hline
end
theorem FnOk.ex {P : Program} {w : World} {K : PySem.W.Frag} {mg : Str → Option Value} {base : Heap} {CX : CXT} {k : Nat} {f : Addr} {fd : FuncData} {ps : List Str} {sp : Nat → Sp} (F : ∀ n, FnOk P w K mg base CX k f fd ps (sp n)) : FnOk P w K mg base CX k f fd ps (fun vs H Q E => ∃ n, sp n vs H Q E) :=
  ⟨fun vs H Q E ⟨n, h⟩ => (F n).len vs H Q E h, fun A outer s H args us vs Q E hr he hb hv ⟨n, h⟩ => (F n).run A outer s H args us vs Q E hr he hb hv h⟩
theorem law_sp {K : PySem.W.Frag} {m : Nat → List PV → M PV} {ns : List Int} {n : Nat} {st : Sto} {H : Hp} {a : Addr} (hS : SqL K H a (ns.map V.int)) (h : m n [.frz (ns.map .int)] [] = .ok (.bl true) st) :
    ∃ n, spM K (m n) 1 [.ref a] H (fun v _ => v = .bl true) (fun _ _ _ => False) := by
  refine ⟨n, ⟨[], []⟩, [], [.frz (ns.map .int)], ⟨rfl, List.nodup_nil, fun a m => (nomatch m), fun n c a e => by simp at e⟩, VRs.cons ?_ VRs.nil, rfl, ?_⟩
  · refine (show ∃ b vs, V.ref a = .ref b ∧ FrzAt K H ⟨[], []⟩ b vs ∧ VRs K H ⟨[], []⟩ (ns.map .int) vs from ⟨a, _, rfl, ?_, VRs.ints⟩)
    rcases hS with hS | hS
    · exact .inl ⟨hS, fun m => by rcases m with m | m <;> exact (nomatch m)⟩
    · exact .inr hS
  · rw [h]
    exact fun μ' H' b g s r => r
theorem cx_false {P : Program} {w : World} (H : Hp) (s : Shared) (e : Value) (s' : Shared) (h : L2.CX P w [] H s (fun _ _ _ => False) e s') : False := by
  obtain ⟨_, _, _, _, _, _, _, _, _, _, _, _, z⟩ := h
  exact z.elim
end MP

set_option maxRecDepth 100000
set_option maxHeartbeats 1000000
namespace MP
open PySem L2
section
variable {X : Cx} {W : WX} {e a b c : Expr} {pos : Pos} {me : Rho → M PV}
theorem me_globI' {x : Str} {i : Int} (hg : Gl X x) (hm : ∃ t, X.mg x = some (.int i t)) (hd : (x == ("__debug__" : Str)) = false := by kernel_rfl) : ME X W (.Name x pos) (eC (.int i)) := let ⟨_, h⟩ := hm; me_globI hg h hd
theorem me_globS' {x : Str} {l : List Nat} (hg : Gl X x) (hm : ∃ t, X.mg x = some (.str ⟨l.toArray⟩ t)) (hd : (x == ("__debug__" : Str)) = false := by kernel_rfl) : ME X W (.Name x pos) (eC (.str l)) := let ⟨_, h⟩ := hm; me_globS hg h hd
def KV1 (K : PySem.W.Frag) (p : PV) (u : Value) : Prop := ∃ v, RelV v u ∧ ∀ H μ, VR K H μ p v
def KVs (K : PySem.W.Frag) : List PV → List Value → Prop
  | [], us => us = []
  | p :: ps, us => ∃ u t, us = u :: t ∧ KV1 K p u ∧ KVs K ps t
theorem KVs.vals {K : PySem.W.Frag} : ∀ {ps : List PV} {us : List Value}, KVs K ps us → ∃ vs, Vals vs us ∧ ∀ H μ, VRs K H μ ps vs
  | [], us, h => by have e : us = [] := h; subst e; exact ⟨[], .nil, fun _ _ => rfl⟩
  | p :: ps, us, h => by
    obtain ⟨u, t, rfl, ⟨v, r, hv⟩, ht⟩ := h
    obtain ⟨vs, r2, h2⟩ := KVs.vals ht
    exact ⟨v :: vs, .cons r r2, fun H μ => VRs.cons (hv H μ) (h2 H μ)⟩
def TupIn (K : PySem.W.Frag) (a : Addr) (ps : List PV) : Prop := ∃ (o : Obj) (its : List Value) (n : Nat), K.lookup a = some o ∧ o.cls = .type "tuple" ∧ o.data = .seq its.toArray n ∧ its.length ≤ SZ ∧ KVs K ps its
theorem TupIn.kt {K : PySem.W.Frag} {a : Addr} {ps : List PV} (h : TupIn K a ps) : ∃ vs, KT K a vs ∧ ∀ H μ, VRs K H μ ps vs := by
  obtain ⟨o, its, n, h1, h2, h3, h4, h5⟩ := h
  obtain ⟨vs, r, hv⟩ := KVs.vals h5
  exact ⟨vs, ⟨o, its.toArray, n, h1, h2, h3, by rw [List.size_toArray, sz_eq]; exact h4, by simpa using r⟩, hv⟩
theorem TupIn.val {K : PySem.W.Frag} {a : Addr} {ps : List PV} (h : TupIn K a ps) : KV1 K (.tup ps) (.ref a) := by
  obtain ⟨vs, kt, hv⟩ := h.kt
  exact ⟨.ref a, rfl, fun H μ => (show ∃ b ws, V.ref a = .ref b ∧ TupAt K H μ b ws ∧ VRs K H μ ps ws from ⟨a, vs, rfl, .inr kt, hv H μ⟩)⟩
def TupleAt (K : PySem.W.Frag) (mg : Str → Option Value) (x : Str) (ps : List PV) : Prop := ∃ a, mg x = some (.ref a) ∧ TupIn K a ps
theorem me_globT' {x : Str} {ps : List PV} (hg : Gl X x) (hm : TupleAt X.K X.mg x ps) (hd : (x == ("__debug__" : Str)) = false := by kernel_rfl) : ME X W (.Name x pos) (eC (.tup ps)) := by
  obtain ⟨a, h1, h2⟩ := hm
  obtain ⟨vs, kt, hv⟩ := h2.kt
  exact me_globT hg h1 kt hv hd
def RowsT (K : PySem.W.Frag) : List (List Nat × PV) → List DictEntry → Prop
  | [], es => es = []
  | p :: r, es => ∃ e t, es = e :: t ∧ (∃ tk, e.key = .str ⟨p.1.toArray⟩ tk) ∧ KV1 K p.2 e.val ∧ RowsT K r t
def TabIn (w : World) (K : PySem.W.Frag) (a : Addr) (tab : List (List Nat × PV)) : Prop := ∃ (es : List DictEntry) (n : Nat), K.lookup a = some ⟨.type "dict", none, .dict es.toArray n, #[]⟩ ∧ PySem.W.KeysLit w.params es ∧ (a == sysModules) = false ∧ RowsT K tab es
def TabAt (w : World) (K : PySem.W.Frag) (mg : Str → Option Value) (x : Str) (tab : List (List Nat × PV)) : Prop := ∃ a, mg x = some (.ref a) ∧ TabIn w K a tab
def lookT : List (List Nat × PV) → List Nat → Option PV
  | [], _ => none
  | p :: r, k => if p.1 = k then some p.2 else lookT r k
theorem RowsT.find {K : PySem.W.Frag} {z : List Nat} : ∀ {tab : List (List Nat × PV)} {es : List DictEntry}, RowsT K tab es → (lookT tab z = none → (es.find? fun e => Value.isStrOf ⟨z.toArray⟩ e.key) = none) ∧ ∀ p, lookT tab z = some p → ∃ e, (es.find? fun e => Value.isStrOf ⟨z.toArray⟩ e.key) = some e ∧ KV1 K p e.val
  | [], es, h => by have e : es = [] := h; subst e; exact ⟨fun _ => rfl, fun p q => (nomatch q)⟩
  | q :: r, es, h => by
    obtain ⟨e, t, rfl, ⟨tk, ek⟩, hv, hr⟩ := h
    obtain ⟨i1, i2⟩ := RowsT.find (z := z) hr
    have hk : Value.isStrOf ⟨z.toArray⟩ e.key = decide (q.1 = z) := by
      rw [ek]
      show ((⟨q.1.toArray⟩ : Str) == ⟨z.toArray⟩) = decide (q.1 = z)
      rw [Bool.eq_iff_iff]
      simp
    unfold lookT
    rw [List.find?_cons, hk]
    by_cases hq : q.1 = z
    · rw [if_pos hq, decide_eq_true hq]
      exact ⟨fun z => (nomatch z), fun p hp => by cases hp; exact ⟨e, rfl, hv⟩⟩
    · rw [if_neg hq, decide_eq_false hq]
      exact ⟨i1, i2⟩
def getTab (tab : List (List Nat × PV)) (x : PV) : M PV := match x with
  | .str z => M.ret ((lookT tab z).getD .non)
  | _ => M.fail
theorem me_getTab {x : Str} {tab : List (List Nat × PV)} {p apos : Pos} (hm : TabAt X.w X.K X.mg x tab) (he : ME X W e me) (hg : Gl X x := by exact gl_of (by kernel_rfl)) (hd : (x == ("__debug__" : Str)) = false := by kernel_rfl)
    (m : M1 X (.Name x p) "get" apos e pos := by exact ⟨by kernel_rfl, by kernel_rfl, by kernel_rfl, by kernel_rfl⟩) : ME X W (.Call (.Attribute (.Name x p) "get" apos) [e] [] pos) (eUn (getTab tab) me) := by
  obtain ⟨a, h1, es, n, hl, hk, low, rows⟩ := hm
  refine PE.imp (t := fun σ H Q => tM X.K W me σ H fun y H2 => ∃ z, y = .str z ∧ ∀ v, RelV v ((PySem.findBy Value.isStrOf es.toArray z).getD .none) → Q v H2) ⟨fun pins s σ H Q I h => ?_⟩ fun σ H Q ⟨μ, st, ρ, er, sr, h⟩ => ⟨μ, st, ρ, er, sr, (PostG.bind h).mono fun u H1 ⟨μ1, st1, y, g1, s1, ry, h1⟩ => ?_⟩
  · refine wpAny_Call_method m.base m.few m.line PySem.F.plainAttrs_dict PySem.F.slot_dict_get PySem.F.type_dict_get (ld_glob I hg h1 ?_ hd)
    have mp := PySem.W.mapOf_K (prog := X.prog) (w := X.w) I.kIn hl (by simpa using hk)
    refine ⟨mp.typeIs, fun b q => by cases q; exact ⟨_, I.kIn _ _ hl, rfl⟩, ?_⟩
    rw [m.trees]
    refine Calls.callWith_builtin rfl (Calls.evalArgs_plain (Calls.spliced_cons (thn (he.run pins s σ H _ I h) fun iv s2 ⟨y, H2, I2, ry, z, ey, q2⟩ => Calls.spliced_nil ?_)))
    subst ey
    obtain ⟨t, rfl⟩ := ry
    have mp2 := PySem.W.mapOf_K (prog := X.prog) (w := X.w) I2.kIn hl (by simpa using hk)
    refine call_meetsIn PySem.F.slot_dict_get mp2.typeIs PySem.F.entry_dict_get (PySem.F.args_dict_get_2 _ _) (meets_dict_get (strKind X.prog X.w) a (strKind_is X.prog X.w z t) low) ⟨_, mp2, ?_⟩
    have fr : ∃ v, RelV v ((PySem.findBy Value.isStrOf es.toArray z).getD .none) := by
      have q := RowsT.find (z := z.cps.toList) rows
      have ez : (⟨z.cps.toList.toArray⟩ : Str) = z := by simp
      rw [ez] at q
      unfold PySem.findBy
      rw [List.find?_toArray]
      cases hq : lookT tab z.cps.toList with
      | none => rw [q.1 hq]; exact ⟨.non, rfl⟩
      | some p =>
        obtain ⟨e, e1, v, r, _⟩ := q.2 p hq
        rw [e1]
        exact ⟨v, r⟩
    obtain ⟨v, rv⟩ := fr
    exact ⟨v, H2, I2.tok _, rv, q2 v rv⟩
  · cases y with
    | str z =>
      refine ⟨⟨z.toArray⟩, ry, fun v rv => ?_⟩
      have q := RowsT.find (z := z) rows
      unfold PySem.findBy at rv
      rw [List.find?_toArray] at rv
      have h2 : PostG X.K (fun c d H' => W c d σ H') (VR X.K) Q μ1 H1 (.ok ((lookT tab z).getD .non) st1) := h1
      cases hq : lookT tab z with
      | none =>
        rw [q.1 hq] at rv
        rw [hq] at h2
        have ev : v = .non := RelV.inj rv (show RelV .non Value.none from rfl)
        subst ev
        exact post_same h2 s1 rfl
      | some p =>
        obtain ⟨e, e1, v', r, hv⟩ := q.2 p hq
        rw [e1] at rv
        rw [hq] at h2
        have ev : v = v' := RelV.inj rv r
        subst ev
        exact post_same h2 s1 (hv H1 μ1)
    | _ => exact h1.elim
def eChain (f g : PV → PV → M PV) (ma mb mc : Rho → M PV) : Rho → M PV := fun ρ => M.bind (ma ρ) fun x => M.bind (mb ρ) fun y => M.bind (f x y) fun z => M.bind (asB z) fun k => if k = true then M.bind (mc ρ) fun w => g y w else M.ret (.bl false)
variable {ma mb mc : Rho → M PV} {f g : PV → PV → M PV} {r r' : R2}
theorem chain_imp (t : T2 X.K r f) (t' : T2 X.K r' g) : ∀ σ H Q, tM X.K W (eChain f g ma mb mc) σ H Q → tChain r r' (tM X.K W ma) (tM X.K W mb) (tM X.K W mc) σ H Q := fun σ H Q ⟨μ, st, ρ, er, sr, h⟩ =>
  ⟨μ, st, ρ, er, sr, (PostG.bind h).mono fun u H1 ⟨μ1, st1, x, g1, s1, rx, h1⟩ => ⟨μ1, st1, ρ, er.mono g1, s1, (PostG.bind h1).mono fun v H2 ⟨μ2, st2, y, g2, s2, ry, h2⟩ =>
    t μ2 st2 H2 x y u v (fun c d H' => W c d σ H') _ s2 (VR.mono g2 x u rx) ry ((PostG.bind (R' := VR X.K) h2).mono fun z H3 ⟨μ3, st3, z', g3, s3, rz, h3⟩ => by
      obtain ⟨k, e, h4⟩ := asB_bind rz h3
      refine ⟨k, e, ?_⟩
      cases k with
      | true =>
        rw [if_pos rfl] at h4 ⊢
        exact ⟨μ3, st3, ρ, ((er.mono g1).mono g2).mono g3, s3, (PostG.bind h4).mono fun w H4 ⟨μ4, st4, w', g4, s4, rw', h5⟩ => t' μ4 st4 H4 y w' v w _ Q s4 (VR.mono g4 y v (VR.mono g3 y v ry)) rw' h5⟩
      | false => rw [if_neg Bool.false_ne_true] at h4 ⊢; exact h4 μ3 H3 _ (Gr.refl _ _) s3 rfl)⟩⟩
theorem me_chain {op op' : CmpOp} (ho : OpR X (compareOp op) r) (t : T2 X.K r f) (ho' : OpR X (compareOp op') r') (t' : T2 X.K r' g) (ha : ME X W a ma) (hb : ME X W b mb) (hc : ME X W c mc) (hm : lastMarks [op, op'] [b, c] = false := by kernel_rfl) :
    ME X W (.Compare a [op, op'] [b, c] pos) (eChain f g ma mb mc) := PE.imp (pe_chain ho ho' ha hb hc hm) (chain_imp t t')
theorem mt_chain {op op' : CmpOp} (ho : OpR X (compareOp op) r) (t : T2 X.K r f) (ho' : OpR X (compareOp op') r') (t' : T2 X.K r' g) (ha : ME X W a ma) (hb : ME X W b mb) (hc : ME X W c mc) (hm : lastMarks [op, op'] [b, c] = false := by kernel_rfl) :
    MT X W (.Compare a [op, op'] [b, c] pos) (eB (eChain f g ma mb mc)) := PT.imp (pt_chain ho ho' ha hb hc hm) fun σ H Q h => chain_imp t t' σ H _ (test_imp (X := X) (W := W) (m := eChain f g ma mb mc) σ H Q h)
end
end MP

set_option maxRecDepth 100000
set_option maxHeartbeats 1000000
namespace MP
open PySem L2
section
variable {w : World} {K : PySem.W.Frag} {a : Addr}
theorem TabIn.of {es : Array DictEntry} {n : Nat} {tab : List (List Nat × PV)} (hl : K.lookup a = some ⟨.type "dict", none, .dict es n, #[]⟩) (hk : PySem.W.KeysLit w.params es.toList) (low : (a == sysModules) = false) (rows : RowsT K tab es.toList) : TabIn w K a tab := ⟨es.toList, n, by simpa using hl, hk, low, rows⟩
theorem RowsT.nil : RowsT K [] [] := rfl
theorem RowsT.row {s : String} {l : List Nat} {p : PV} {r : List (List Nat × PV)} {h : Int} {tk : Tok} {v : Value} {es : List DictEntry} (e : Str.ofString s = ⟨l.toArray⟩) (hv : KV1 K p v) (hr : RowsT K r es) : RowsT K ((l, p) :: r) (⟨h, .str (Str.ofString s) tk, v⟩ :: es) :=
  ⟨_, _, rfl, ⟨tk, by rw [e]⟩, hv, hr⟩
theorem KV1.non : KV1 K .non Value.none := ⟨.non, rfl, fun _ _ => rfl⟩
theorem KV1.bl {b : Bool} : KV1 K (.bl b) (Value.bool b) := ⟨.bl b, rfl, fun _ _ => rfl⟩
theorem KV1.int {i : Int} {t : Tok} : KV1 K (.int i) (Value.int i t) := ⟨.int i, ⟨t, rfl⟩, fun _ _ => rfl⟩
theorem KV1.str {l : List Nat} {s : String} {t : Tok} (e : Str.ofString s = ⟨l.toArray⟩) : KV1 K (.str l) (Value.str (Str.ofString s) t) := ⟨.str ⟨l.toArray⟩, ⟨t, by rw [e]⟩, fun _ _ => rfl⟩
theorem KVs.nil : KVs K [] [] := rfl
theorem KVs.cons {p : PV} {ps : List PV} {v : Value} {vs : List Value} (h : KV1 K p v) (r : KVs K ps vs) : KVs K (p :: ps) (v :: vs) := ⟨v, vs, rfl, h, r⟩
theorem TupIn.of {its : Array Value} {n : Nat} {dd : Option Addr} {sl : Array (Option Value)} {ps : List PV} (hl : K.lookup a = some ⟨.type "tuple", dd, .seq its n, sl⟩) (hn : its.toList.length ≤ SZ) (hv : KVs K ps its.toList) : TupIn K a ps := ⟨_, its.toList, n, hl, rfl, by simp, hn, hv⟩
end
theorem def_okF {P : Program} {w : World} {K : PySem.W.Frag} {mg : Str → Option Value} {base : Heap} {x qual : Str} {st : Stmt} {f : Addr} {fd : FuncData} (N ps : List Str) {k kk nn : Nat} (m : Rho → M Fl) {g : List PV → M PV} (hg : g = runB m kk) (hN : N.length = kk) (hn : ps.length = nn) (F : Fun K x qual st f fd) (S : FnScope N ps (defScope st))
    (hb : ∀ (cdv : Value) (A : Around) (outer : List Env) (s : Shared) (H : Hp) (E : XK), Room k (A.deeper (PyProof.Rows.envOfC qual (defScope st) s.heap.objs.size f cdv)) →
      MSs (cxOf (L2.CX P w) P w K mg base N qual (defScope st) f cdv A outer s H E) (fun c d _ H => E c d H) (defBody st) m) :
    FnOk P w K mg base (L2.CX P w) (k + 1) f fd ps (spM K g nn) := by
  subst hg hN hn
  exact def_ok F S hb
end MP

set_option maxRecDepth 100000
set_option maxHeartbeats 1000000
namespace MP
open PySem L2
def strsOf : List PV → Option (List (List Nat))
  | [] => some []
  | .str z :: r => (strsOf r).map (z :: ·)
  | _ :: _ => none
theorem strsOf_at {K : PySem.W.Frag} {H : Hp} {μ : Mu} : ∀ {ps : List PV} {vs : List V} {zs : List (List Nat)}, VRs K H μ ps vs → strsOf ps = some zs → vs = (zs.map SX.S).map V.str
  | [], vs, zs, r, h => by cases h; exact r
  | p :: ps, vs, zs, r, h => by
    obtain ⟨v, t, rfl, r1, r2⟩ := (show ∃ v t, vs = v :: t ∧ VR K H μ p v ∧ VRs K H μ ps t from r)
    cases p with
    | str b =>
      unfold strsOf at h
      cases q : strsOf ps with
      | none => rw [q] at h; cases h
      | some cs =>
        rw [q] at h
        cases h
        cases (show v = V.str ⟨b.toArray⟩ from r1)
        rw [strsOf_at r2 q]
        rfl
    | _ => cases h
def joinM (o : PV) (xs : List PV) : M PV := fun st => match o with
  | .str a => match xs with
    | [x] => match seqOf x st with
      | some ys => match strsOf ys with
        | some zs => if (zs.map (·.length)).sum + zs.length * a.length ≤ SZ then .ok (.str (TL.joinL a zs)) st else .bad
        | none => .bad
      | none => .bad
    | _ => .bad
  | _ => .bad
theorem S_len (l : List Nat) : (SX.S l).length = l.length := by show l.toArray.size = _; simp
theorem t_join {K : PySem.W.Frag} : TMe K (fun x xs H Q => ∃ a p, ∃ ys : List Str, x = .str a ∧ xs = [.ref p] ∧ (SqL K H p (ys.map V.str) ∨ SqT K H p (ys.map V.str)) ∧
    (ys.map (·.length)).sum + ys.length * a.length ≤ 16777216 ∧ Q (.str (Txt.join a ys)) H) joinM := by
  intro μ st H o xs u us E Q sr ro rs h
  unfold joinM at h
  cases o with
  | str a =>
    cases (show u = V.str ⟨a.toArray⟩ from ro)
    cases xs with
    | nil => exact h.elim
    | cons x t =>
      cases t with
      | cons y t => exact h.elim
      | nil =>
        dsimp only at h
        obtain ⟨w, rfl, rx⟩ := one_of rs
        cases q : seqOf x st with
        | none => rw [q] at h; exact h.elim
        | some ys =>
          rw [q] at h
          dsimp only at h
          cases q2 : strsOf ys with
          | none => rw [q2] at h; exact h.elim
          | some zs =>
            rw [q2] at h
            dsimp only at h
            by_cases hz : (zs.map (·.length)).sum + zs.length * a.length ≤ SZ
            · rw [if_pos hz] at h
              obtain ⟨p, vs, rfl, hq, r⟩ := seqOf_at sr rx q
              have e := strsOf_at r q2
              subst e
              refine ⟨_, p, zs.map SX.S, rfl, rfl, hq, ?_, ?_⟩
              · rw [SX.lens, List.length_map]
                have e2 : (⟨a.toArray⟩ : Str).length = a.length := S_len a
                rw [e2]
                exact hz
              · have e3 : Txt.join (⟨a.toArray⟩ : Str) (zs.map SX.S) = SX.S (TL.joinL a zs) := SX.join_S a zs
                rw [e3]
                exact post_same h sr rfl
            · rw [if_neg hz] at h; exact h.elim
  | _ => exact h.elim
def splitM (o : PV) (xs : List PV) : M PV := fun st => match o with
  | .str a => match xs with
    | [.str b] => if (b.all (· < 256)) = true ∧ b ≠ [] ∧ a.length + 2 ≤ SZ then .ok (.lst ((TL.spl b 0 [] a).map .str)) st else .bad
    | _ => .bad
  | _ => .bad
theorem VRs.strs {K : PySem.W.Frag} {H : Hp} {μ : Mu} : ∀ zs : List (List Nat), VRs K H μ (zs.map .str) ((zs.map SX.S).map V.str)
  | [] => rfl
  | z :: zs => VRs.cons rfl (VRs.strs zs)
theorem t_split {K : PySem.W.Frag} : TMe K (fun x xs H Q => ∃ a b, x = .str a ∧ xs = [.str b] ∧ (b.length == 0) = false ∧ a.length + 2 ≤ sizeLine ∧ rNewStrs (Txt.split a b) H Q) splitM := by
  intro μ st H o xs u us E Q sr ro rs h
  unfold splitM at h
  cases o with
  | str a =>
    cases (show u = V.str ⟨a.toArray⟩ from ro)
    cases xs with
    | nil => exact h.elim
    | cons x t =>
      cases t with
      | cons y t => cases x <;> exact h.elim
      | nil =>
        obtain ⟨w, rfl, rx⟩ := one_of rs
        cases x with
        | str b =>
          cases (show w = V.str ⟨b.toArray⟩ from rx)
          dsimp only at h
          by_cases hz : (b.all (· < 256)) = true ∧ b ≠ [] ∧ a.length + 2 ≤ SZ
          · rw [if_pos hz] at h
            refine ⟨_, _, rfl, rfl, ?_, ?_, fun p hp => ?_⟩
            · show (b.toArray.size == 0) = false
              rw [List.size_toArray]
              cases b with
              | nil => exact absurd rfl hz.2.1
              | cons c r => rfl
            · show a.toArray.size + 2 ≤ sizeLine
              rw [List.size_toArray, sz_eq]
              exact hz.2.2
            · have e3 : Txt.split (⟨a.toArray⟩ : Str) ⟨b.toArray⟩ = (TL.spl b 0 [] a).map SX.S := SX.split_S hz.2.1 hz.1
              rw [e3]
              exact post_lst sr (VRs.strs _) hp h
          · rw [if_neg hz] at h; exact h.elim
        | _ => exact h.elim
  | _ => exact h.elim
def insertM (o : PV) (xs : List PV) : M PV := fun st => match lstCell o st with
  | some (n, ys) => match xs with
    | [.int i, x] => if ys.length < SZ ∧ 0 ≤ i ∧ i < 4611686018427387904 then .ok .non (st.set n (.lst (ys.take i.toNat ++ [x] ++ ys.drop i.toNat))) else .bad
    | _ => .bad
  | none => .bad
theorem t_insert {K : PySem.W.Frag} : TMe K (fun x vs H Q => ∃ (l : Addr) (xs : List V) (i : Int) (y : V), x = .ref l ∧ vs = [.int i, y] ∧ H l = some (.lst xs) ∧ xs.length < sizeLine ∧ 0 ≤ i ∧ i < 2 ^ 63 ∧
    Q .non (upd H l (.lst (xs.take i.toNat ++ [y] ++ xs.drop i.toNat)))) insertM := by
  intro μ st H o xs u us E Q sr ro rs h
  unfold insertM at h
  cases q : lstCell o st with
  | none => rw [q] at h; exact h.elim
  | some p =>
    obtain ⟨n, ys⟩ := p
    rw [q] at h
    dsimp only at h
    split at h
    · rename_i i x
      by_cases hz : ys.length < SZ ∧ 0 ≤ i ∧ i < 4611686018427387904
      · rw [if_pos hz] at h
        obtain ⟨a, vs, rfl, ha, h1, h2⟩ := lstCell_at sr ro q
        obtain ⟨v, w, rfl, rv, rw'⟩ := two_of rs
        cases (show v = V.int i from rv)
        refine ⟨a, vs, i, w, rfl, rfl, h1, by rw [← VRs.length h2, sz_eq]; exact hz.1, hz.2.1, by omega, ?_⟩
        exact h μ _ .non (gr_put ha) (sr.put ha ⟨_, upd_same, VRs.mono (gr_put ha) _ _ (VRs.append (VRs.append (VRs.take _ h2) (VRs.cons rw' VRs.nil)) (VRs.drop _ h2))⟩) rfl
      · rw [if_neg hz] at h; exact h.elim
    · exact h.elim
section
variable {X : Cx} {W : WX} {o e e2 : Expr} {apos cpos : Pos} {mo : Rho → M PV} {ma : Rho → M (List PV)}
theorem me_join (ho : ME X W o mo) (ha : MA X W [e] ma)
    (hbase : attributeBase o "join" X.env (eval o X.env) = eval o X.env := by kernel_rfl)
    (hfew : ((backTo cpos (starEach [e] X.env)).all (fun x => !x.1) && (backToKw cpos (keywordEach [] X.env)).all (fun x => x.1.isSome)
      && decide ([e].length + ([] : List Keyword).length + (if ([] : List Keyword).isEmpty then 0 else 1) < 30)) = true := by kernel_rfl)
    (hline : (apos.endLine == cpos.line) = true := by kernel_rfl) (hs : starEach [e] X.env = (false, eval e X.env) :: starEach [] X.env := by kernel_rfl) :
    ME X W (.Call (.Attribute o "join" apos) [e] [] cpos) (eMeth "str" joinM mo ma) :=
  me_meth PySem.F.plainAttrs_str PySem.F.slot_str_join PySem.F.type_str_join mt_join t_join ho ha hbase hfew hline hs rfl
theorem me_split (ho : ME X W o mo) (ha : MA X W [e] ma)
    (hbase : attributeBase o "split" X.env (eval o X.env) = eval o X.env := by kernel_rfl)
    (hfew : ((backTo cpos (starEach [e] X.env)).all (fun x => !x.1) && (backToKw cpos (keywordEach [] X.env)).all (fun x => x.1.isSome)
      && decide ([e].length + ([] : List Keyword).length + (if ([] : List Keyword).isEmpty then 0 else 1) < 30)) = true := by kernel_rfl)
    (hline : (apos.endLine == cpos.line) = true := by kernel_rfl) (hs : starEach [e] X.env = (false, eval e X.env) :: starEach [] X.env := by kernel_rfl) :
    ME X W (.Call (.Attribute o "split" apos) [e] [] cpos) (eMeth "str" splitM mo ma) :=
  me_meth PySem.F.plainAttrs_str PySem.F.slot_str_split PySem.F.type_str_split mt_split t_split ho ha hbase hfew hline hs rfl
theorem me_insert (ho : ME X W o mo) (ha : MA X W [e, e2] ma)
    (hbase : attributeBase o "insert" X.env (eval o X.env) = eval o X.env := by kernel_rfl)
    (hfew : ((backTo cpos (starEach [e, e2] X.env)).all (fun x => !x.1) && (backToKw cpos (keywordEach [] X.env)).all (fun x => x.1.isSome)
      && decide ([e, e2].length + ([] : List Keyword).length + (if ([] : List Keyword).isEmpty then 0 else 1) < 30)) = true := by kernel_rfl)
    (hline : (apos.endLine == cpos.line) = true := by kernel_rfl) (hs : starEach [e, e2] X.env = (false, eval e X.env) :: starEach [e2] X.env := by kernel_rfl) (hplain : (backTo cpos (starEach [e2] X.env)).any (·.1) = false := by kernel_rfl) :
    ME X W (.Call (.Attribute o "insert" apos) [e, e2] [] cpos) (eMeth "list" insertM mo ma) :=
  me_meth PySem.F.plainAttrs_list PySem.F.slot_list_insert PySem.F.type_list_insert mt_insert t_insert ho ha hbase hfew hline hs hplain
end
end MP

set_option maxRecDepth 100000
set_option maxHeartbeats 1000000
namespace MP
open PySem L2 PySem.Spec PyProof.Rows
def inTab (n : Bool) (tab : List (List Nat × PV)) (x : PV) : M PV := match x with
  | .str z => M.ret (.bl (ng n (lookT tab z).isSome))
  | _ => M.fail
def ixTab (tab : List (List Nat × PV)) (x : PV) : M PV := match x with
  | .str z => match lookT tab z with
    | some p => M.ret p
    | none => M.fail
  | _ => M.fail
theorem TabIn.isSome {w : World} {K : PySem.W.Frag} {tab : List (List Nat × PV)} {es : List DictEntry} (rows : RowsT K tab es) (z : List Nat) : (PySem.findBy Value.isStrOf es.toArray (⟨z.toArray⟩ : Str)).isSome = (lookT tab z).isSome := by
  have q := RowsT.find (z := z) rows
  unfold PySem.findBy
  rw [List.find?_toArray]
  cases hq : lookT tab z with
  | none => rw [q.1 hq]; rfl
  | some p => obtain ⟨e, e1, _⟩ := q.2 p hq; rw [e1]; rfl
section
variable {X : Cx} {W : WX} {e : Expr} {pos : Pos} {me : Rho → M PV} {x : Str} {tab : List (List Nat × PV)} {p : Pos}
theorem op_inTab {n : Bool} {op : CmpOp} (hop : op = if n = true then .NotIn else .In) {a : Addr} (h : TabIn X.w X.K a tab) : OpR X (compareOp op) (fun u v H Q => ∃ z, u = .str z ∧ v = .ref a ∧ Q (.bl (ng n (lookT tab z.cps.toList).isSome)) H) := by
  intro pins s σ H u v u' v' Q I ru rv q
  obtain ⟨es, k, hl, hk, low, rows⟩ := h
  obtain ⟨z, rfl, rfl, q⟩ := q
  obtain ⟨t, rfl⟩ := ru
  cases rv
  have mp := PySem.W.mapOf_K (prog := X.prog) (w := X.w) I.kIn hl (by simpa using hk)
  have e := TabIn.isSome (w := X.w) rows z.cps.toList
  rw [show (⟨z.cps.toList.toArray⟩ : Str) = z by simp] at e
  cases n with
  | false =>
    rw [if_neg Bool.false_ne_true] at hop
    subst hop
    refine wpAny_in_of (strKind_is X.prog X.w z t) low mp ?_
    rw [e]
    exact ⟨.bl (lookT tab z.cps.toList).isSome, H, I.tok _, rfl, q⟩
  | true =>
    rw [if_pos rfl] at hop
    subst hop
    refine wpAny_notIn_of (strKind_is X.prog X.w z t) low mp ?_
    rw [e]
    exact ⟨.bl (!(lookT tab z.cps.toList).isSome), H, I.tok _, rfl, q⟩
theorem inTab_imp {n : Bool} {a : Addr} : ∀ σ H Q, tM X.K W (eUn (inTab n tab) me) σ H Q → tOp (fun u v H Q => ∃ z, u = .str z ∧ v = .ref a ∧ Q (.bl (ng n (lookT tab z.cps.toList).isSome)) H) (tM X.K W me) (tC (.ref a)) σ H Q := fun σ H Q ⟨μ, st, ρ, er, sr, h⟩ =>
  ⟨μ, st, ρ, er, sr, (PostG.bind h).mono fun u H1 ⟨μ1, st1, y, g1, s1, ry, h1⟩ => by
    cases y with
    | str z =>
      cases (show u = V.str ⟨z.toArray⟩ from ry)
      exact ⟨⟨z.toArray⟩, rfl, rfl, by simpa using post_same (v := V.bl (ng n (lookT tab z).isSome)) h1 s1 rfl⟩
    | _ => exact h1.elim⟩
theorem me_inTabG {n : Bool} {op : CmpOp} (hop : op = if n = true then .NotIn else .In) (hm : TabAt X.w X.K X.mg x tab) (he : ME X W e me) (hg : Gl X x) (hd : (x == ("__debug__" : Str)) = false) (hb : behindInMarks op (.Name x p) = false) : ME X W (.Compare e [op] [.Name x p] pos) (eUn (inTab n tab) me) := by
  obtain ⟨a, h1, h2⟩ := hm
  exact PE.imp (pe_cmpR (op_inTab hop h2) he (pe_glob (v := .ref a) hg h1 rfl hd) hb) inTab_imp
theorem mt_inTabG {n : Bool} {op : CmpOp} (hop : op = if n = true then .NotIn else .In) (hm : TabAt X.w X.K X.mg x tab) (he : ME X W e me) (hg : Gl X x) (hd : (x == ("__debug__" : Str)) = false) (hb : behindInMarks op (.Name x p) = false) : MT X W (.Compare e [op] [.Name x p] pos) (eB (eUn (inTab n tab) me)) := by
  obtain ⟨a, h1, h2⟩ := hm
  exact PT.imp (pt_cmpR (op_inTab hop h2) he (pe_glob (v := .ref a) hg h1 rfl hd) hb) fun σ H Q h => inTab_imp σ H _ (test_imp (X := X) (W := W) (m := eUn (inTab n tab) me) σ H Q h)
theorem me_inTab (hm : TabAt X.w X.K X.mg x tab) (he : ME X W e me) (hg : Gl X x := by exact gl_of (by kernel_rfl)) (hd : (x == ("__debug__" : Str)) = false := by kernel_rfl) : ME X W (.Compare e [.In] [.Name x p] pos) (eUn (inTab false tab) me) := me_inTabG rfl hm he hg hd rfl
theorem me_notinTab (hm : TabAt X.w X.K X.mg x tab) (he : ME X W e me) (hg : Gl X x := by exact gl_of (by kernel_rfl)) (hd : (x == ("__debug__" : Str)) = false := by kernel_rfl) : ME X W (.Compare e [.NotIn] [.Name x p] pos) (eUn (inTab true tab) me) := me_inTabG rfl hm he hg hd rfl
theorem mt_inTab (hm : TabAt X.w X.K X.mg x tab) (he : ME X W e me) (hg : Gl X x := by exact gl_of (by kernel_rfl)) (hd : (x == ("__debug__" : Str)) = false := by kernel_rfl) : MT X W (.Compare e [.In] [.Name x p] pos) (eB (eUn (inTab false tab) me)) := mt_inTabG rfl hm he hg hd rfl
theorem mt_notinTab (hm : TabAt X.w X.K X.mg x tab) (he : ME X W e me) (hg : Gl X x := by exact gl_of (by kernel_rfl)) (hd : (x == ("__debug__" : Str)) = false := by kernel_rfl) : MT X W (.Compare e [.NotIn] [.Name x p] pos) (eB (eUn (inTab true tab) me)) := mt_inTabG rfl hm he hg hd rfl
theorem ix_tab {a : Addr} (h : TabIn X.w X.K a tab) : IxR X (fun u v H Q => ∃ z p, u = .ref a ∧ v = .str ⟨z.toArray⟩ ∧ lookT tab z = some p ∧ ∀ w, (∀ μ, VR X.K H μ p w) → Q w H) := by
  intro value slice pins s σ H u v u' v' Q I ru rv q hs
  obtain ⟨es, k, hl, hk, low, rows⟩ := h
  obtain ⟨z, p, rfl, rfl, hz, q⟩ := q
  cases (show u' = Value.ref a from ru)
  obtain ⟨t, rfl⟩ := rv
  have mp := PySem.W.mapOf_K (prog := X.prog) (w := X.w) I.kIn hl (by simpa using hk)
  obtain ⟨en, e1, w, rw', hv⟩ := (RowsT.find (z := z) rows).2 p hz
  have e2 : PySem.findBy Value.isStrOf es.toArray (⟨z.toArray⟩ : Str) = some en.val := by
    unfold PySem.findBy
    rw [List.find?_toArray, e1]
    rfl
  exact tail_any mp.typeIs slot_dict_getitem.lookup (wpAny_getItem_of (strKind_is X.prog X.w _ t) mp e2 ⟨w, H, I.tok _, rw', q w fun μ => hv H μ⟩) hs
theorem me_ixTab (hm : TabAt X.w X.K X.mg x tab) (he : ME X W e me) (hs : PlainIx e) (hg : Gl X x := by exact gl_of (by kernel_rfl)) (hd : (x == ("__debug__" : Str)) = false := by kernel_rfl) : ME X W (.Subscript (.Name x p) e pos) (eUn (ixTab tab) me) := by
  obtain ⟨a, h1, h2⟩ := hm
  refine PE.imp (pe_ix (ix_tab h2) (pe_glob (v := .ref a) hg h1 rfl hd) he hs) fun σ H Q ⟨μ, st, ρ, er, sr, h⟩ => ?_
  refine ⟨μ, st, ρ, er, sr, (PostG.bind h).mono fun u H1 ⟨μ1, st1, y, g1, s1, ry, h1⟩ => ?_⟩
  cases y with
  | str z =>
    unfold ixTab at h1
    dsimp only at h1
    cases hq : lookT tab z with
    | none => rw [hq] at h1; exact h1.elim
    | some p =>
      rw [hq] at h1
      exact ⟨z, p, rfl, ry, hq, fun w hw => post_same h1 s1 (hw μ1)⟩
  | _ => exact h1.elim
end
def intS (i : Int) : List Nat := (PySem.Str.ofString (toString i)).cps.toList
def strM (xs : List PV) : M PV := match xs with
  | [.int i] => if i.natAbs.log2 < 1920 then M.ret (.str (intS i)) else M.fail
  | [.str a] => M.ret (.str a)
  | _ => M.fail
theorem t_strM {K : PySem.W.Frag} : TL K (fun xs H Q => (∃ i, xs = [.int i] ∧ i.natAbs.log2 < 1920 ∧ Q (.str (toString i)) H) ∨ ∃ a, xs = [.str a] ∧ Q (.str a) H) strM := by
  intro μ st H xs us E Q sr r h
  cases xs with
  | nil => exact h.elim
  | cons x t =>
    cases t with
    | cons y t => cases x <;> exact h.elim
    | nil =>
      obtain ⟨u, rfl, rx⟩ := one_of r
      cases x with
      | int i =>
        cases (show u = V.int i from rx)
        unfold strM at h
        dsimp only at h
        by_cases hz : i.natAbs.log2 < 1920
        · rw [if_pos hz] at h
          refine .inl ⟨i, rfl, hz, ?_⟩
          have e : (⟨(intS i).toArray⟩ : Str) = PySem.Str.ofString (toString i) := by unfold intS; simp
          have q := post_same (v := V.str ⟨(intS i).toArray⟩) h sr rfl
          rw [e] at q
          exact q
        · rw [if_neg hz] at h; exact h.elim
      | str a => cases (show u = V.str ⟨a.toArray⟩ from rx); exact .inr ⟨_, rfl, post_same h sr rfl⟩
      | _ => exact h.elim
section
variable {X : Cx}
theorem CallR.or {f : Value} {r r' : List V → Hp → VK → Prop} (h : CallR X f r) (h' : CallR X f r') : CallR X f (fun xs H Q => r xs H Q ∨ r' xs H Q) := by
  intro pins s σ H xs us Q I rs q
  rcases q with q | q
  · exact h pins s σ H xs us Q I rs q
  · exact h' pins s σ H xs us Q I rs q
variable {W : WX} {e : Expr} {p pos : Pos} {ma : Rho → M (List PV)}
theorem me_strOf (hg : Gl X "str") (hm : X.mg "str" = none) (ha : MA X W [e] ma) (he : starEach [e] X.env = (false, eval e X.env) :: starEach [] X.env := by kernel_rfl) : ME X W (.Call (.Name "str" p) [e] [] pos) (eCall strM ma) :=
  me_callTy (CallR.or call_str_int SkE.call_str_str) t_strM hg hm (by kernel_rfl) ha (he := he) (hpl := rfl)
end
def intsOf : List PV → Option (List Int)
  | [] => some []
  | .int i :: r => (intsOf r).map (i :: ·)
  | _ :: _ => none
theorem intsOf_at {K : PySem.W.Frag} {H : Hp} {μ : Mu} : ∀ {ps : List PV} {vs : List V} {ns : List Int}, VRs K H μ ps vs → intsOf ps = some ns → vs = ns.map V.int
  | [], vs, ns, r, h => by cases h; exact r
  | p :: ps, vs, ns, r, h => by
    obtain ⟨v, t, rfl, r1, r2⟩ := (show ∃ v t, vs = v :: t ∧ VR K H μ p v ∧ VRs K H μ ps t from r)
    cases p with
    | int b =>
      unfold intsOf at h
      cases q : intsOf ps with
      | none => rw [q] at h; cases h
      | some cs =>
        rw [q] at h
        cases h
        cases (show v = V.int b from r1)
        rw [intsOf_at r2 q]
        rfl
    | _ => cases h
def lstOf (p : PV) (st : Sto) : Option (List PV) := match p with
  | .frz xs => some xs
  | p => listOf p st
theorem lstOf_at {K : PySem.W.Frag} {H : Hp} {μ : Mu} {st : Sto} {x : PV} {v : V} {ps : List PV} (sr : SR K μ st H) (r : VR K H μ x v) (h : lstOf x st = some ps) : ∃ a vs, v = .ref a ∧ SqL K H a vs ∧ VRs K H μ ps vs := by
  have g : listOf x st = some ps → ∃ a vs, v = .ref a ∧ SqL K H a vs ∧ VRs K H μ ps vs := fun h => by
    obtain ⟨a, vs, e, l, rs⟩ := listOf_at sr r h
    exact ⟨a, vs, e, SqL.of l, rs⟩
  cases x with
  | frz xs =>
    cases h
    obtain ⟨a, vs, e, l, rs⟩ := frz_at r
    exact ⟨a, vs, e, l.sq, rs⟩
  | _ => exact g h
def sumM (xs : List PV) : M PV := fun st => match xs with
  | [x] => match lstOf x st with
    | some ys => match intsOf ys with
      | some ns => .ok (.int ns.sum) st
      | none => .bad
    | none => .bad
  | _ => .bad
theorem t_sumM {K : PySem.W.Frag} : TL K (rSum K) sumM := by
  intro μ st H xs us E Q sr r h
  unfold sumM at h
  cases xs with
  | nil => exact h.elim
  | cons x t =>
    cases t with
    | cons y t => exact h.elim
    | nil =>
      obtain ⟨u, rfl, rx⟩ := one_of r
      dsimp only at h
      cases q : lstOf x st with
      | none => rw [q] at h; exact h.elim
      | some ys =>
        rw [q] at h
        dsimp only at h
        cases q2 : intsOf ys with
        | none => rw [q2] at h; exact h.elim
        | some ns =>
          rw [q2] at h
          obtain ⟨a, vs, rfl, l, rs⟩ := lstOf_at sr rx q
          have e := intsOf_at rs q2
          subst e
          exact ⟨a, ns, rfl, l, post_same h sr rfl⟩
section
variable {X : Cx} {W : WX} {e : Expr} {p pos : Pos} {ma : Rho → M (List PV)}
theorem me_sum (hc : X.calm = true) (hg : Gl X "sum") (hm : X.mg "sum" = none) (ha : MA X W [e] ma) (he : starEach [e] X.env = (false, eval e X.env) :: starEach [] X.env := by kernel_rfl) : ME X W (.Call (.Name "sum" p) [e] [] pos) (eCall sumM ma) :=
  me_callB (cr_sum hc) t_sumM hg hm (by kernel_rfl) ha (he := he) (hpl := rfl)
end
def indexM (o : PV) (xs : List PV) : M PV := match o, xs with
  | .str a, [.str b] => match Builtin.Str.occurrences ⟨a.toArray⟩ ⟨b.toArray⟩ 0 a.length 1 with
    | i :: _ => M.ret (.int (i : Nat))
    | [] => M.fail
  | _, _ => M.fail
theorem t_index {K : PySem.W.Frag} : TMe K (fun x xs H Q => ∃ a b i rest, x = .str a ∧ xs = [.str b] ∧ Builtin.Str.occurrences a b 0 a.length 1 = i :: rest ∧ Q (.int (i : Nat)) H) indexM := by
  intro μ st H o xs u us E Q sr ro rs h
  unfold indexM at h
  split at h
  · rename_i a b
    obtain ⟨w, rfl, rx⟩ := one_of rs
    cases (show u = V.str ⟨a.toArray⟩ from ro)
    cases (show w = V.str ⟨b.toArray⟩ from rx)
    cases q : Builtin.Str.occurrences ⟨a.toArray⟩ ⟨b.toArray⟩ 0 a.length 1 with
    | nil => rw [q] at h; exact h.elim
    | cons i r =>
      rw [q] at h
      exact ⟨_, _, i, r, rfl, rfl, by rw [str_len]; exact q, post_same h sr rfl⟩
  · exact h.elim
section
variable {X : Cx} {W : WX} {o e : Expr} {apos cpos : Pos} {mo : Rho → M PV} {ma : Rho → M (List PV)}
theorem me_indexS (ho : ME X W o mo) (ha : MA X W [e] ma)
    (hbase : attributeBase o "index" X.env (eval o X.env) = eval o X.env := by kernel_rfl)
    (hfew : ((backTo cpos (starEach [e] X.env)).all (fun x => !x.1) && (backToKw cpos (keywordEach [] X.env)).all (fun x => x.1.isSome)
      && decide ([e].length + ([] : List Keyword).length + (if ([] : List Keyword).isEmpty then 0 else 1) < 30)) = true := by kernel_rfl)
    (hline : (apos.endLine == cpos.line) = true := by kernel_rfl) (hs : starEach [e] X.env = (false, eval e X.env) :: starEach [] X.env := by kernel_rfl) :
    ME X W (.Call (.Attribute o "index" apos) [e] [] cpos) (eMeth "str" indexM mo ma) :=
  me_meth PySem.F.plainAttrs_str PySem.F.slot_str_index PySem.F.type_str_index mt_sindex t_index ho ha hbase hfew hline hs rfl
end
end MP

set_option maxRecDepth 100000
set_option maxHeartbeats 1000000
namespace MP
open PySem L2 PySem.Spec PyProof.Rows
def zipP : List PV → List PV → List PV
  | x :: xs, y :: ys => .tup [x, y] :: zipP xs ys
  | _, _ => []
theorem zipP_length : ∀ (xs ys : List PV), (zipP xs ys).length = min xs.length ys.length
  | [], ys => by simp [zipP]
  | x :: xs, [] => by simp [zipP]
  | x :: xs, y :: ys => by simp [zipP, zipP_length xs ys]
theorem zipP_get : ∀ (xs ys : List PV) (i : Nat) (p : PV), (zipP xs ys)[i]? = some p → ∃ x y, xs[i]? = some x ∧ ys[i]? = some y ∧ p = .tup [x, y]
  | [], ys, i, p, h => by simp [zipP] at h
  | x :: xs, [], i, p, h => by simp [zipP] at h
  | x :: xs, y :: ys, 0, p, h => by simp [zipP] at h; exact ⟨x, y, rfl, rfl, h.symm⟩
  | x :: xs, y :: ys, i + 1, p, h => by
    simp only [zipP, List.getElem?_cons_succ] at h ⊢
    exact zipP_get xs ys i p h
section
variable {K : PySem.W.Frag} {H : Hp} {μ : Mu} {a b : Addr} {ps qs : List PV} {vs ws : List V}
theorem sup_zip {J : It} {Sa Sb : Hp → List V → Prop} (hgo : ∀ i H, J.go i H ↔ ∃ (xs ys : List V) (x y : V), Sa H xs ∧ Sb H ys ∧ xs[i]? = some x ∧ ys[i]? = some y)
    (hy : ∀ i H v H', J.yld i H v H' → ∃ T x y, v = .ref T ∧ H T = none ∧ H' = upd H T (.tup [x, y]) ∧ (∀ xs, Sa H xs → xs[i]? = some x) ∧ ∀ ys, Sb H ys → ys[i]? = some y)
    (hst : ∀ i H, (∃ xs ys : List V, Sa H xs ∧ Sb H ys ∧ (xs.length ≤ i ∨ ys.length ≤ i)) → J.stop i H)
    (t : ∀ μ' H', Gr μ H μ' H' → Sa H' vs ∧ Sb H' ws) (r : VRs K H μ ps vs) (r' : VRs K H μ qs ws) : Sup K J (zipP ps qs) μ H := fun μ' H' st g sr => by
  obtain ⟨q1, q2⟩ := t μ' H' g
  refine ⟨fun i p hp => ?_, hst _ _ ⟨vs, ws, q1, q2, ?_⟩⟩
  · obtain ⟨x, y, h1, h2, rfl⟩ := zipP_get _ _ _ _ hp
    obtain ⟨u, e1, f1⟩ := VRs.get (VRs.mono g ps vs r) h1
    obtain ⟨w, e2, f2⟩ := VRs.get (VRs.mono g qs ws r') h2
    refine ⟨(hgo i H').mpr ⟨vs, ws, u, w, q1, q2, e1, e2⟩, fun z H2 hz => ?_⟩
    obtain ⟨T, x', y', ex, hT, eh, hx, hy'⟩ := hy i H' z H2 hz
    subst ex eh
    have ev : u = x' := Option.some.inj (e1.symm.trans (hx vs q1))
    have ew : w = y' := Option.some.inj (e2.symm.trans (hy' ws q2))
    subst ev ew
    refine ⟨gr_new hT, sr.new hT, ?_⟩
    refine (show ∃ a zs, V.ref T = .ref a ∧ TupAt K (upd H' T (.tup [u, w])) μ' a zs ∧ VRs K (upd H' T (.tup [u, w])) μ' [x, y] zs from ⟨T, _, rfl, ?_, VRs.cons (VR.mono (gr_new hT) _ _ f1) (VRs.cons (VR.mono (gr_new hT) _ _ f2) VRs.nil)⟩)
    exact .inl ⟨upd_same, sr.free hT⟩
  · rw [zipP_length, VRs.length r, VRs.length r']
    rcases Nat.le_total vs.length ws.length with z | z
    · rw [Nat.min_eq_left z]; exact .inl (Nat.le_refl _)
    · rw [Nat.min_eq_right z]; exact .inr (Nat.le_refl _)
end
def zipM (xs : List PV) : M (List PV) := match xs with
  | [.tup ps, .tup qs] => M.ret (zipP ps qs)
  | [.lst ps, .lst qs] => M.ret (zipP ps qs)
  | _ => M.fail
section
variable {X : Cx} {W : WX} {e e2 : Expr} {p pos : Pos} {ma : Rho → M (List PV)}
theorem mi_zip {tpos : Pos} {elts : List Expr} {kk : Nat} (hg : Gl X "zip") (hm : X.mg "zip" = none) (ha : MA X W [e, e2] ma)
    (hs : starEach [e, e2] X.env = (false, eval e X.env) :: starEach [e2] X.env := by kernel_rfl) (hpl : (backTo pos (starEach [e2] X.env)).any (·.1) = false := by kernel_rfl) :
    MI X W (.Tuple elts kk tpos) (.Call (.Name "zip" p) [e, e2] [] pos) (iCall zipM ma) :=
  PI.imp (RZ.pi_zipA hg hm ha hs hpl) fun σ H R ⟨μ, st, ρ, er, sr, h⟩ => ⟨μ, st, ρ, er, sr, (PostG.bind h).mono fun us H1 ⟨μ1, st1, xs, g1, s1, rxs, h1⟩ => by
    unfold zipM at h1
    split at h1
    · obtain ⟨u, w, rfl, ru, rw'⟩ := two_of rxs
      obtain ⟨a, vs, rfl, t, rs⟩ := tup_at ru
      obtain ⟨b, ws, rfl, t', rs'⟩ := tup_at rw'
      exact ⟨a, b, vs, ws, rfl, .inr ⟨t.sq, t'.sq, h1 μ1 H1 _ (Gr.refl _ _) s1 (sup_zip (Sa := fun H xs => SqT X.K H a xs) (Sb := fun H xs => SqT X.K H b xs) (fun _ _ => Iff.rfl) (fun _ _ _ _ h => h) (fun _ _ h => h) (fun _ _ g => ⟨(t.grow g).sq, (t'.grow g).sq⟩) rs rs')⟩⟩
    · obtain ⟨u, w, rfl, ru, rw'⟩ := two_of rxs
      obtain ⟨a, vs, rfl, t, rs⟩ := lst_at ru
      obtain ⟨b, ws, rfl, t', rs'⟩ := lst_at rw'
      exact ⟨a, b, vs, ws, rfl, .inl ⟨t.sq, t'.sq, h1 μ1 H1 _ (Gr.refl _ _) s1 (sup_zip (Sa := fun H xs => SqL X.K H a xs) (Sb := fun H xs => SqL X.K H b xs) (fun _ _ => Iff.rfl) (fun _ _ _ _ h => h) (fun _ _ h => h) (fun _ _ g => ⟨(t.grow g).sq, (t'.grow g).sq⟩) rs rs')⟩⟩
    · exact h1.elim⟩
end
theorem fnOk_no {P : Program} {w : World} {K : PySem.W.Frag} {mg : Str → Option Value} {base : Heap} {k : Nat} {f : Addr} {fd : FuncData} {ps : List Str} {nn : Nat} : FnOk P w K mg base (L2.CX P w) k f fd ps (spM K (fun _ => M.fail) nn) :=
  ⟨fun vs H Q E h => let ⟨_, _, _, _, _, _, h⟩ := h; h.elim, fun _ _ _ _ _ _ _ _ _ _ _ _ _ h => let ⟨_, _, _, _, _, _, h⟩ := h; h.elim⟩
section
variable {X : Cx} {W : WX} {pos : Pos}
theorem me_call0 {x : Str} {f : Addr} {fd : FuncData} {ps : List Str} {k : Nat} {p : Pos} {mf : List PV → M PV} (F : FnOk X.prog X.w X.K X.mg X.base (L2.CX X.prog X.w) k f fd ps (spM X.K mf 0)) (hr : Room k X.A) (hg : Gl X x) (hm : X.mg x = some (.ref f))
    (hk : PySem.W.keepIn X.K (.ref f) = true) (hb : Binds X.K fd ps []) (tk : Takes X W) (hdb : (x == ("__debug__" : Str)) = false := by kernel_rfl) :
    ME X W (.Call (.Name x p) [] [] pos) (eCall mf aNil) := by
  refine PE.imp (t := fun σ H Q => spM X.K mf 0 [] H Q (WE W σ)) ⟨fun pins s σ H Q I h => ?_⟩ fun σ H Q ⟨μ, st, ρ, er, sr, h⟩ => ⟨μ, st, [], sr, VRs.nil, rfl, h⟩
  refine wpAny_Call_Name_kw (ld_glob I hg hm ?_ hdb)
  exact PySem.W.callWith_K0 I.kIn hk (run_fnSD (us := []) (vs := []) (dvs := []) (ds := []) (E := WE W) F hr hb .nil (passAt tk σ) I .nil h)
end
end MP

set_option maxRecDepth 100000
set_option maxHeartbeats 1000000
namespace MP
open PySem L2
def forG (G : Sto → Bool) (g : GM) (b : Rho → M Fl) : List PV → Rho → M Fl
  | [], ρ => fun st => if G st = true then .ok (.next ρ) st else .bad
  | p :: ps, ρ => fun st => if G st = true then onErr ρ (g p ρ) (fun ρ1 => turnL (forG G g b ps) (b ρ1)) st else .bad
def SupG (K : PySem.W.Frag) (J : It) (ps : List PV) (G : Sto → Bool) (μ0 : Mu) (H0 : Hp) : Prop :=
  ∀ μ H st, Gr μ0 H0 μ H → SR K μ st H → G st = true → (∀ (i : Nat) (p : PV), ps[i]? = some p → J.go i H ∧ ∀ x H', J.yld i H x H' → Gr μ H μ H' ∧ SR K μ st H' ∧ VR K H' μ p x) ∧ J.stop ps.length H
theorem PostS.ifG {K : PySem.W.Frag} {W : WX} {D : Ends} {μ : Mu} {H : Hp} {c : Bool} {r : Res Fl} (h : PostS K W D μ H (if c = true then r else .bad)) : c = true ∧ PostS K W D μ H r := by
  cases c with
  | true => exact ⟨rfl, h⟩
  | false => exact h.elim
theorem PostG.ifG {α β : Type} {K : PySem.W.Frag} {E : XK} {R : Hp → Mu → α → β → Prop} {Q : β → Hp → Prop} {μ : Mu} {H : Hp} {c : Bool} {r : Res α} (h : PostG K E R Q μ H (if c = true then r else .bad)) : c = true ∧ PostG K E R Q μ H r := by
  cases c with
  | true => exact ⟨rfl, h⟩
  | false => exact h.elim
theorem for_impG {K : PySem.W.Frag} {W : WX} {D : Ends} {J : It} {ps : List PV} {G : Sto → Bool} {g : GM} {b : Rho → M Fl} {μ : Mu} {H : Hp} {σ : St} {ρ : Rho} {st : Sto} (su : SupG K J ps G μ H) (er : ER K H μ ρ σ) (sr : SR K μ st H) (h : PostS K W D μ H (forG G g b ps ρ st)) :
    ∃ V : Nat → Nat → St → Hp → Prop, (∃ m, V 0 m σ H) ∧ ∀ i m σ H, V i m σ H →
      (J.stop i H ∧ D.nx σ H) ∨ (J.go i H ∧ ∃ N : St → Hp → Prop, (∀ σ' H', N σ' H' → ∃ m', m' < m ∧ V (i + 1) m' σ' H') ∧ ∀ x H', J.yld i H x H' → tMG K W g x σ H' fun σ2 H2 => tMS K W b { D with nx := N, ct := N, bk := D.nx } σ2 H2) := by
  refine ⟨fun i m σ' H' => m = ps.length - i ∧ i ≤ ps.length ∧ ∃ μ' st' ρ', Gr μ H μ' H' ∧ ER K H' μ' ρ' σ' ∧ SR K μ' st' H' ∧ PostS K W D μ' H' (forG G g b (ps.drop i) ρ' st'), ⟨ps.length, by simp, Nat.zero_le _, μ, st, ρ, Gr.refl _ _, er, sr, by rw [List.drop_zero]; exact h⟩, ?_⟩
  rintro i m σ1 H1 ⟨rfl, hi, μ1, st1, ρ1, g1, e1, s1, h1⟩
  by_cases hlt : i < ps.length
  · have hp : ps[i]? = some ps[i] := by simp [hlt]
    rw [List.drop_eq_getElem_cons hlt] at h1
    unfold forG at h1
    obtain ⟨hG, h1⟩ := PostS.ifG h1
    obtain ⟨go, yl⟩ := (su μ1 H1 st1 g1 s1 hG).1 i ps[i] hp
    refine .inr ⟨go, fun σ' H' => ∃ μ' st' ρ', Gr μ H μ' H' ∧ ER K H' μ' ρ' σ' ∧ SR K μ' st' H' ∧ PostS K W D μ' H' (forG G g b (ps.drop (i + 1)) ρ' st'), fun σ' H' q => ⟨ps.length - (i + 1), by omega, rfl, hlt, q⟩, fun x H' y => ?_⟩
    obtain ⟨g2, s2, rx⟩ := yl x H' y
    refine ⟨μ1, st1, ρ1, ps[i], e1.mono g2, s2, rx, (PostS.onErr (PostS.grow h1 g2) (e1.mono g2)).mono fun σ3 H3 ⟨μ3, st3, ρ3, g3, s3, e3, h3⟩ => ⟨μ3, st3, ρ3, e3, s3, ?_⟩⟩
    have gg := (g1.trans g2 fun a m => (s2.ban a m).1).trans g3 fun a m => (s3.ban a m).1
    unfold turnL at h3
    cases q : b ρ3 st3 with
    | ok f st' =>
      rw [q] at h3
      cases f with
      | next ρ' => exact fun μ' H' σ' g4 s4 e4 => ⟨μ', st', ρ', gg.trans g4 (fun a m => (s4.ban a m).1), e4, s4, PostS.grow h3 g4⟩
      | cont ρ' => exact fun μ' H' σ' g4 s4 e4 => ⟨μ', st', ρ', gg.trans g4 (fun a m => (s4.ban a m).1), e4, s4, PostS.grow h3 g4⟩
      | brk ρ' => exact h3
      | ret p => exact h3
      | exc x ρ' => exact h3
    | err x st' => rw [q] at h3; exact h3
    | bad => rw [q] at h3; exact h3
  · have e : i = ps.length := by omega
    subst e
    rw [List.drop_length] at h1
    unfold forG at h1
    obtain ⟨hG, h1⟩ := PostS.ifG h1
    exact .inl ⟨(su μ1 H1 st1 g1 s1 hG).2, h1 μ1 H1 σ1 (Gr.refl _ _) s1 e1⟩
def gd (n : Nat) (xs : List PV) (st : Sto) : Bool := match st[n]? with
  | some (.lst ys) => decide (ys = xs)
  | _ => false
def atCell (v : PV) : M (Nat × List PV) := fun st => match v with
  | .loc n => match st[n]? with
    | some (.lst xs) => .ok (n, xs) st
    | _ => .bad
  | _ => .bad
def iCell (m : Rho → M PV) : Rho → M (Nat × List PV) := fun ρ => M.bind (m ρ) atCell
def tMIC (K : PySem.W.Frag) (W : WX) (f : List PV → List PV) (m : Rho → M (Nat × List PV)) : TI := fun σ H R => ∃ μ st ρ, ER K H μ ρ σ ∧ SR K μ st H ∧ PostG K (fun c d H' => W c d σ H') (fun H μ nx (J : It) => SupG K J (f nx.2) (gd nx.1 nx.2) μ H) R μ H (m ρ st)
def MIC (X : Cx) (W : WX) (tg iter : Expr) (f : List PV → List PV) (m : Rho → M (Nat × List PV)) : Prop := PI X tg iter (tMIC X.K W f m)
def enumP (xs : List PV) : List PV := xs.mapIdx fun i p => .tup [.int (i : Nat), p]
theorem gd_at {n : Nat} {xs : List PV} {st : Sto} (h : gd n xs st = true) : st[n]? = some (.lst xs) := by
  unfold gd at h
  split at h
  · rename_i ys e
    rw [e, of_decide_eq_true h]
  · cases h
theorem sup_cell {K : PySem.W.Frag} {H : Hp} {μ : Mu} {a : Addr} {n : Nat} {xs : List PV} (ha : μ.l[n]? = some a) : SupG K (Itl K a) xs (gd n xs) μ H := fun μ' H' st g sr hG => by
  obtain ⟨vs, q0, r⟩ := sr.cell n _ a (gd_at hG) (g.get ha)
  have q : SqL K H' a vs := SqL.of q0
  refine ⟨fun i p hp => ?_, ⟨vs, q, by rw [VRs.length r]; exact Nat.le_refl _⟩⟩
  obtain ⟨v, e1, e2⟩ := VRs.get r hp
  refine ⟨⟨vs, v, q, e1⟩, fun x H2 ⟨eh, y⟩ => ?_⟩
  subst eh
  have ex : v = x := Option.some.inj (e1.symm.trans (y vs q))
  subst ex
  exact ⟨Gr.refl _ _, sr, e2⟩
theorem PostG.tieA {K : PySem.W.Frag} {E : XK} {Q : V → Hp → Prop} {Q' : List V → Hp → Prop} {μ : Mu} {H : Hp} {m : M PV} {st : Sto} (h : PostG K E (VR K) Q μ H (m st)) (i : ∀ u H1, Q u H1 → Q' [u] H1) : PostG K E (VRs K) Q' μ H (M.bind m (fun x => M.bind (M.ret []) fun xs => M.ret (x :: xs)) st) := by
  unfold M.bind
  cases q : m st with
  | ok a s' =>
    rw [q] at h
    intro μ1 H1 us g s r
    obtain ⟨u, rfl, ru⟩ := one_of r
    exact i _ _ (h μ1 H1 u g s ru)
  | err x s' => rw [q] at h; exact h
  | bad => rw [q] at h; exact h.elim
section
variable {X : Cx} {W : WX} {tg e : Expr} {me : Rho → M PV}
theorem mic_cell (he : ME X W e me) : MIC X W tg e id (iCell me) := PI.imp (pi_list he) fun σ H R ⟨μ, st, ρ, er, sr, h⟩ => ⟨μ, st, ρ, er, sr, (PostG.bind h).mono fun u H1 ⟨μ1, st1, v, g1, s1, rv, h1⟩ => by
  unfold atCell at h1
  cases v with
  | loc n =>
    dsimp only at h1
    cases q : st1[n]? with
    | none => rw [q] at h1; exact h1.elim
    | some c =>
      rw [q] at h1
      cases c with
      | lst xs =>
        obtain ⟨a, rfl, ha⟩ := loc_at rv
        obtain ⟨vs, q0, r⟩ := s1.cell n _ a q ha
        exact ⟨a, rfl, ⟨vs, SqL.of q0⟩, h1 μ1 H1 _ (Gr.refl _ _) s1 (sup_cell ha)⟩
      | dct kvs => exact h1.elim
      | ins C fs => exact h1.elim
  | _ => exact h1.elim⟩
theorem sup_cellE {K : PySem.W.Frag} {H : Hp} {μ : Mu} {a : Addr} {n : Nat} {xs : List PV} (ha : μ.l[n]? = some a) : SupG K (Ite K a) (enumP xs) (gd n xs) μ H := fun μ' H' st g sr hG => by
  obtain ⟨vs, q0, r⟩ := sr.cell n _ a (gd_at hG) (g.get ha)
  have q : SqL K H' a vs := SqL.of q0
  refine ⟨fun i p hp => ?_, ⟨vs, q, by unfold enumP; rw [List.length_mapIdx, VRs.length r]; exact Nat.le_refl _⟩⟩
  unfold enumP at hp
  rw [List.getElem?_mapIdx] at hp
  cases hq : xs[i]? with
  | none => rw [hq] at hp; cases hp
  | some p0 =>
    rw [hq] at hp
    cases hp
    obtain ⟨v, e1, e2⟩ := VRs.get r hq
    refine ⟨⟨vs, v, q, e1⟩, fun x H2 ⟨T, y, ex, hT, eh, hy⟩ => ?_⟩
    subst ex eh
    have ev : v = y := Option.some.inj (e1.symm.trans (hy vs q))
    subst ev
    refine ⟨gr_new hT, sr.new hT, ?_⟩
    refine (show ∃ a ws, V.ref T = .ref a ∧ TupAt K (upd H' T (.tup [.int (i : Nat), v])) μ' a ws ∧ VRs K (upd H' T (.tup [.int (i : Nat), v])) μ' [.int (i : Nat), p0] ws from ⟨T, _, rfl, ?_, VRs.cons rfl (VRs.cons (VR.mono (gr_new hT) _ _ e2) VRs.nil)⟩)
    exact .inl ⟨upd_same, sr.free hT⟩
theorem mic_enum {p pos tpos : Pos} {elts : List Expr} {kk : Nat} (hg : Gl X "enumerate") (hm : X.mg "enumerate" = none) (he : ME X W e me) (hs : starEach [e] X.env = [(false, eval e X.env)] := by kernel_rfl) :
    MIC X W (.Tuple elts kk tpos) (.Call (.Name "enumerate" p) [e] [] pos) enumP (iCell me) := PI.imp (pi_enum hg hm (ma_cons he ma_nil hs) hs) fun σ H R ⟨μ, st, ρ, er, sr, h⟩ => ⟨μ, st, ρ, er, sr, by
  have h0 := (PostG.bind (R' := VR X.K) h)
  unfold aCons
  refine PostG.tieA h0 fun u H1 ⟨μ1, st1, v, g1, s1, rv, h1⟩ => ?_
  unfold atCell at h1
  cases v with
  | loc n =>
    dsimp only at h1
    cases q : st1[n]? with
    | none => rw [q] at h1; exact h1.elim
    | some c =>
      rw [q] at h1
      cases c with
      | lst xs =>
        obtain ⟨a, rfl, ha⟩ := loc_at rv
        obtain ⟨vs, q0, r⟩ := s1.cell n _ a q ha
        exact ⟨a, vs, rfl, SqL.of q0, h1 μ1 H1 _ (Gr.refl _ _) s1 (sup_cellE ha)⟩
      | dct kvs => exact h1.elim
      | ins C fs => exact h1.elim
  | _ => exact h1.elim⟩
variable {pos : Pos} {m : Rho → M Fl}
def sForC (f : List PV → List PV) (mi : Rho → M (Nat × List PV)) (g : GM) (b : Rho → M Fl) : Rho → M Fl := fun ρ => onErr ρ (mi ρ) fun nx => forG (gd nx.1 nx.2) g b (f nx.2) ρ
theorem ms_forC {f : List PV → List PV} {iter : Expr} {body : List Stmt} {mi : Rho → M (Nat × List PV)} {g : GM} (hp : PassesOwn (model X.prog X.w) X.A X.env X.xe) (hc : X.calm = true) (hi : MIC X W tg iter f mi) (hg : MG X W tg g) (hb : MSs X W body m)
    (hs : ∀ x, foldedSetIterable iter X.env x = pure x := by intro _; kernel_rfl) : MS X W (.For tg iter body [] pos) (sForC f mi g m) :=
  PS.imp (ps_for hp hc hi hg hb hs) fun D σ H ⟨μ, st, ρ, er, sr, h⟩ => ⟨μ, st, ρ, er, sr, (PostS.onErr h er).mono fun J H1 ⟨μ1, st1, nx, g1, s1, su, h1⟩ => for_impG su (er.mono g1) s1 h1⟩
end
def lcG (G : Sto → Bool) (g : GM) (t : Rho → M Bool) (e : Rho → M PV) (ρ0 : Rho) : List PV → List PV → M (List PV)
  | [], acc => fun st => if G st = true then .ok acc st else .bad
  | p :: ps, acc => fun st => if G st = true then (M.bind (M.calm (g p ρ0)) fun ρ1 => M.bind (M.calm (t ρ1)) fun c => if c = true then M.bind (M.calm (e ρ1)) fun y => if acc.length < SZ then lcG G g t e ρ0 ps (acc ++ [y]) else M.fail else lcG G g t e ρ0 ps acc) st else .bad
theorem bind_ifG {α β : Type} {G : Sto → Bool} {m : M α} {k : α → M β} : M.bind (fun st => if G st = true then m st else .bad) k = fun st => if G st = true then M.bind m k st else .bad := by
  funext st
  unfold M.bind
  dsimp only
  cases G st <;> rfl
theorem lc_impG {K : PySem.W.Frag} {E : XK} {Q : VK} {J : It} {ps : List PV} {G : Sto → Bool} {g0 : TG} {g : GM} {t : Rho → M Bool} {e : Rho → M PV} {k : List PV → M PV} {vs : List Nat} {μ : Mu} {H : Hp} {σ : St} {ρ : Rho} {st : Sto} {D : Addr} (su : SupG K J ps G μ H) (er : ER K H μ ρ σ) (sr : SR K μ st H) (tg : TGo K vs g0 g) (le : LcEnd K k)
    (hD : H D = none) (h : PostG K E (VR K) Q μ H (M.bind (lcG G g t e (wipeP ρ vs) ps []) k st)) :
    ∃ V : Nat → Nat → Hp → Prop, (∃ m, V 0 m (upd H D (.lst []))) ∧ ∀ i m H, V i m H →
      (J.stop i H ∧ Q (.ref D) H) ∨ (J.go i H ∧ ∃ Nx : Hp → Prop, (∀ H', Nx H' → ∃ m', m' < m ∧ V (i + 1) m' H') ∧ ∀ x H', J.yld i H x H' → g0 x (L2.wipe σ vs) H' fun σ2 H2 => L2.wipe σ2 vs = L2.wipe σ vs ∧ tMT K W0 t σ2 H2 fun b H3 =>
        if b = true then tM K W0 e σ2 H3 fun y H4 => ∃ acc, H4 D = some (.lst acc) ∧ acc.length < sizeLine ∧ Nx (upd H4 D (.lst (acc ++ [y]))) else Nx H3) := by
  let P : Nat → Hp → Prop := fun i H' => ∃ μ' st' acc va, Gr μ H μ' H' ∧ SR K μ' st' H' ∧ D ∈ μ'.b ∧ H' D = some (.lst va) ∧ VRs K H' μ' acc va ∧ PostG K E (VR K) Q μ H (M.bind (lcG G g t e (wipeP ρ vs) (ps.drop i) acc) k st')
  refine ⟨fun i m H' => m = ps.length - i ∧ i ≤ ps.length ∧ P i H', ⟨ps.length, by simp, Nat.zero_le _, ?_⟩, ?_⟩
  · have gb : Gr μ H (μ.bar D) (upd H D (.lst [])) := ⟨⟨[], by simp [Mu.bar]⟩, fun a m => List.mem_cons_of_mem _ m, fun a m => by
      rcases List.mem_cons.mp m with z | z
      · rw [z]; exact .inr hD
      · exact .inl z, fun a m => .inl m, fun a o q _ => by rw [upd_ne (ne_of_none q hD)]; exact q⟩
    refine ⟨μ.bar D, st, [], [], gb, ?_, List.mem_cons_self, upd_same, rfl, by rw [List.drop_zero]; exact h⟩
    refine ⟨sr.len, sr.nd, fun a m => ?_, fun n c a e1 e2 => (sr.cell n c a e1 e2).mono gb (upd_ne fun z => ?_)⟩
    · rcases List.mem_cons.mp m with z | z
      · subst z
        exact ⟨fun q => sr.free hD (.inl q), _, upd_same⟩
      · obtain ⟨n1, o, q⟩ := sr.ban a z
        exact ⟨n1, o, by rw [upd_ne (ne_of_none q hD)]; exact q⟩
    · obtain ⟨u, q⟩ := (sr.cell n c a e1 e2).has
      rw [z, hD] at q; cases q
  · rintro i m H1 ⟨rfl, hi, μ1, st1, acc, va, g1, s1, b1, d1, r1, h1⟩
    by_cases hlt : i < ps.length
    · have hp : ps[i]? = some ps[i] := by simp [hlt]
      rw [List.drop_eq_getElem_cons hlt] at h1
      unfold lcG at h1
      rw [bind_ifG] at h1
      obtain ⟨hG, h1⟩ := PostG.ifG h1
      obtain ⟨go, yl⟩ := (su μ1 H1 st1 g1 s1 hG).1 i ps[i] hp
      refine .inr ⟨go, P (i + 1), fun H' q => ⟨ps.length - (i + 1), by omega, rfl, hlt, q⟩, fun x H2 y => ?_⟩
      obtain ⟨g2, s2, rx⟩ := yl x H2 y
      have gg2 := g1.trans g2 fun a m => (s2.ban a m).1
      rw [M.bind_assoc] at h1
      refine tg x _ H2 _ μ1 st1 _ ps[i] ((er.mono gg2).wipe vs) s2 rx ((PostG.calm (PostG.bindAt h1 gg2)).mono fun σ3 H3 ⟨μ3, st3, ρ3, g3, s3, ⟨e3, w3⟩, h3⟩ => ⟨w3.trans (wipe_wipe fun _ z => z), ?_⟩)
      have gg3 := gg2.trans g3 fun a m => (s3.ban a m).1
      rw [M.bind_assoc] at h3
      refine ⟨μ3, st3, ρ3, e3, s3, (PostG.calm (PostG.bindAt h3 gg3)).mono fun c H4 ⟨μ4, st4, c', g4, s4, ec, h4⟩ => ?_⟩
      subst ec
      have gg4 := gg3.trans g4 fun a m => (s4.ban a m).1
      have keepD : ∀ {μa μb : Mu} {Ha Hb : Hp} {sa : Sto} {w : List V}, Gr μa Ha μb Hb → SR K μa sa Ha → D ∈ μa.b → Ha D = some (.lst w) → Hb D = some (.lst w) := fun g s m q => g.keep D _ q (s.ban D m).1
      have d2 := keepD g2 s1 b1 d1
      have b2 := g2.ban D b1
      have d3 := keepD g3 s2 b2 d2
      have b3 := g3.ban D b2
      have d4 := keepD g4 s3 b3 d3
      have b4 := g4.ban D b3
      have r4 : VRs K H4 μ4 acc va := VRs.mono g4 _ _ (VRs.mono g3 _ _ (VRs.mono g2 _ _ r1))
      cases c' with
      | false =>
        rw [if_neg Bool.false_ne_true] at h4 ⊢
        exact ⟨μ4, st4, acc, va, gg4, s4, b4, d4, r4, h4⟩
      | true =>
        rw [if_pos rfl] at h4 ⊢
        rw [M.bind_assoc] at h4
        refine ⟨μ4, st4, ρ3, e3.mono g4, s4, (PostG.calm (PostG.bindAt h4 gg4)).mono fun w H5 ⟨μ5, st5, py, g5, s5, rw5, h5⟩ => ?_⟩
        have gg5 := gg4.trans g5 fun a m => (s5.ban a m).1
        have d5 := keepD g5 s4 b4 d4
        have b5 := g5.ban D b4
        have r5 : VRs K H5 μ5 acc va := VRs.mono g5 _ _ r4
        by_cases hz : acc.length < SZ
        · rw [if_pos hz] at h5
          refine ⟨va, d5, by rw [← VRs.length r5, sz_eq]; exact hz, μ5, st5, acc ++ [py], va ++ [w], ?_, sr_bar b5 s5, b5, upd_same, VRs.monov (gv_bar b5) _ _ (VRs.append r5 (VRs.cons rw5 VRs.nil)), h5⟩
          exact ⟨gg5.pre, gg5.ban, gg5.bnew, gg5.new, fun a o q n => by rw [upd_ne (ne_of_none q hD)]; exact gg5.keep a o q n⟩
        · rw [if_neg hz] at h5
          exact h5.elim
    · have ei : i = ps.length := by omega
      subst ei
      rw [List.drop_length] at h1
      unfold lcG at h1
      rw [show (fun st => if G st = true then Res.ok acc st else Res.bad) = (fun st => if G st = true then M.ret acc st else .bad) from rfl, bind_ifG] at h1
      obtain ⟨hG, h1⟩ := PostG.ifG h1
      exact .inl ⟨(su μ1 H1 st1 g1 s1 hG).2, le μ μ1 st st1 H H1 D acc va E Q sr hD g1 s1 b1 d1 r1 h1⟩
def eLcC (f : List PV → List PV) (k : List PV → M PV) (mi : Rho → M (Nat × List PV)) (g : GM) (t : Rho → M Bool) (e : Rho → M PV) (vs : List Nat) : Rho → M PV := fun ρ => M.bind (mi ρ) fun nx => M.bind (lcG (gd nx.1 nx.2) g t e (wipeP ρ vs) (f nx.2) []) k
section
variable {X : Cx} {W : WX}
theorem lc_tieC {f : List PV → List PV} {mi : Rho → M (Nat × List PV)} {g0 : TG} {g : GM} {t : Rho → M Bool} {e : Rho → M PV} {k : List PV → M PV} {vs : List Nat} (tg : TGo X.K vs g0 g) (le : LcEnd X.K k) : ∀ σ H Q, tM X.K W (eLcC f k mi g t e vs) σ H Q → tLc (tMIC X.K W f mi) g0 (tMT X.K W0 t) (tM X.K W0 e) vs σ H Q :=
  fun σ H Q ⟨μ, st, ρ, er, sr, h⟩ => ⟨μ, st, ρ, er, sr, (PostG.bind h).mono fun J H1 ⟨μ1, st1, nx, g1, s1, su, h1⟩ D hD => lc_impG su (er.mono g1) s1 tg le hD h1⟩
theorem me_lcC {f : List PV → List PV} {elt tgt iter : Expr} {ifs : List Expr} {scope : Scope} {own : List (Str × Nat)} {pos : Pos} {mi : Rho → M (Nat × List PV)} {g0 : TG} {g : GM} {t : Rho → M Bool} {e : Rho → M PV} {k : List PV → M PV} (hc : X.calm = true) (hN : X.N.Nodup) (hi : MIC X W tgt iter f mi) (ok : BlkOk X.N X.env.scope scope own) (tg : TGo X.K (own.map (·.2)) g0 g) (le : LcEnd X.K k)
    (hg : ∀ (s : Shared) (H : Hp) (C : Addr) (cl : List (Str × Addr)) (fp : List Addr), PG (X.blk s H scope (compEnvC scope cl C X.env) fp) tgt g0)
    (ht : ∀ (s : Shared) (H : Hp) (C : Addr) (cl : List (Str × Addr)) (fp : List Addr), MTs (X.blk s H scope (compEnvC scope cl C X.env) fp) W0 ifs t)
    (he : ∀ (s : Shared) (H : Hp) (C : Addr) (cl : List (Str × Addr)) (fp : List Addr), ME (X.blk s H scope (compEnvC scope cl C X.env) fp) W0 elt e) (hs : ∀ x, foldedSetIterable iter X.env x = pure x := by intro _; kernel_rfl) :
    ME X W (.ListComp elt [⟨tgt, iter, ifs, 0⟩] scope pos) (eLcC f k mi g t e (own.map (·.2))) := PE.imp (pe_lc (tt := tMT X.K W0 t) (te := tM X.K W0 e) hc hN hi ok hg ht he hs) (lc_tieC tg le)
theorem ms_setLcC {f : List PV → List PV} {i : Nat} {y : Str} {py spos : Pos} {elt tgt iter : Expr} {ifs : List Expr} {scope : Scope} {own : List (Str × Nat)} {pos : Pos} {mi : Rho → M (Nat × List PV)} {g0 : TG} {g : GM} {t : Rho → M Bool} {e : Rho → M PV} {k : List PV → M PV} (hc : X.calm = true) (hN : X.N.Nodup) (hy : X.N[i]? = some y) (hyl : X.env.scope.names.lookup y = some .local)
    (hsw : swapsWith (.ListComp elt [⟨tgt, iter, ifs, 0⟩] scope pos) (some (.Name y py)) spos.line X.env = pure true) (hi : MIC X W tgt iter f mi) (ok : BlkOk X.N X.env.scope scope own) (tg : TGo X.K (own.map (·.2)) g0 g) (le : LcEnd X.K k)
    (hg : ∀ (s : Shared) (H : Hp) (C : Addr) (cl : List (Str × Addr)) (fp : List Addr), PG (X.blk s H scope (compEnvC scope cl C X.env) fp) tgt g0)
    (ht : ∀ (s : Shared) (H : Hp) (C : Addr) (cl : List (Str × Addr)) (fp : List Addr), MTs (X.blk s H scope (compEnvC scope cl C X.env) fp) W0 ifs t)
    (he : ∀ (s : Shared) (H : Hp) (C : Addr) (cl : List (Str × Addr)) (fp : List Addr), ME (X.blk s H scope (compEnvC scope cl C X.env) fp) W0 elt e) (hs : ∀ x, foldedSetIterable iter X.env x = pure x := by intro _; kernel_rfl) :
    MS X W (.Assign [.Name y py] (.ListComp elt [⟨tgt, iter, ifs, 0⟩] scope pos) spos) (sSet i (eLcC f k mi g t e (own.map (·.2)))) := PS.imp (ps_setLc (tt := tMT X.K W0 t) (te := tM X.K W0 e) hc hN hy hyl hsw hi ok hg ht he hs) fun D σ H ⟨μ, st, ρ, er, sr, h⟩ =>
      lc_tieC tg le σ H _ ⟨μ, st, ρ, er, sr, (PostS.onErr h er).mono fun u H1 ⟨μ1, st1, x, g1, s1, rx, h1⟩ => h1 μ1 H1 _ (Gr.refl _ _) s1 ((er.mono g1).set rx i)⟩
end
end MP

set_option maxRecDepth 100000
set_option maxHeartbeats 3200000
namespace MP
open PySem L2 PySem.Spec PyProof.Rows
def ddS {κ : Type} [DecidableEq κ] (acc : List κ) (k : κ) : List κ := if k ∈ acc then acc else acc ++ [k]
def dd {κ : Type} [DecidableEq κ] (l : List κ) : List κ := l.foldl ddS []
def mem1 {κ : Type} [DecidableEq κ] (l : List κ) (k : κ) : Bool := decide (k ∈ l)
section
variable {κ : Type} [DecidableEq κ]
theorem dd_snoc (l : List κ) (k : κ) : dd (l ++ [k]) = ddS (dd l) k := by simp [dd]
theorem ddS_len (l : List κ) (k : κ) : (ddS l k).length ≤ l.length + 1 := by unfold ddS; split <;> simp
theorem dd_len (l : List κ) : (dd l).length ≤ l.length := by
  have : ∀ (l acc : List κ), (l.foldl ddS acc).length ≤ acc.length + l.length := by
    intro l; induction l with
    | nil => intro acc; simp
    | cons k l ih => intro acc; have := ih (ddS acc k); have := ddS_len acc k; simp; omega
  have q := this l []
  simp only [List.length_nil, Nat.zero_add] at q
  exact q
theorem ddS_mem (l : List κ) (k j : κ) : mem1 (ddS l k) j = (mem1 l j || decide (j = k)) := by
  unfold ddS mem1
  by_cases h : k ∈ l
  · rw [if_pos h]
    by_cases e : j = k
    · subst e; simp [h]
    · simp [e]
  · rw [if_neg h]; simp
theorem ddS_count (l : List κ) (k : κ) : (ddS l k).length = if mem1 l k = true then l.length else l.length + 1 := by
  unfold ddS mem1
  by_cases h : k ∈ l <;> simp [h]
end
section
variable {prog : Program} {w : World} {A : Around} {R : Result → Shared → Prop} {it : Addr} {fp wr : List Addr} {G : Array GenState → Array GenState → Prop} {n : Nat} {P : Nat → Value → Prop} {St : Nat → Shared → Prop} {κ : Type} [DecidableEq κ] {knd : KeyKind prog w κ}
theorem set_stays {h h' : Heap} {a : Addr} {F : κ → Bool} {m : Nat} (x : h.SetOf knd a F m) (hk : ∀ o, h.get? a = some o → h'.get? a = some o) : h'.SetOf knd a F m := by
  obtain ⟨o, es, ep, tb, ho, rest⟩ := x
  exact ⟨o, es, ep, tb, hk o ho, rest⟩
theorem set_like {h : Heap} {a : Addr} {F F' : κ → Bool} {m m' : Nat} (x : h.SetOf knd a F m) (e : ∀ k, F k = F' k) (em : m = m') : h.SetOf knd a F' m' := by
  rw [← em, ← show F = F' from funext e]; exact x
theorem set_loop (W : WalksS prog w A.in1 it fp wr G n P St) (S : Addr) (nS : S ∉ fp) (ks : List κ) (hn : ks.length = n) (hv : ∀ i v, P i v → ∃ k, ks[i]? = some k ∧ knd.is k v = true ∧ v.scannable = true) (hb : n + 1 < scanBound) :
    ∀ (j i : Nat) (sh : Shared), n - i = j → i ≤ n → St i sh → sh.heap.SetOf knd S (mem1 (dd (ks.take i))) (dd (ks.take i)).length →
      (∀ s2, Moved (S :: wr) G sh s2 → s2.heap.SetOf knd S (mem1 (dd ks)) (dd ks).length → R (.ok (.ret .none)) s2) → codeAny (model prog w) A (.builtin "set.update.loop" ⟨[.ref S, .ref it], []⟩) R sh := by
  have nw : S ∉ wr := fun q => nS (W.sub _ q)
  have sb : ∀ b ∈ wr, b ∈ S :: wr := fun b q => List.mem_cons_of_mem _ q
  intro j
  induction j with
  | zero =>
    intro i sh hj hi st hS hR
    have ei : i = n := by omega
    subst ei
    rw [List.take_of_length_le (by omega)] at hS
    refine codeAny_builtin F.entry_set_update_loop ?_
    rw [Around.under_plainId F.plain_set_update_loop _]
    refine (show wpAny _ A.in1 (pyNext (.ref it) >>= _) _ _ sh from wpAny_bind (W.done sh _ _ st fun s2 mv => ?_))
    exact (show wpAny _ A.in1 (ret Value.none) _ _ s2 from wpAny_pure (hR s2 (mv.mono sb) (set_stays hS fun o ho => mv.heap S o nw ho)))
  | succ j ih =>
    intro i sh hj hi st hS hR
    have hlt : i < n := by omega
    refine codeAny_builtin F.entry_set_update_loop ?_
    rw [Around.under_plainId F.plain_set_update_loop _]
    refine (show wpAny _ A.in1 (pyNext (.ref it) >>= _) _ _ sh from wpAny_bind (W.item i sh _ _ hlt st fun v s2 hP st2 mv => ?_))
    obtain ⟨k, ek, isk, sck⟩ := hv i v hP
    have hS2 := set_stays hS (h' := s2.heap) fun o ho => mv.heap S o nw ho
    refine (show wpAny _ A.in1 (holding [v] (setAdd S v) >>= _) _ _ s2 from wpAny_bind (wpAny_holding ?_))
    unfold setAdd
    refine wpAny_holding (wpAny_bind (knd.pyHash isk ?_))
    have room : (dd (ks.take i)).length + 1 < scanBound := by
      have := dd_len (ks.take i)
      have := List.length_take_le i ks
      omega
    refine wpAny_setAddHashed_of (knd := knd) (s := { s2 with toks := s2.toks + 1 }) isk sck hS2 room fun h3 same hS3 => ?_
    have et : ks.take (i + 1) = ks.take i ++ [k] := by rw [List.take_succ, ek]; rfl
    have hS4 : h3.SetOf knd S (mem1 (dd (ks.take (i + 1)))) (dd (ks.take (i + 1))).length :=
      set_like hS3 (fun q => by rw [et, dd_snoc, ddS_mem]) (by rw [et, dd_snoc, ddS_count])
    refine wpAny_pure ⟨plainId_quiet F.plain_set_update_loop _, ih (i + 1) _ (by omega) hlt (W.frame _ s2 _ _ st2 (Nat.le_succ _) fun b hb o e => ?_) hS4 fun s5 mv5 hS5 => ?_⟩
    · rw [same.2 b (fun q => nS (by rw [← q]; exact hb))]; exact e
    · refine hR s5 (Moved.trans W.gtrans ((mv.mono sb).then_heap (Nat.le_succ _) fun b o hb e => ?_) mv5) hS5
      rw [same.2 b (fun q => hb (by rw [q]; exact List.mem_cons_self))]; exact e
end
section
variable {prog : Program} {w : World} {A : Around} {E : Value → Shared → Prop} {sh : Shared} {κ : Type} [DecidableEq κ] {knd : KeyKind prog w κ}
abbrev set0 (led : Bool) : Obj := { cls := .type "set", dict := none, data := .set #[] 0 (.fresh 0 0 led) }
theorem sub_tuple_set : isSubtype (.type "tuple") (.type "set") = pure false := by rw [isSubtype_type]; kernel_rfl
theorem sub_tuple_frozenset : isSubtype (.type "tuple") (.type "frozenset") = pure false := by rw [isSubtype_type]; kernel_rfl
theorem call_setList {l : Addr} {its : Array Value} {ks : List κ} {Q : Value → Shared → Prop} (hh : A.handled = none) (hl : sh.heap.IsList l its)
    (hn : ks.length = its.size) (hv : ∀ (i : Nat) (v : Value), its[i]? = some v → ∃ k, ks[i]? = some k ∧ knd.is k v = true ∧ v.scannable = true) (hb : its.size + 1 < scanBound)
    (hQ : ∀ (h' : Heap) (tk : Nat), h'.SetOf knd sh.heap.objs.size (mem1 (dd ks)) (dd ks).length → (∀ b o, b < sh.heap.objs.size → sh.heap.get? b = some o → h'.get? b = some o) → Q (.ref sh.heap.objs.size) { sh with heap := h', toks := tk }) :
    wpAny (model prog w) A (call (.type "set") [.ref l]) Q E sh := by
  obtain ⟨c0, tl0, hmro⟩ := F.called_set.mro
  have hmade := F.called_set.made
  have hsub := F.called_set.sub
  refine wpAny_call (codeAny_of_tree (show wpAny _ _ (callAny (.type "set") _) _ _ _ from wpAny_pure ⟨Code.quiet_builtin _ (by decide +kernel), codeAny_builtin F.entry_type_call ?_⟩))
  rw [Around.under_plain (weight_type_call_type "set" [.ref l] []) rfl]
  have h1 := F.called_set.notType
  have h2 := F.called_set.canCreate
  have hct := F.typeCall_set_1 (.ref l)
  repeat (any_goals (first | assumption | wp_step))
  refine codeAny_mono (code_set_new_1 (.ref l) (E := E) (Q₁ := fun ob s1 => ∃ led : Bool, ob = .ref sh.heap.objs.size ∧ s1 = { sh with heap := sh.heap.push (set0 led) }) fun led => ⟨led, rfl, rfl⟩) fun r s1 hr => ?_
  cases r with
  | error e => exact hr
  | ok fl =>
    cases fl with
    | ret ob =>
      obtain ⟨led, rfl, rfl⟩ := hr
      have hS : (sh.heap.push (set0 led)).get? sh.heap.objs.size = some (set0 led) := Heap.get?_push_size _ rfl
      have hT : Shared.TypeIs { sh with heap := sh.heap.push (set0 led) } (.ref sh.heap.objs.size) "set" := ⟨_, hS, rfl⟩
      have hli := F.called_set.init.lookup
      have hbi := F.called_set.init.bind (.ref sh.heap.objs.size)
      repeat (any_goals (first | assumption | wp_step))
      refine codeAny_mono (codeAny_call_builtin (R := wants (fun r s2 => r = .none ∧ ∃ h' tk, s2 = { sh with heap := h', toks := tk } ∧ h'.SetOf knd sh.heap.objs.size (mem1 (dd ks)) (dd ks).length ∧
          (∀ b o, b < sh.heap.objs.size → sh.heap.get? b = some o → h'.get? b = some o)) E) F.called_set.init.plain F.entry_set_init (check_set_init_1 hT ?_)) fun r2 s2 hr2 => ?_
      · obtain ⟨ol, hol, hcl, nl, hdl⟩ := hl
        obtain ⟨ocls, odict, odata, oslots⟩ := ol
        simp only at hcl hdl
        subst hcl; subst hdl
        have hol' : (sh.heap.push (set0 led)).get? l = some { cls := .type "list", dict := odict, data := .seq its nl, slots := oslots } := Heap.get?_push_of_some _ hol
        have hsls := F.sub_list_set
        have hslf := F.sub_list_frozenset
        have hne : (Value.type "list" == Value.type "dict") = false := by decide
        have hl1 : (sh.heap.push (set0 led)).IsList l its := ⟨_, hol', rfl, nl, rfl⟩
        unfold Builtin.«set.__init__» noKeywords Builtin.Frozenset.updateFrom
        generalize hPI : pyIter = PI
        wp_walk
        subst hPI
        refine wpAny_pyIter_list hl1 (wpAny_bind (wpAny_runValue ?_))
        have hlS : l < sh.heap.objs.size := Heap.lt_size hol
        have hh3 : A.in1.in1.in1.handled = none := by simp [hh]
        have hz : (sh.heap.push (set0 led)).objs.size = sh.heap.objs.size + 1 := Heap.size_push ..
        have hneI : l ≠ (sh.heap.push (set0 led)).objs.size := by rw [hz]; exact Nat.ne_of_lt (Nat.lt_succ_of_lt hlS)
        have hSf : sh.heap.objs.size ∉ [(sh.heap.push (set0 led)).objs.size, l] := by
          rw [hz]; simp only [List.mem_cons, List.mem_singleton, List.not_mem_nil, or_false, not_or]
          exact ⟨Nat.ne_of_lt (Nat.lt_succ_self _), Nat.ne_of_gt hlS⟩
        refine set_loop ((Walks.list hh3 _ l hneI its).toS) sh.heap.objs.size hSf ks hn hv hb (its.size - 0) 0 _ (by omega) (Nat.zero_le _) ⟨⟨_, Heap.get?_push_size _ rfl, rfl, rfl⟩, (hl1.push _)⟩ ?hS0 ?hR
        case hS0 =>
          have hget : ((sh.heap.push (set0 led)).push { cls := .type "list_iterator", data := .fields #[.ref l, .int 0 0] }).get? sh.heap.objs.size = some (set0 led) := Heap.get?_push_of_some _ hS
          exact set_like ((setObjOf_fresh (knd := knd) led).setOf hget (by unfold scanBound; omega)) (fun k => by simp [dd, mem1]) (by simp [dd])
        case hR =>
          intro s3 hm hS3
          obtain ⟨h3, g3, d3, tk3, os3⟩ := s3
          have eg : g3 = sh.gens := hm.gens
          have ed : d3 = sh.drawn := hm.drawn
          have eo : os3 = sh.os := hm.os
          subst eg; subst ed; subst eo
          refine (show wpAny _ _ _ _ _ _ from wpAny_pure (show wpAny _ _ (ret Value.none) _ _ _ from wpAny_pure ⟨rfl, h3, tk3, rfl, hS3, fun b o hb e => ?_⟩))
          have hb1 : b ≠ sh.heap.objs.size := Nat.ne_of_lt hb
          have hb2 : b ≠ (sh.heap.push (set0 led)).objs.size := by rw [hz]; exact Nat.ne_of_lt (Nat.lt_succ_of_lt hb)
          exact hm.heap b o (by simp only [List.mem_cons, List.mem_singleton, List.not_mem_nil, or_false, not_or]; exact ⟨hb1, hb2⟩) (Heap.get?_push_of_some _ (Heap.get?_push_of_some _ e))
      · cases r2 with
        | error e => exact hr2
        | ok fl2 =>
          cases fl2 with
          | ret r =>
            obtain ⟨rfl, h', tk, rfl, hS', hk'⟩ := hr2
            repeat (any_goals (first | assumption | wp_step))
            exact hQ _ _ hS' hk'
          | _ => exact hr2.elim
    | _ => exact hr.elim
theorem call_setTuple {l : Addr} {its : Array Value} {ks : List κ} {Q : Value → Shared → Prop} (hh : A.handled = none) (hl : sh.heap.IsTuple l its)
    (hn : ks.length = its.size) (hv : ∀ (i : Nat) (v : Value), its[i]? = some v → ∃ k, ks[i]? = some k ∧ knd.is k v = true ∧ v.scannable = true) (hb : its.size + 1 < scanBound)
    (hQ : ∀ (h' : Heap) (tk : Nat), h'.SetOf knd sh.heap.objs.size (mem1 (dd ks)) (dd ks).length → (∀ b o, b < sh.heap.objs.size → sh.heap.get? b = some o → h'.get? b = some o) → Q (.ref sh.heap.objs.size) { sh with heap := h', toks := tk }) :
    wpAny (model prog w) A (call (.type "set") [.ref l]) Q E sh := by
  obtain ⟨c0, tl0, hmro⟩ := F.called_set.mro
  have hmade := F.called_set.made
  have hsub := F.called_set.sub
  refine wpAny_call (codeAny_of_tree (show wpAny _ _ (callAny (.type "set") _) _ _ _ from wpAny_pure ⟨Code.quiet_builtin _ (by decide +kernel), codeAny_builtin F.entry_type_call ?_⟩))
  rw [Around.under_plain (weight_type_call_type "set" [.ref l] []) rfl]
  have h1 := F.called_set.notType
  have h2 := F.called_set.canCreate
  have hct := F.typeCall_set_1 (.ref l)
  repeat (any_goals (first | assumption | wp_step))
  refine codeAny_mono (code_set_new_1 (.ref l) (E := E) (Q₁ := fun ob s1 => ∃ led : Bool, ob = .ref sh.heap.objs.size ∧ s1 = { sh with heap := sh.heap.push (set0 led) }) fun led => ⟨led, rfl, rfl⟩) fun r s1 hr => ?_
  cases r with
  | error e => exact hr
  | ok fl =>
    cases fl with
    | ret ob =>
      obtain ⟨led, rfl, rfl⟩ := hr
      have hS : (sh.heap.push (set0 led)).get? sh.heap.objs.size = some (set0 led) := Heap.get?_push_size _ rfl
      have hT : Shared.TypeIs { sh with heap := sh.heap.push (set0 led) } (.ref sh.heap.objs.size) "set" := ⟨_, hS, rfl⟩
      have hli := F.called_set.init.lookup
      have hbi := F.called_set.init.bind (.ref sh.heap.objs.size)
      repeat (any_goals (first | assumption | wp_step))
      refine codeAny_mono (codeAny_call_builtin (R := wants (fun r s2 => r = .none ∧ ∃ h' tk, s2 = { sh with heap := h', toks := tk } ∧ h'.SetOf knd sh.heap.objs.size (mem1 (dd ks)) (dd ks).length ∧
          (∀ b o, b < sh.heap.objs.size → sh.heap.get? b = some o → h'.get? b = some o)) E) F.called_set.init.plain F.entry_set_init (check_set_init_1 hT ?_)) fun r2 s2 hr2 => ?_
      · obtain ⟨ol, hol, hcl, nl, hdl⟩ := hl
        obtain ⟨ocls, odict, odata, oslots⟩ := ol
        simp only at hcl hdl
        subst hcl; subst hdl
        have hol' : (sh.heap.push (set0 led)).get? l = some { cls := .type "tuple", dict := odict, data := .seq its nl, slots := oslots } := Heap.get?_push_of_some _ hol
        have hsls := sub_tuple_set
        have hslf := sub_tuple_frozenset
        have hne : (Value.type "tuple" == Value.type "dict") = false := by decide
        have hl1 : (sh.heap.push (set0 led)).IsTuple l its := ⟨_, hol', rfl, nl, rfl⟩
        unfold Builtin.«set.__init__» noKeywords Builtin.Frozenset.updateFrom
        generalize hPI : pyIter = PI
        wp_walk
        subst hPI
        refine wpAny_pyIter_tuple hl1 (wpAny_bind (wpAny_runValue ?_))
        have hlS : l < sh.heap.objs.size := Heap.lt_size hol
        have hh3 : A.in1.in1.in1.handled = none := by simp [hh]
        have hz : (sh.heap.push (set0 led)).objs.size = sh.heap.objs.size + 1 := Heap.size_push ..
        have hneI : l ≠ (sh.heap.push (set0 led)).objs.size := by rw [hz]; exact Nat.ne_of_lt (Nat.lt_succ_of_lt hlS)
        have hSf : sh.heap.objs.size ∉ [(sh.heap.push (set0 led)).objs.size, l] := by
          rw [hz]; simp only [List.mem_cons, List.mem_singleton, List.not_mem_nil, or_false, not_or]
          exact ⟨Nat.ne_of_lt (Nat.lt_succ_self _), Nat.ne_of_gt hlS⟩
        refine set_loop ((Walks.tuple hh3 _ l hneI its).toS) sh.heap.objs.size hSf ks hn hv hb (its.size - 0) 0 _ (by omega) (Nat.zero_le _) ⟨⟨_, Heap.get?_push_size _ rfl, rfl, rfl⟩, (hl1.push _)⟩ ?hS0 ?hR
        case hS0 =>
          have hget : ((sh.heap.push (set0 led)).push { cls := .type "tuple_iterator", data := .fields #[.ref l, .int 0 0] }).get? sh.heap.objs.size = some (set0 led) := Heap.get?_push_of_some _ hS
          exact set_like ((setObjOf_fresh (knd := knd) led).setOf hget (by unfold scanBound; omega)) (fun k => by simp [dd, mem1]) (by simp [dd])
        case hR =>
          intro s3 hm hS3
          obtain ⟨h3, g3, d3, tk3, os3⟩ := s3
          have eg : g3 = sh.gens := hm.gens
          have ed : d3 = sh.drawn := hm.drawn
          have eo : os3 = sh.os := hm.os
          subst eg; subst ed; subst eo
          refine (show wpAny _ _ _ _ _ _ from wpAny_pure (show wpAny _ _ (ret Value.none) _ _ _ from wpAny_pure ⟨rfl, h3, tk3, rfl, hS3, fun b o hb e => ?_⟩))
          have hb1 : b ≠ sh.heap.objs.size := Nat.ne_of_lt hb
          have hb2 : b ≠ (sh.heap.push (set0 led)).objs.size := by rw [hz]; exact Nat.ne_of_lt (Nat.lt_succ_of_lt hb)
          exact hm.heap b o (by simp only [List.mem_cons, List.mem_singleton, List.not_mem_nil, or_false, not_or]; exact ⟨hb1, hb2⟩) (Heap.get?_push_of_some _ (Heap.get?_push_of_some _ e))
      · cases r2 with
        | error e => exact hr2
        | ok fl2 =>
          cases fl2 with
          | ret r =>
            obtain ⟨rfl, h', tk, rfl, hS', hk'⟩ := hr2
            repeat (any_goals (first | assumption | wp_step))
            exact hQ _ _ hS' hk'
          | _ => exact hr2.elim
    | _ => exact hr.elim
end
def keysOf : List PV → Option (List Key)
  | [] => some []
  | p :: r => match keyOf p, keysOf r with
    | some k, some ks => some (k :: ks)
    | _, _ => none
theorem keysOf_at {K : PySem.W.Frag} {H : Hp} {μ : Mu} : ∀ {ps : List PV} {vs : List V} {ks : List Key}, VRs K H μ ps vs → keysOf ps = some ks → vs = ks.map kV
  | [], vs, ks, r, h => by cases h; exact r
  | p :: ps, vs, ks, r, h => by
    obtain ⟨v, t, rfl, r1, r2⟩ := (show ∃ v t, vs = v :: t ∧ VR K H μ p v ∧ VRs K H μ ps t from r)
    unfold keysOf at h
    cases q1 : keyOf p with
    | none => rw [q1] at h; cases h
    | some k =>
      cases q2 : keysOf ps with
      | none => rw [q1, q2] at h; cases h
      | some cs =>
        rw [q1, q2] at h
        cases h
        rw [List.map_cons, keysOf_at r2 q2, keyOf_kV q1 r1]
def lenSetM (x : PV) : M PV := fun st => match seqOf x st with
  | some xs => match keysOf xs with
    | some ks => if ks.length ≤ 1000 then .ok (.int ((dd ks).length : Nat)) st else .bad
    | none => .bad
  | none => .bad
theorem keys_items {ks : List Key} {us : List Value} (r : Vals (ks.map kV) us) {P : Program} {w : World} : ∀ (i : Nat) (v : Value), us.toArray[i]? = some v → ∃ k, ks[i]? = some k ∧ (mixKind P w).is k v = true ∧ v.scannable = true := by
  intro i v h
  have h' : us[i]? = some v := by simpa using h
  have hl := r.length
  rw [List.length_map] at hl
  have hi : i < ks.length := by rw [hl]; exact (List.getElem?_eq_some_iff.mp h').1
  obtain ⟨u, e1, e2⟩ := r.get (show (ks.map kV)[i]? = some (kV ks[i]) by simp [hi])
  have eu : u = v := Option.some.inj (e1.symm.trans h')
  subst eu
  exact ⟨ks[i], by simp [hi], kV_is e2, key_scan e2⟩
section
variable {X : Cx} {W : WX} {a : Expr} {ma : Rho → M PV} {p p2 q pos : Pos}
def tLenSetK (K : PySem.W.Frag) (ta : TE) : TE := fun σ H Q => ta σ H fun x H1 => ∃ (l : Addr) (ks : List Key), x = V.ref l ∧ (SqL K H1 l (ks.map kV) ∨ SqT K H1 l (ks.map kV)) ∧ ks.length ≤ 1000 ∧ Q (.int ((dd ks).length : Nat)) H1
theorem pe_lenSetK {ta : TE} (hc : X.calm = true) (hg : Gl X "len") (hm : X.mg "len" = none) (hg2 : Gl X "set") (hm2 : X.mg "set" = none) (ha : PE X a ta) (na : starEach [a] X.env = (false, eval a X.env) :: starEach [] X.env)
    (nb : starEach [.Call (.Name "set" p2) [a] [] q] X.env = (false, eval (.Call (.Name "set" p2) [a] [] q) X.env) :: starEach [] X.env) : PE X (.Call (.Name "len" p) [.Call (.Name "set" p2) [a] [] q] [] pos) (tLenSetK X.K ta) := by
  refine ⟨fun pins s σ H Q I h => Call_ (ld_blt I hg hm PySem.boot_len (callWith_builtin1 (args_cons (Call_ (ld_blt I hg2 hm2 boot_set ?_)) nb) nb rfl))⟩
  refine callWith_type1 (args_cons (thn (ha.run pins s σ H _ I h) fun v s1 ⟨x, H1, I1, r1, q1⟩ => args_nil ?_) na) na rfl
  obtain ⟨l, ks, rfl, hq, h1, q1⟩ := q1
  cases r1
  have fin : ∀ (h' : Heap) (tk : Nat), h'.SetOf (mixKind X.prog X.w) s1.heap.objs.size (mem1 (dd ks)) (dd ks).length → (∀ b o, b < s1.heap.objs.size → s1.heap.get? b = some o → h'.get? b = some o) →
      wpAny (model X.prog X.w) X.A (call (.builtin "len") [.ref s1.heap.objs.size]) (EP X pins σ Q) X.xe { s1 with heap := h', toks := tk } := fun h' tk hS hk => by
    obtain ⟨o, es, ep, t, ho, hex, hd, _, _, hsz, hf, hn⟩ := hS
    have I2 : Inv X pins σ H1 { s1 with heap := h', toks := tk } := I1.kept fun b o e => hk b o (Heap.lt_size e) e
    have := dd_len ks
    exact call_len_set ho hex hd hf (by rw [hn]; omega) ⟨.int ((dd ks).length : Nat), H1, I2.tok _, ⟨_, by rw [hn]⟩, q1⟩
  rcases hq with hq | hq
  · obtain ⟨its, r, pl, hz⟩ := I1.list hq
    have hl : its.toArray.size = ks.length := by rw [List.size_toArray, ← r.length, List.length_map]
    exact call_setList (I1.ok.hd hc) pl.isList hl.symm (keys_items r) (by rw [hl]; unfold scanBound; omega) fun h' tk hS hk => args_nil (fin h' tk hS hk)
  · obtain ⟨its, r, pl, hz⟩ := I1.tuple hq
    have hl : its.toArray.size = ks.length := by rw [List.size_toArray, ← r.length, List.length_map]
    exact call_setTuple (I1.ok.hd hc) pl hl.symm (keys_items r) (by rw [hl]; unfold scanBound; omega) fun h' tk hS hk => args_nil (fin h' tk hS hk)
theorem me_lenSet (hc : X.calm = true) (hg : Gl X "len") (hm : X.mg "len" = none) (hg2 : Gl X "set") (hm2 : X.mg "set" = none) (ha : ME X W a ma) (na : starEach [a] X.env = (false, eval a X.env) :: starEach [] X.env := by kernel_rfl)
    (nb : starEach [.Call (.Name "set" p2) [a] [] q] X.env = (false, eval (.Call (.Name "set" p2) [a] [] q) X.env) :: starEach [] X.env := by kernel_rfl) : ME X W (.Call (.Name "len" p) [.Call (.Name "set" p2) [a] [] q] [] pos) (eUn lenSetM ma) :=
  PE.imp (pe_lenSetK hc hg hm hg2 hm2 ha na nb) fun σ H Q ⟨μ, st, ρ, er, sr, h⟩ => ⟨μ, st, ρ, er, sr, (PostG.bind h).mono fun u H1 ⟨μ1, st1, x, g1, s1, rx, h1⟩ => by
    unfold lenSetM at h1
    cases q1 : seqOf x st1 with
    | none => rw [q1] at h1; exact h1.elim
    | some xs =>
      rw [q1] at h1
      dsimp only at h1
      cases q2 : keysOf xs with
      | none => rw [q2] at h1; exact h1.elim
      | some ks =>
        rw [q2] at h1
        dsimp only at h1
        by_cases hk : ks.length ≤ 1000
        · rw [if_pos hk] at h1
          obtain ⟨l, vs, rfl, hq, rs⟩ := seqOf_at s1 rx q1
          have ev := keysOf_at rs q2
          subst ev
          exact ⟨l, ks, rfl, hq, hk, post_same h1 s1 rfl⟩
        · rw [if_neg hk] at h1; exact h1.elim⟩
end
end MP

set_option maxRecDepth 100000
set_option maxHeartbeats 1000000
namespace MP
open PySem L2
def Z {α : Type} (r : Res α) (Q : α → Sto → Prop) (E : Exn → Sto → Prop) : Prop := match r with
  | .ok a st => Q a st
  | .err x st => E x st
  | .bad => False
def E0 : Exn → Sto → Prop := fun _ _ => False
abbrev KP := PV → Sto → Prop
abbrev KB := Bool → Sto → Prop
abbrev KLs := List PV → Sto → Prop
abbrev KR := Rho → Sto → Prop
abbrev KF := Fl → Sto → Prop
abbrev KU := Unit → Sto → Prop
abbrev KO := Option Int → Sto → Prop
abbrev KI := Int → Sto → Prop
abbrev KX := Exn → Sto → Prop
abbrev KD := List (PV × PV) → Sto → Prop
abbrev ME1 := Rho → M PV
abbrev MT1 := Rho → M Bool
abbrev MS1 := Rho → M Fl
abbrev ML1 := Rho → M (List PV)
section
variable {α β : Type} {st : Sto} {ρ : Rho} {Q : α → Sto → Prop} {E : KX} {QP : KP} {QF : KF} {QB : KB} {QL : KLs} {QR : KR} {QO : KO} {QI : KI} {QU : KU} {QD : KD}
@[simp ↓] theorem Z_ok {a : α} : Z (.ok a st) Q E = Q a st := propext Iff.rfl
@[simp ↓] theorem Z_err {x : Exn} : Z (.err x st : Res α) Q E = E x st := propext Iff.rfl
@[simp ↓] theorem Z_bad : Z (.bad : Res α) Q E = False := propext Iff.rfl
theorem Z.imp {r : Res α} {Q Q' : α → Sto → Prop} {E E' : KX} (h : Z r Q E) (hq : ∀ a st, Q a st → Q' a st) (he : ∀ x st, E x st → E' x st) : Z r Q' E' := by
  cases r with
  | ok a st => exact hq a st h
  | err x st => exact he x st h
  | bad => exact h
theorem Z.go {r : Res α} {Q Q' : α → Sto → Prop} {E' : KX} (h : Z r Q E0) (hq : ∀ a st, Q a st → Q' a st) : Z r Q' E' := h.imp hq fun _ _ h => False.elim h
@[simp ↓] theorem Z_ret {a : α} : Z (M.ret a st) Q E = Q a st := propext Iff.rfl
@[simp ↓] theorem Z_fail : Z ((M.fail : M α) st) Q E = False := propext Iff.rfl
theorem Z_bind {m : M β} {f : β → M α} : Z (M.bind m f st) Q E = Z (m st) (fun a st' => Z (f a st') Q E) E := by
  unfold M.bind; cases m st <;> rfl
@[simp ↓] theorem Z_calm {m : M α} : Z (M.calm m st) Q E = Z (m st) Q E0 := by
  unfold M.calm; cases m st <;> rfl
theorem Z_onErr {m : M α} {k : α → M Fl} : Z (onErr ρ m k st) QF E = Z (m st) (fun a s => Z (k a s) QF E) (fun x s => QF (.exc x ρ) s) := by
  unfold onErr; cases m st <;> rfl
theorem Z_ite {c : Prop} [Decidable c] {m m' : M α} : Z ((if c then m else m') st) Q E = if c then Z (m st) Q E else Z (m' st) Q E := by split <;> rfl
theorem Z_iteR {c : Prop} [Decidable c] {r r' : Res α} : Z (if c then r else r') Q E = if c then Z r Q E else Z r' Q E := by split <;> rfl
@[simp ↓] theorem Z_eVar {i : Nat} {p : PV} (h : ρ[i]? = some (some p)) : Z (eVar i ρ st) QP E = QP p st := by unfold eVar; rw [h]; rfl
@[simp ↓] theorem Z_eC {p : PV} : Z (eC p ρ st) QP E = QP p st := propext Iff.rfl
@[simp ↓] theorem Z_asB {b : Bool} : Z (asB (.bl b) st) QB E = QB b st := propext Iff.rfl
@[simp ↓] theorem Z_asI {i : Int} : Z (asI (.int i) st) QI E = QI i st := propext Iff.rfl
@[simp ↓] theorem Z_aNil : Z (aNil ρ st) QL E = QL [] st := propext Iff.rfl
@[simp ↓] theorem Z_oNone : Z (oNone ρ st) QO E = QO none st := propext Iff.rfl
@[simp ↓] theorem Z_sNext : Z (sNext ρ st) QF E = QF (.next ρ) st := propext Iff.rfl
@[simp ↓] theorem Z_sPass : Z (sPass ρ st) QF E = QF (.next ρ) st := propext Iff.rfl
@[simp ↓] theorem Z_sBreak : Z (sBreak ρ st) QF E = QF (.brk ρ) st := propext Iff.rfl
@[simp ↓] theorem Z_sCont : Z (sCont ρ st) QF E = QF (.cont ρ) st := propext Iff.rfl
@[simp ↓] theorem Z_sRetN : Z (sRetN ρ st) QF E = QF (.ret .non) st := propext Iff.rfl
@[simp ↓] theorem Z_gN {i : Nat} {p : PV} : Z (gN i p ρ st) QR E = QR (ρ.set i (some p)) st := propext Iff.rfl
def kB2 (g : PV → PV → M PV) (x : PV) (QP : KP) (E : KX) : PV → Sto → Prop := fun y s => Z (g x y s) QP E
@[simp ↓] theorem kB2_at {g : PV → PV → M PV} {x : PV} {QP : KP} {E : KX} {y : PV} {s : Sto} : kB2 g x QP E y s = (Z (g x y s) QP E) := propext Iff.rfl
def kB1 (g : PV → PV → M PV) (mb : ME1) (ρ : Rho) (QP : KP) (E : KX) : PV → Sto → Prop := fun x s => Z (mb ρ s) (kB2 g x QP E) E
@[simp ↓] theorem kB1_at {g : PV → PV → M PV} {mb : ME1} {ρ : Rho} {QP : KP} {E : KX} {x : PV} {s : Sto} : kB1 g mb ρ QP E x s = (Z (mb ρ s) (kB2 g x QP E) E) := propext Iff.rfl
@[simp ↓] theorem Z_eBin {g : PV → PV → M PV} {ma mb : ME1} : Z (eBin g ma mb ρ st) QP E = Z (ma ρ st) (kB1 g mb ρ QP E) E := by
  unfold eBin; rw [Z_bind]; simp only [Z_bind]; rfl
def kU (g : PV → M PV) (QP : KP) (E : KX) : PV → Sto → Prop := fun x s => Z (g x s) QP E
@[simp ↓] theorem kU_at {g : PV → M PV} {QP : KP} {E : KX} {x : PV} {s : Sto} : kU g QP E x s = (Z (g x s) QP E) := propext Iff.rfl
@[simp ↓] theorem Z_eUn {g : PV → M PV} {ma : ME1} : Z (eUn g ma ρ st) QP E = Z (ma ρ st) (kU g QP E) E := by
  unfold eUn; rw [Z_bind]; rfl
def kAs (QB : KB) (E : KX) : PV → Sto → Prop := fun x s => Z (asB x s) QB E
@[simp ↓] theorem kAs_bl {QB : KB} {E : KX} {b : Bool} {s : Sto} : kAs QB E (.bl b) s = QB b s := propext Iff.rfl
@[simp ↓] theorem Z_eB {m : ME1} : Z (eB m ρ st) QB E = Z (m ρ st) (kAs QB E) E := by
  unfold eB; rw [Z_bind]; rfl
def kAnd (u : MT1) (ρ : Rho) (QB : KB) (E : KX) : Bool → Sto → Prop := fun c s => if c = true then Z (u ρ s) QB E else QB false s
@[simp ↓] theorem kAnd_t {u : MT1} {ρ : Rho} {QB : KB} {E : KX} {s : Sto} : kAnd u ρ QB E true s = (Z (u ρ s) QB E) := propext Iff.rfl
@[simp ↓] theorem kAnd_f {u : MT1} {ρ : Rho} {QB : KB} {E : KX} {s : Sto} : kAnd u ρ QB E false s = (QB false s) := propext Iff.rfl
theorem kAnd_of {u : MT1} {ρ : Rho} {QB : KB} {E : KX} {c : Bool} {s : Sto} (h : c = true → Z (u ρ s) QB E) (h' : c = false → QB false s) : kAnd u ρ QB E c s := by
  cases c
  · exact h' rfl
  · exact h rfl
@[simp ↓] theorem Z_tAnd {t u : MT1} : Z (tAndM t u ρ st) QB E = Z (t ρ st) (kAnd u ρ QB E) E := by
  unfold tAndM; rw [Z_bind]; congr 1; funext c s; cases c <;> rfl
def kOr (u : MT1) (ρ : Rho) (QB : KB) (E : KX) : Bool → Sto → Prop := fun c s => if c = true then QB true s else Z (u ρ s) QB E
@[simp ↓] theorem kOr_t {u : MT1} {ρ : Rho} {QB : KB} {E : KX} {s : Sto} : kOr u ρ QB E true s = (QB true s) := propext Iff.rfl
@[simp ↓] theorem kOr_f {u : MT1} {ρ : Rho} {QB : KB} {E : KX} {s : Sto} : kOr u ρ QB E false s = (Z (u ρ s) QB E) := propext Iff.rfl
theorem kOr_of {u : MT1} {ρ : Rho} {QB : KB} {E : KX} {c : Bool} {s : Sto} (h : c = true → QB true s) (h' : c = false → Z (u ρ s) QB E) : kOr u ρ QB E c s := by
  cases c
  · exact h' rfl
  · exact h rfl
@[simp ↓] theorem Z_tOr {t u : MT1} : Z (tOrM t u ρ st) QB E = Z (t ρ st) (kOr u ρ QB E) E := by
  unfold tOrM; rw [Z_bind]; congr 1; funext c s; cases c <;> rfl
def kNot (QB : KB) : Bool → Sto → Prop := fun c s => QB (!c) s
@[simp ↓] theorem kNot_at {QB : KB} {c : Bool} {s : Sto} : kNot QB c s = (QB (!c) s) := propext Iff.rfl
@[simp ↓] theorem Z_tNot {t : MT1} : Z (tNotM t ρ st) QB E = Z (t ρ st) (kNot QB) E := by
  unfold tNotM; rw [Z_bind]; rfl
def kAndV (mb : ME1) (ρ : Rho) (QP : KP) (E : KX) : Bool → Sto → Prop := fun c s => if c = true then Z (mb ρ s) QP E else QP (.bl false) s
@[simp ↓] theorem kAndV_t {mb : ME1} {ρ : Rho} {QP : KP} {E : KX} {s : Sto} : kAndV mb ρ QP E true s = (Z (mb ρ s) QP E) := propext Iff.rfl
@[simp ↓] theorem kAndV_f {mb : ME1} {ρ : Rho} {QP : KP} {E : KX} {s : Sto} : kAndV mb ρ QP E false s = (QP (.bl false) s) := propext Iff.rfl
theorem kAndV_of {mb : ME1} {ρ : Rho} {QP : KP} {E : KX} {c : Bool} {s : Sto} (h : c = true → Z (mb ρ s) QP E) (h' : c = false → QP (.bl false) s) : kAndV mb ρ QP E c s := by
  cases c
  · exact h' rfl
  · exact h rfl
@[simp ↓] theorem Z_eAnd {ma mb : ME1} : Z (eAndV ma mb ρ st) QP E = Z (ma ρ st) (kAs (kAndV mb ρ QP E) E) E := by
  unfold eAndV; rw [Z_bind]; congr 1; funext x s; rw [Z_bind]; show Z _ _ _ = Z _ _ _; congr 1; funext c s; cases c <;> rfl
def kOrV (mb : ME1) (ρ : Rho) (QP : KP) (E : KX) : Bool → Sto → Prop := fun c s => if c = true then QP (.bl true) s else Z (mb ρ s) QP E
@[simp ↓] theorem kOrV_t {mb : ME1} {ρ : Rho} {QP : KP} {E : KX} {s : Sto} : kOrV mb ρ QP E true s = (QP (.bl true) s) := propext Iff.rfl
@[simp ↓] theorem kOrV_f {mb : ME1} {ρ : Rho} {QP : KP} {E : KX} {s : Sto} : kOrV mb ρ QP E false s = (Z (mb ρ s) QP E) := propext Iff.rfl
theorem kOrV_of {mb : ME1} {ρ : Rho} {QP : KP} {E : KX} {c : Bool} {s : Sto} (h : c = true → QP (.bl true) s) (h' : c = false → Z (mb ρ s) QP E) : kOrV mb ρ QP E c s := by
  cases c
  · exact h' rfl
  · exact h rfl
@[simp ↓] theorem Z_eOr {ma mb : ME1} : Z (eOrV ma mb ρ st) QP E = Z (ma ρ st) (kAs (kOrV mb ρ QP E) E) E := by
  unfold eOrV; rw [Z_bind]; congr 1; funext x s; rw [Z_bind]; show Z _ _ _ = Z _ _ _; congr 1; funext c s; cases c <;> rfl
def kNotV (QP : KP) : Bool → Sto → Prop := fun c s => QP (.bl (!c)) s
@[simp ↓] theorem kNotV_at {QP : KP} {c : Bool} {s : Sto} : kNotV QP c s = (QP (.bl (!c)) s) := propext Iff.rfl
@[simp ↓] theorem Z_eNot {ma : ME1} : Z (eNotV ma ρ st) QP E = Z (ma ρ st) (kAs (kNotV QP) E) E := by
  unfold eNotV; rw [Z_bind]; congr 1; funext x s; rw [Z_bind]; rfl
def kIf (ma : ME1) (mb : ME1) (ρ : Rho) (QP : KP) (E : KX) : Bool → Sto → Prop := fun c s => if c = true then Z (ma ρ s) QP E else Z (mb ρ s) QP E
@[simp ↓] theorem kIf_t {ma : ME1} {mb : ME1} {ρ : Rho} {QP : KP} {E : KX} {s : Sto} : kIf ma mb ρ QP E true s = (Z (ma ρ s) QP E) := propext Iff.rfl
@[simp ↓] theorem kIf_f {ma : ME1} {mb : ME1} {ρ : Rho} {QP : KP} {E : KX} {s : Sto} : kIf ma mb ρ QP E false s = (Z (mb ρ s) QP E) := propext Iff.rfl
theorem kIf_of {ma : ME1} {mb : ME1} {ρ : Rho} {QP : KP} {E : KX} {c : Bool} {s : Sto} (h : c = true → Z (ma ρ s) QP E) (h' : c = false → Z (mb ρ s) QP E) : kIf ma mb ρ QP E c s := by
  cases c
  · exact h' rfl
  · exact h rfl
@[simp ↓] theorem Z_eIf {t : MT1} {ma mb : ME1} : Z (eIf t ma mb ρ st) QP E = Z (t ρ st) (kIf ma mb ρ QP E) E := by
  unfold eIf; rw [Z_bind]; congr 1; funext c s; cases c <;> rfl
def kA2 (x : PV) (QL : KLs) : List PV → Sto → Prop := fun xs s => QL (x :: xs) s
@[simp ↓] theorem kA2_at {x : PV} {QL : KLs} {xs : List PV} {s : Sto} : kA2 x QL xs s = (QL (x :: xs) s) := propext Iff.rfl
def kA1 (r : ML1) (ρ : Rho) (QL : KLs) (E : KX) : PV → Sto → Prop := fun x s => Z (r ρ s) (kA2 x QL) E
@[simp ↓] theorem kA1_at {r : ML1} {ρ : Rho} {QL : KLs} {E : KX} {x : PV} {s : Sto} : kA1 r ρ QL E x s = (Z (r ρ s) (kA2 x QL) E) := propext Iff.rfl
@[simp ↓] theorem Z_aCons {m : ME1} {r : ML1} : Z (aCons m r ρ st) QL E = Z (m ρ st) (kA1 r ρ QL E) E := by
  unfold aCons; rw [Z_bind]; congr 1; funext x s; rw [Z_bind]; rfl
def kF (f : List PV → M PV) (QP : KP) (E : KX) : List PV → Sto → Prop := fun xs s => Z (f xs s) QP E
@[simp ↓] theorem kF_at {f : List PV → M PV} {QP : KP} {E : KX} {xs : List PV} {s : Sto} : kF f QP E xs s = (Z (f xs s) QP E) := propext Iff.rfl
@[simp ↓] theorem Z_eCall {f : List PV → M PV} {m : ML1} : Z (eCall f m ρ st) QP E = Z (m ρ st) (kF f QP E) E := by
  unfold eCall; rw [Z_bind]; rfl
def kM3 (f : PV → List PV → M PV) (o : PV) (QP : KP) (E : KX) : List PV → Sto → Prop := fun xs s => Z (f o xs s) QP E
@[simp ↓] theorem kM3_at {f : PV → List PV → M PV} {o : PV} {QP : KP} {E : KX} {xs : List PV} {s : Sto} : kM3 f o QP E xs s = (Z (f o xs s) QP E) := propext Iff.rfl
def kM2 (f : PV → List PV → M PV) (ma : ML1) (ρ : Rho) (o : PV) (QP : KP) (E : KX) : Unit → Sto → Prop := fun _ s => Z (ma ρ s) (kM3 f o QP E) E
@[simp ↓] theorem kM2_at {f : PV → List PV → M PV} {ma : ML1} {ρ : Rho} {o : PV} {QP : KP} {E : KX} {a : Unit} {s : Sto} : kM2 f ma ρ o QP E a s = (Z (ma ρ s) (kM3 f o QP E) E) := propext Iff.rfl
def kM1 (T : String) (f : PV → List PV → M PV) (ma : ML1) (ρ : Rho) (QP : KP) (E : KX) : PV → Sto → Prop := fun o s => Z (tyC T o s) (kM2 f ma ρ o QP E) E
@[simp ↓] theorem kM1_at {T : String} {f : PV → List PV → M PV} {ma : ML1} {ρ : Rho} {QP : KP} {E : KX} {o : PV} {s : Sto} : kM1 T f ma ρ QP E o s = (Z (tyC T o s) (kM2 f ma ρ o QP E) E) := propext Iff.rfl
@[simp ↓] theorem Z_eMeth {T : String} {f : PV → List PV → M PV} {mo : ME1} {ma : ML1} : Z (eMeth T f mo ma ρ st) QP E = Z (mo ρ st) (kM1 T f ma ρ QP E) E := by
  unfold eMeth; rw [Z_bind]; simp only [Z_bind]; rfl
def kC3 (g : PV → PV → M PV) (mc : ME1) (ρ : Rho) (y : PV) (QP : KP) (E : KX) : Bool → Sto → Prop := fun c s => if c = true then Z (mc ρ s) (kB2 g y QP E) E else QP (.bl false) s
@[simp ↓] theorem kC3_t {g : PV → PV → M PV} {mc : ME1} {ρ : Rho} {y : PV} {QP : KP} {E : KX} {s : Sto} : kC3 g mc ρ y QP E true s = (Z (mc ρ s) (kB2 g y QP E) E) := propext Iff.rfl
@[simp ↓] theorem kC3_f {g : PV → PV → M PV} {mc : ME1} {ρ : Rho} {y : PV} {QP : KP} {E : KX} {s : Sto} : kC3 g mc ρ y QP E false s = (QP (.bl false) s) := propext Iff.rfl
theorem kC3_of {g : PV → PV → M PV} {mc : ME1} {ρ : Rho} {y : PV} {QP : KP} {E : KX} {c : Bool} {s : Sto} (h : c = true → Z (mc ρ s) (kB2 g y QP E) E) (h' : c = false → QP (.bl false) s) : kC3 g mc ρ y QP E c s := by
  cases c
  · exact h' rfl
  · exact h rfl
def kC2 (f : PV → PV → M PV) (g : PV → PV → M PV) (mc : ME1) (ρ : Rho) (x : PV) (QP : KP) (E : KX) : PV → Sto → Prop := fun y s => Z (f x y s) (kAs (kC3 g mc ρ y QP E) E) E
@[simp ↓] theorem kC2_at {f : PV → PV → M PV} {g : PV → PV → M PV} {mc : ME1} {ρ : Rho} {x : PV} {QP : KP} {E : KX} {y : PV} {s : Sto} : kC2 f g mc ρ x QP E y s = (Z (f x y s) (kAs (kC3 g mc ρ y QP E) E) E) := propext Iff.rfl
def kC1 (f : PV → PV → M PV) (g : PV → PV → M PV) (mb : ME1) (mc : ME1) (ρ : Rho) (QP : KP) (E : KX) : PV → Sto → Prop := fun x s => Z (mb ρ s) (kC2 f g mc ρ x QP E) E
@[simp ↓] theorem kC1_at {f : PV → PV → M PV} {g : PV → PV → M PV} {mb : ME1} {mc : ME1} {ρ : Rho} {QP : KP} {E : KX} {x : PV} {s : Sto} : kC1 f g mb mc ρ QP E x s = (Z (mb ρ s) (kC2 f g mc ρ x QP E) E) := propext Iff.rfl
@[simp ↓] theorem Z_eChain {f g : PV → PV → M PV} {ma mb mc : ME1} : Z (eChain f g ma mb mc ρ st) QP E = Z (ma ρ st) (kC1 f g mb mc ρ QP E) E := by
  unfold eChain; rw [Z_bind]; congr 1; funext x s; rw [Z_bind]; show Z _ _ _ = Z _ _ _; congr 1; funext y s; rw [Z_bind]; show Z _ _ _ = Z _ _ _; congr 1; funext z s; rw [Z_bind]; show Z _ _ _ = Z _ _ _; congr 1; funext c s; cases c
  · rfl
  · show Z (M.bind _ _ _) _ _ = _; rw [Z_bind]; rfl
def seqQ (m' : MS1) (Q : KF) (E : KX) : Fl → Sto → Prop
  | .next ρ, st => Z (m' ρ st) Q E
  | fl, st => Q fl st
@[simp] theorem seqQ_next {m' : MS1} : seqQ m' QF E (.next ρ) st = Z (m' ρ st) QF E := propext Iff.rfl
@[simp] theorem seqQ_ret {m' : MS1} {v : PV} : seqQ m' QF E (.ret v) st = QF (.ret v) st := propext Iff.rfl
@[simp] theorem seqQ_brk {m' : MS1} : seqQ m' QF E (.brk ρ) st = QF (.brk ρ) st := propext Iff.rfl
@[simp] theorem seqQ_cont {m' : MS1} : seqQ m' QF E (.cont ρ) st = QF (.cont ρ) st := propext Iff.rfl
@[simp] theorem seqQ_exc {m' : MS1} {x : Exn} : seqQ m' QF E (.exc x ρ) st = QF (.exc x ρ) st := propext Iff.rfl
@[simp ↓] theorem Z_sSeq {m m' : MS1} : Z (sSeq m m' ρ st) QF E = Z (m ρ st) (seqQ m' QF E) E := by
  unfold sSeq
  cases m ρ st with
  | ok f s => cases f <;> rfl
  | err x s => rfl
  | bad => rfl
def turnQ (k : MS1) (Q : KF) (E : KX) : Fl → Sto → Prop
  | .next ρ, st => Z (k ρ st) Q E
  | .cont ρ, st => Z (k ρ st) Q E
  | .brk ρ, st => Q (.next ρ) st
  | fl, st => Q fl st
@[simp] theorem turnQ_next {k : MS1} : turnQ k QF E (.next ρ) st = Z (k ρ st) QF E := propext Iff.rfl
@[simp] theorem turnQ_cont {k : MS1} : turnQ k QF E (.cont ρ) st = Z (k ρ st) QF E := propext Iff.rfl
@[simp] theorem turnQ_brk {k : MS1} : turnQ k QF E (.brk ρ) st = QF (.next ρ) st := propext Iff.rfl
@[simp] theorem turnQ_ret {k : MS1} {v : PV} : turnQ k QF E (.ret v) st = QF (.ret v) st := propext Iff.rfl
@[simp] theorem turnQ_exc {k : MS1} {x : Exn} : turnQ k QF E (.exc x ρ) st = QF (.exc x ρ) st := propext Iff.rfl
@[simp ↓] theorem Z_turn {k : MS1} {m : M Fl} : Z (turnL k m st) QF E = Z (m st) (turnQ k QF E) E := by
  unfold turnL
  cases m st with
  | ok f s => cases f <;> rfl
  | err x s => rfl
  | bad => rfl
def kX (ρ : Rho) (QF : KF) : Exn → Sto → Prop := fun x s => QF (.exc x ρ) s
@[simp ↓] theorem kX_at {ρ : Rho} {QF : KF} {x : Exn} {s : Sto} : kX ρ QF x s = (QF (.exc x ρ) s) := propext Iff.rfl
def kDrop (ρ : Rho) (QF : KF) : PV → Sto → Prop := fun _ s => QF (.next ρ) s
@[simp ↓] theorem kDrop_at {ρ : Rho} {QF : KF} {a : PV} {s : Sto} : kDrop ρ QF a s = (QF (.next ρ) s) := propext Iff.rfl
@[simp ↓] theorem Z_sDrop {me : ME1} : Z (sDrop me ρ st) QF E = Z (me ρ st) (kDrop ρ QF) (kX ρ QF) := by
  unfold sDrop; rw [Z_onErr]; rfl
def kRet (QF : KF) : PV → Sto → Prop := fun v s => QF (.ret v) s
@[simp ↓] theorem kRet_at {QF : KF} {v : PV} {s : Sto} : kRet QF v s = (QF (.ret v) s) := propext Iff.rfl
@[simp ↓] theorem Z_sRet {me : ME1} : Z (sRet me ρ st) QF E = Z (me ρ st) (kRet QF) (kX ρ QF) := by
  unfold sRet; rw [Z_onErr]; rfl
def kSet (i : Nat) (ρ : Rho) (QF : KF) : PV → Sto → Prop := fun v s => QF (.next (ρ.set i (some v))) s
@[simp ↓] theorem kSet_at {i : Nat} {ρ : Rho} {QF : KF} {v : PV} {s : Sto} : kSet i ρ QF v s = (QF (.next (ρ.set i (some v))) s) := propext Iff.rfl
@[simp ↓] theorem Z_sSet {i : Nat} {me : ME1} : Z (sSet i me ρ st) QF E = Z (me ρ st) (kSet i ρ QF) (kX ρ QF) := by
  unfold sSet; rw [Z_onErr]; rfl
def kSIf (m : MS1) (m' : MS1) (ρ : Rho) (QF : KF) (E : KX) : Bool → Sto → Prop := fun c s => if c = true then Z (m ρ s) QF E else Z (m' ρ s) QF E
@[simp ↓] theorem kSIf_t {m : MS1} {m' : MS1} {ρ : Rho} {QF : KF} {E : KX} {s : Sto} : kSIf m m' ρ QF E true s = (Z (m ρ s) QF E) := propext Iff.rfl
@[simp ↓] theorem kSIf_f {m : MS1} {m' : MS1} {ρ : Rho} {QF : KF} {E : KX} {s : Sto} : kSIf m m' ρ QF E false s = (Z (m' ρ s) QF E) := propext Iff.rfl
theorem kSIf_of {m : MS1} {m' : MS1} {ρ : Rho} {QF : KF} {E : KX} {c : Bool} {s : Sto} (h : c = true → Z (m ρ s) QF E) (h' : c = false → Z (m' ρ s) QF E) : kSIf m m' ρ QF E c s := by
  cases c
  · exact h' rfl
  · exact h rfl
@[simp ↓] theorem Z_sIf {t : MT1} {m m' : MS1} : Z (sIf t m m' ρ st) QF E = Z (t ρ st) (kSIf m m' ρ QF E) (kX ρ QF) := by
  unfold sIf; rw [Z_onErr]; congr 1; funext c s; cases c <;> rfl
def kNx (QF : KF) : Rho → Sto → Prop := fun ρ' s => QF (.next ρ') s
@[simp ↓] theorem kNx_at {QF : KF} {ρ' : Rho} {s : Sto} : kNx QF ρ' s = (QF (.next ρ') s) := propext Iff.rfl
def kAsg (g : GM) (ρ : Rho) (QF : KF) : PV → Sto → Prop := fun v s => Z (g v ρ s) (kNx QF) (kX ρ QF)
@[simp ↓] theorem kAsg_at {g : GM} {ρ : Rho} {QF : KF} {v : PV} {s : Sto} : kAsg g ρ QF v s = (Z (g v ρ s) (kNx QF) (kX ρ QF)) := propext Iff.rfl
@[simp ↓] theorem Z_sAsg {me : ME1} {g : GM} : Z (sAsg me g ρ st) QF E = Z (me ρ st) (kAsg g ρ QF) (kX ρ QF) := by
  unfold sAsg; rw [Z_onErr]; congr 1; funext v s; rw [Z_onErr]; rfl
def kG3 (ρ : Rho) (QR : KR) : Unit → Sto → Prop := fun _ s => QR ρ s
@[simp ↓] theorem kG3_at {ρ : Rho} {QR : KR} {a : Unit} {s : Sto} : kG3 ρ QR a s = (QR ρ s) := propext Iff.rfl
def kG2 (o : PV) (p : PV) (ρ : Rho) (QR : KR) (E : KX) : PV → Sto → Prop := fun i s => Z (setM o i p s) (kG3 ρ QR) E
@[simp ↓] theorem kG2_at {o : PV} {p : PV} {ρ : Rho} {QR : KR} {E : KX} {i : PV} {s : Sto} : kG2 o p ρ QR E i s = (Z (setM o i p s) (kG3 ρ QR) E) := propext Iff.rfl
def kG1 (mi : ME1) (p : PV) (ρ : Rho) (QR : KR) (E : KX) : PV → Sto → Prop := fun o s => Z (mi ρ s) (kG2 o p ρ QR E) E
@[simp ↓] theorem kG1_at {mi : ME1} {p : PV} {ρ : Rho} {QR : KR} {E : KX} {o : PV} {s : Sto} : kG1 mi p ρ QR E o s = (Z (mi ρ s) (kG2 o p ρ QR E) E) := propext Iff.rfl
@[simp ↓] theorem Z_gSub {mo mi : ME1} {p : PV} : Z (gSubM mo mi p ρ st) QR E = Z (mo ρ st) (kG1 mi p ρ QR E) E := by
  unfold gSubM; rw [Z_bind]; simp only [Z_bind]; rfl
def kGs (r : GsM) (xs : List PV) (QR : KR) (E : KX) : Rho → Sto → Prop := fun ρ1 s => Z (r xs ρ1 s) QR E
@[simp] theorem kGs_at {r : GsM} {xs : List PV} {QR : KR} {E : KX} {ρ1 : Rho} {s : Sto} : kGs r xs QR E ρ1 s = (Z (r xs ρ1 s) QR E) := propext Iff.rfl
@[simp ↓] theorem Z_gsCons {g : GM} {r : GsM} {x : PV} {xs : List PV} : Z (gsCons g r (x :: xs) ρ st) QR E = Z (g x ρ st) (kGs r xs QR E) E0 := by
  unfold gsCons; dsimp only; rw [Z_bind, Z_calm]; rfl
@[simp ↓] theorem Z_gsNil : Z (gsNil [] ρ st) QR E = QR ρ st := propext Iff.rfl
@[simp ↓] theorem Z_gT {m : Nat} {r : GsM} {xs : List PV} : Z (gT m r (.tup xs) ρ st) QR E = if xs.length = m then Z (r xs ρ st) QR E0 else False := by
  unfold gT; dsimp only; rw [Z_ite]; by_cases h : xs.length = m
  · rw [if_pos h, if_pos h, Z_calm]
  · rw [if_neg h, if_neg h]; rfl
def kFor (g : GM) (b : MS1) (ρ : Rho) (QF : KF) (E : KX) : List PV → Sto → Prop := fun ps s => Z (forL g b ps ρ s) QF E
@[simp ↓] theorem kFor_at {g : GM} {b : MS1} {ρ : Rho} {QF : KF} {E : KX} {ps : List PV} {s : Sto} : kFor g b ρ QF E ps s = (Z (forL g b ps ρ s) QF E) := propext Iff.rfl
@[simp ↓] theorem Z_sFor {mi : ML1} {g : GM} {b : MS1} : Z (sFor mi g b ρ st) QF E = Z (mi ρ st) (kFor g b ρ QF E) (kX ρ QF) := by
  unfold sFor; rw [Z_onErr]; rfl
theorem Z_forL_nil {g : GM} {b : MS1} : Z (forL g b [] ρ st) QF E = QF (.next ρ) st := propext Iff.rfl
def kF1 (g : GM) (b : MS1) (ps : List PV) (QF : KF) (E : KX) : Rho → Sto → Prop := fun ρ1 s => Z (b ρ1 s) (turnQ (forL g b ps) QF E) E
@[simp] theorem kF1_at {g : GM} {b : MS1} {ps : List PV} {QF : KF} {E : KX} {ρ1 : Rho} {s : Sto} : kF1 g b ps QF E ρ1 s = (Z (b ρ1 s) (turnQ (forL g b ps) QF E) E) := propext Iff.rfl
theorem Z_forL {g : GM} {b : MS1} {p : PV} {ps : List PV} : Z (forL g b (p :: ps) ρ st) QF E = Z (g p ρ st) (kF1 g b ps QF E) (kX ρ QF) := by
  rw [forL, Z_onErr]
  simp only [Z_turn]
  rfl
def kIt (QL : KLs) (E : KX) : PV → Sto → Prop := fun x s => Z (itemsM x s) QL E
@[simp ↓] theorem kIt_at {QL : KLs} {E : KX} {x : PV} {s : Sto} : kIt QL E x s = (Z (itemsM x s) QL E) := propext Iff.rfl
@[simp ↓] theorem Z_iSeq {m : ME1} : Z (iSeq m ρ st) QL E = Z (m ρ st) (kIt QL E) E := by
  unfold iSeq; rw [Z_bind]; rfl
def kFL (f : List PV → M (List PV)) (QL : KLs) (E : KX) : List PV → Sto → Prop := fun xs s => Z (f xs s) QL E
@[simp ↓] theorem kFL_at {f : List PV → M (List PV)} {QL : KLs} {E : KX} {xs : List PV} {s : Sto} : kFL f QL E xs s = (Z (f xs s) QL E) := propext Iff.rfl
@[simp ↓] theorem Z_iCall {f : List PV → M (List PV)} {m : ML1} : Z (iCall f m ρ st) QL E = Z (m ρ st) (kFL f QL E) E := by
  unfold iCall; rw [Z_bind]; rfl
def kS3 (f : PV → Option Int → Option Int → M PV) (x : PV) (l : Option Int) (QP : KP) (E : KX) : Option Int → Sto → Prop := fun h s => Z (f x l h s) QP E
@[simp ↓] theorem kS3_at {f : PV → Option Int → Option Int → M PV} {x : PV} {l : Option Int} {QP : KP} {E : KX} {h : Option Int} {s : Sto} : kS3 f x l QP E h s = (Z (f x l h s) QP E) := propext Iff.rfl
def kS2 (f : PV → Option Int → Option Int → M PV) (mh : Rho → M (Option Int)) (ρ : Rho) (x : PV) (QP : KP) (E : KX) : Option Int → Sto → Prop := fun l s => Z (mh ρ s) (kS3 f x l QP E) E
@[simp ↓] theorem kS2_at {f : PV → Option Int → Option Int → M PV} {mh : Rho → M (Option Int)} {ρ : Rho} {x : PV} {QP : KP} {E : KX} {l : Option Int} {s : Sto} : kS2 f mh ρ x QP E l s = (Z (mh ρ s) (kS3 f x l QP E) E) := propext Iff.rfl
def kS1 (f : PV → Option Int → Option Int → M PV) (ml : Rho → M (Option Int)) (mh : Rho → M (Option Int)) (ρ : Rho) (QP : KP) (E : KX) : PV → Sto → Prop := fun x s => Z (ml ρ s) (kS2 f mh ρ x QP E) E
@[simp ↓] theorem kS1_at {f : PV → Option Int → Option Int → M PV} {ml : Rho → M (Option Int)} {mh : Rho → M (Option Int)} {ρ : Rho} {QP : KP} {E : KX} {x : PV} {s : Sto} : kS1 f ml mh ρ QP E x s = (Z (ml ρ s) (kS2 f mh ρ x QP E) E) := propext Iff.rfl
@[simp ↓] theorem Z_eSl {f : PV → Option Int → Option Int → M PV} {me : ME1} {ml mh : Rho → M (Option Int)} : Z (eSl f me ml mh ρ st) QP E = Z (me ρ st) (kS1 f ml mh ρ QP E) E := by
  unfold eSl; rw [Z_bind]; simp only [Z_bind]; rfl
def kO2 (QO : KO) : Int → Sto → Prop := fun i s => QO (some i) s
@[simp ↓] theorem kO2_at {QO : KO} {i : Int} {s : Sto} : kO2 QO i s = (QO (some i) s) := propext Iff.rfl
def kO1 (QO : KO) (E : KX) : PV → Sto → Prop := fun x s => Z (asI x s) (kO2 QO) E
@[simp ↓] theorem kO1_at {QO : KO} {E : KX} {x : PV} {s : Sto} : kO1 QO E x s = (Z (asI x s) (kO2 QO) E) := propext Iff.rfl
@[simp ↓] theorem Z_oSome {m : ME1} : Z (oSome m ρ st) QO E = Z (m ρ st) (kO1 QO E) E := by
  unfold oSome; rw [Z_bind]; simp only [Z_bind]; rfl
def kP3 (k : PV) (v : PV) (QD : KD) : List (PV × PV) → Sto → Prop := fun ps s => QD ((k, v) :: ps) s
@[simp ↓] theorem kP3_at {k : PV} {v : PV} {QD : KD} {ps : List (PV × PV)} {s : Sto} : kP3 k v QD ps s = (QD ((k, v) :: ps) s) := propext Iff.rfl
def kP2 (ms : List (ME1 × ME1)) (ρ : Rho) (k : PV) (QD : KD) (E : KX) : PV → Sto → Prop := fun v s => Z (pairsM ms ρ s) (kP3 k v QD) E
@[simp ↓] theorem kP2_at {ms : List (ME1 × ME1)} {ρ : Rho} {k : PV} {QD : KD} {E : KX} {v : PV} {s : Sto} : kP2 ms ρ k QD E v s = (Z (pairsM ms ρ s) (kP3 k v QD) E) := propext Iff.rfl
def kP1 (mv : ME1) (ms : List (ME1 × ME1)) (ρ : Rho) (QD : KD) (E : KX) : PV → Sto → Prop := fun k s => Z (mv ρ s) (kP2 ms ρ k QD E) E
@[simp ↓] theorem kP1_at {mv : ME1} {ms : List (ME1 × ME1)} {ρ : Rho} {QD : KD} {E : KX} {k : PV} {s : Sto} : kP1 mv ms ρ QD E k s = (Z (mv ρ s) (kP2 ms ρ k QD E) E) := propext Iff.rfl
@[simp ↓] theorem Z_pairsN : Z (pairsM [] ρ st) QD E = QD [] st := propext Iff.rfl
@[simp ↓] theorem Z_pairsC {mk mv : ME1} {ms : List (ME1 × ME1)} : Z (pairsM ((mk, mv) :: ms) ρ st) QD E = Z (mk ρ st) (kP1 mv ms ρ QD E) E := by
  rw [pairsM, Z_bind]; simp only [Z_bind]; rfl
def kD (QP : KP) : List (PV × PV) → Sto → Prop := fun ps s => if keysOk ps = true ∧ ps.length ≤ 15 then QP (.loc s.length) (s ++ [.dct (mergeP [] ps)]) else False
@[simp ↓] theorem kD_at {QP : KP} {ps : List (PV × PV)} {s : Sto} : kD QP ps s = (if keysOk ps = true ∧ ps.length ≤ 15 then QP (.loc s.length) (s ++ [.dct (mergeP [] ps)]) else False) := propext Iff.rfl
@[simp ↓] theorem Z_eDct {ms : List (ME1 × ME1)} : Z (eDct ms ρ st) QP E = Z (pairsM ms ρ st) (kD QP) E := by
  unfold eDct M.bind
  cases pairsM ms ρ st with
  | ok ps s => exact Z_iteR
  | err x s => rfl
  | bad => rfl
@[simp ↓] theorem Z_eDct0 : Z (eDct0 ρ st) QP E = QP (.loc st.length) (st ++ [.dct []]) := propext Iff.rfl
def kLE (k : List PV → M PV) (QP : KP) (E : KX) : List PV → Sto → Prop := fun acc s => Z (k acc s) QP E
@[simp ↓] theorem kLE_at {k : List PV → M PV} {QP : KP} {E : KX} {acc : List PV} {s : Sto} : kLE k QP E acc s = (Z (k acc s) QP E) := propext Iff.rfl
def kLc (k : List PV → M PV) (g : GM) (t : MT1) (e : ME1) (vs : List Nat) (ρ : Rho) (QP : KP) (E : KX) : List PV → Sto → Prop := fun ps s => Z (lcL g t e (wipeP ρ vs) ps [] s) (kLE k QP E) E
@[simp ↓] theorem kLc_at {k : List PV → M PV} {g : GM} {t : MT1} {e : ME1} {vs : List Nat} {ρ : Rho} {QP : KP} {E : KX} {ps : List PV} {s : Sto} : kLc k g t e vs ρ QP E ps s = (Z (lcL g t e (wipeP ρ vs) ps [] s) (kLE k QP E) E) := propext Iff.rfl
@[simp ↓] theorem Z_eLc {k : List PV → M PV} {mi : ML1} {g : GM} {t : MT1} {e : ME1} {vs : List Nat} : Z (eLc k mi g t e vs ρ st) QP E = Z (mi ρ st) (kLc k g t e vs ρ QP E) E := by
  unfold eLc; rw [Z_bind]; simp only [Z_bind]; rfl
@[simp ↓] theorem Z_lcV {acc : List PV} : Z (lcV acc st) QP E = QP (.lst acc) st := propext Iff.rfl
@[simp ↓] theorem Z_lcN {acc : List PV} : Z (lcN acc st) QP E = QP (.loc st.length) (st ++ [.lst acc]) := propext Iff.rfl
@[simp ↓] theorem Z_tYes : Z (tYesM ρ st) QB E = QB true st := propext Iff.rfl
@[simp ↓] theorem wipeP_nil {ρ : Rho} : wipeP ρ [] = ρ := rfl
@[simp ↓] theorem wipeP_cons {ρ : Rho} {v : Nat} {vs : List Nat} : wipeP ρ (v :: vs) = (wipeP ρ vs).set v none := rfl
theorem lc_nil {g : GM} {t : MT1} {e : ME1} {ρ0 : Rho} {acc : List PV} : Z (lcL g t e ρ0 [] acc st) QL E = QL acc st := propext Iff.rfl
theorem lc_cons {g : GM} {t : MT1} {e : ME1} {ρ0 : Rho} {p : PV} {ps acc : List PV} : Z (lcL g t e ρ0 (p :: ps) acc st) QL E = Z (g p ρ0 st) (fun ρ1 s => Z (t ρ1 s) (fun c s => if c = true then Z (e ρ1 s) (fun y s => if acc.length < 16777216 then Z (lcL g t e ρ0 ps (acc ++ [y]) s) QL E else False) E0 else Z (lcL g t e ρ0 ps acc s) QL E) E0) E0 := by
  rw [lcL, Z_bind, Z_calm]
  congr 1; funext ρ1 s
  rw [Z_bind, Z_calm]
  congr 1; funext c s
  cases c with
  | false => rfl
  | true =>
    show Z (M.bind _ _ _) _ _ = Z _ _ _
    rw [Z_bind, Z_calm]
    congr 1; funext y s
    exact Z_ite
theorem lc_inv {g : GM} {t : MT1} {e : ME1} {ρ0 : Rho} (I : List PV → List PV → Sto → Prop) (hs : ∀ p ps acc st, I (p :: ps) acc st → Z (g p ρ0 st) (fun ρ1 s => Z (t ρ1 s) (fun c s => if c = true then Z (e ρ1 s) (fun y s => acc.length < 16777216 ∧ I ps (acc ++ [y]) s) E0 else I ps acc s) E0) E0) : ∀ (ps acc : List PV) (st : Sto), I ps acc st →
    (∀ acc st, I [] acc st → QL acc st) → Z (lcL g t e ρ0 ps acc st) QL E
  | [], acc, st, h, hq => hq acc st h
  | p :: ps, acc, st, h, hq => by
    rw [lcL, Z_bind, Z_calm]
    refine (hs p ps acc st h).go fun ρ1 s h1 => ?_
    rw [Z_bind, Z_calm]
    refine h1.go fun c s h2 => ?_
    cases c with
    | false => exact lc_inv I hs ps acc s h2 hq
    | true =>
      show Z (M.bind _ _ _) _ _
      rw [Z_bind, Z_calm]
      refine Z.go (show Z (e ρ1 s) (fun y s => acc.length < 16777216 ∧ I ps (acc ++ [y]) s) E0 from h2) fun y s h3 => ?_
      rw [if_pos h3.1]
      exact lc_inv I hs ps (acc ++ [y]) s h3.2 hq
theorem for_inv {g : GM} {b : MS1} (I : List PV → Rho → Sto → Prop) : ∀ (ps : List PV) (ρ : Rho) (st : Sto), I ps ρ st → (∀ p ps ρ st, I (p :: ps) ρ st → Z (g p ρ st) (fun ρ1 s => Z (b ρ1 s) (fun fl s2 => (∃ ρ2, (fl = .next ρ2 ∨ fl = .cont ρ2) ∧ I ps ρ2 s2) ∨ (∃ ρ2, fl = .brk ρ2 ∧ QF (.next ρ2) s2) ∨ (∃ v, fl = .ret v ∧ QF fl s2)) E0) E0) →
    (∀ ρ st, I [] ρ st → QF (.next ρ) st) → Z (forL g b ps ρ st) QF E
  | [], ρ, st, h, _, hq => by rw [Z_forL_nil]; exact hq ρ st h
  | p :: ps, ρ, st, h, hs, hq => by
    rw [Z_forL]
    refine (hs p ps ρ st h).go fun ρ1 s h1 => Z.go h1 fun fl s2 h2 => ?_
    rcases h2 with ⟨ρ3, e | e, h3⟩ | ⟨ρ3, e, h3⟩ | ⟨v, e, h3⟩
    · subst e; exact for_inv I ps _ s2 h3 hs hq
    · subst e; exact for_inv I ps _ s2 h3 hs hq
    · subst e; exact h3
    · subst e; exact h3
end
end MP

set_option maxRecDepth 100000
set_option maxHeartbeats 1000000
namespace MP
open PySem L2
@[simp] theorem atI_0 {α : Type} {x0 : α} {l : List α} : L2.atI (x0 :: l) (0 : Int) = some x0 := by
  unfold L2.atI L2.ixN
  rw [if_pos (by omega), if_pos (by simp only [List.length_cons]; omega)]
  rfl
@[simp] theorem atI_1 {α : Type} {x0 x1 : α} {l : List α} : L2.atI (x0 :: x1 :: l) (1 : Int) = some x1 := by
  unfold L2.atI L2.ixN
  rw [if_pos (by omega), if_pos (by simp only [List.length_cons]; omega)]
  rfl
@[simp] theorem atI_2 {α : Type} {x0 x1 x2 : α} {l : List α} : L2.atI (x0 :: x1 :: x2 :: l) (2 : Int) = some x2 := by
  unfold L2.atI L2.ixN
  rw [if_pos (by omega), if_pos (by simp only [List.length_cons]; omega)]
  rfl
@[simp] theorem atI_3 {α : Type} {x0 x1 x2 x3 : α} {l : List α} : L2.atI (x0 :: x1 :: x2 :: x3 :: l) (3 : Int) = some x3 := by
  unfold L2.atI L2.ixN
  rw [if_pos (by omega), if_pos (by simp only [List.length_cons]; omega)]
  rfl
@[simp] theorem atI_4 {α : Type} {x0 x1 x2 x3 x4 : α} {l : List α} : L2.atI (x0 :: x1 :: x2 :: x3 :: x4 :: l) (4 : Int) = some x4 := by
  unfold L2.atI L2.ixN
  rw [if_pos (by omega), if_pos (by simp only [List.length_cons]; omega)]
  rfl
@[simp] theorem atI_5 {α : Type} {x0 x1 x2 x3 x4 x5 : α} {l : List α} : L2.atI (x0 :: x1 :: x2 :: x3 :: x4 :: x5 :: l) (5 : Int) = some x5 := by
  unfold L2.atI L2.ixN
  rw [if_pos (by omega), if_pos (by simp only [List.length_cons]; omega)]
  rfl
@[simp] theorem atI_6 {α : Type} {x0 x1 x2 x3 x4 x5 x6 : α} {l : List α} : L2.atI (x0 :: x1 :: x2 :: x3 :: x4 :: x5 :: x6 :: l) (6 : Int) = some x6 := by
  unfold L2.atI L2.ixN
  rw [if_pos (by omega), if_pos (by simp only [List.length_cons]; omega)]
  rfl
@[simp] theorem atI_7 {α : Type} {x0 x1 x2 x3 x4 x5 x6 x7 : α} {l : List α} : L2.atI (x0 :: x1 :: x2 :: x3 :: x4 :: x5 :: x6 :: x7 :: l) (7 : Int) = some x7 := by
  unfold L2.atI L2.ixN
  rw [if_pos (by omega), if_pos (by simp only [List.length_cons]; omega)]
  rfl
section
variable {α β : Type} {QL : List PV → Sto → Prop} {st : Sto} {ρ : Rho} {Q : α → Sto → Prop} {E : Exn → Sto → Prop} {QP : PV → Sto → Prop} {QF : Fl → Sto → Prop} {QU : Unit → Sto → Prop} {i j : Int} {a b : List Nat} {xs ys : List PV} {x y : PV} {m : Nat}
def runQ (Q : PV → Sto → Prop) (E : Exn → Sto → Prop) : Fl → Sto → Prop
  | .next _, st => Q .non st
  | .ret p, st => Q p st
  | .exc x _, st => E x st
  | _, _ => False
@[simp] theorem runQ_next : runQ QP E (.next ρ) st = QP .non st := propext Iff.rfl
@[simp] theorem runQ_ret : runQ QP E (.ret x) st = QP x st := propext Iff.rfl
@[simp] theorem runQ_exc {x : Exn} : runQ QP E (.exc x ρ) st = E x st := propext Iff.rfl
theorem Z_run {b : Rho → M Fl} {k : Nat} {ps : List PV} {ρ0 : Rho} (h : ps.map some ++ List.replicate (k - ps.length) none = ρ0) : Z (runB b k ps st) QP E = Z (b ρ0 st) (runQ QP E) E0 := by
  unfold runB
  rw [h]
  cases b ρ0 st with
  | ok f s => cases f <;> rfl
  | err x s => rfl
  | bad => rfl
@[simp ↓] theorem Z_addII : Z (addV (.int i) (.int j) st) QP E = QP (.int (i + j)) st := propext Iff.rfl
@[simp ↓] theorem Z_addSS : Z (addV (.str a) (.str b) st) QP E = if a.length + b.length ≤ 16777216 then QP (.str (a ++ b)) st else False := by unfold addV; dsimp only; rw [Z_ite]; rfl
@[simp ↓] theorem Z_addTT : Z (addV (.tup xs) (.tup ys) st) QP E = if xs.length + ys.length ≤ 16777216 then QP (.tup (xs ++ ys)) st else False := by unfold addV; dsimp only; rw [Z_ite]; rfl
@[simp ↓] theorem Z_addLL : Z (addV (.lst xs) (.lst ys) st) QP E = if xs.length + ys.length ≤ 16777216 then QP (.lst (xs ++ ys)) st else False := by unfold addV; dsimp only [listOf]; rw [Z_iteR]; rfl
@[simp ↓] theorem Z_subII : Z (subV (.int i) (.int j) st) QP E = QP (.int (i - j)) st := propext Iff.rfl
@[simp ↓] theorem Z_mulII : Z (mulV (.int i) (.int j) st) QP E = if mulOk i j = true then QP (.int (i * j)) st else False := by unfold mulV; dsimp only; rw [Z_ite]; rfl
@[simp ↓] theorem Z_mulTI : Z (mulV (.tup xs) (.int i) st) QP E = if xs ≠ [] ∧ -1000000 ≤ i ∧ i ≤ 1000 ∧ xs.length ≤ 1000 then QP (.tup (List.replicate i.toNat xs).flatten) st else False := by unfold mulV; dsimp only; rw [Z_ite]; rfl
theorem mul_left (h1 : -18446744073709551616 < i) (h2 : i < 18446744073709551616) : Z (mulV (.int i) (.int j) st) QP E = QP (.int (i * j)) st := by rw [Z_mulII, if_pos]; simp [mulOk, h1, h2]
theorem mul_right (h1 : -18446744073709551616 < j) (h2 : j < 18446744073709551616) : Z (mulV (.int i) (.int j) st) QP E = QP (.int (i * j)) st := by rw [Z_mulII, if_pos]; simp [mulOk, h1, h2]
@[simp ↓] theorem Z_fdivII : Z (fdivV (.int i) (.int j) st) QP E = if (j ≠ 0 ∧ j.natAbs < 1073741824) ∨ (0 < j ∧ j.natAbs.log2 < 9000) then QP (.int (i.fdiv j)) st else False := by unfold fdivV; dsimp only; rw [Z_ite]; rfl
@[simp ↓] theorem Z_modII : Z (modV (.int i) (.int j) st) QP E = if j ≠ 0 then QP (.int (i.fmod j)) st else False := by unfold modV; dsimp only; rw [Z_ite]; rfl
@[simp ↓] theorem Z_powII : Z (powV (.int i) (.int j) st) QP E = if 0 ≤ j ∧ j ≤ 1000000 ∧ i.natAbs < 18446744073709551616 then QP (.int (i ^ j.toNat)) st else False := by unfold powV; dsimp only; rw [Z_ite]; rfl
@[simp ↓] theorem Z_negI : Z (negV (.int i) st) QP E = QP (.int (-i)) st := propext Iff.rfl
@[simp ↓] theorem Z_ltV {p : Int → Int → Bool} : Z (ltV p (.int i) (.int j) st) QP E = QP (.bl (p i j)) st := propext Iff.rfl
theorem ibeq (i j : Int) : (i == j) = decide (i = j) := by rw [Bool.eq_iff_iff]; simp
@[simp ↓] theorem Z_eqII : Z (eqM (.int i) (.int j) st) QP E = QP (.bl (decide (i = j))) st := by
  unfold eqM; rw [if_pos (by rfl)]; show QP (.bl (i == j)) st = _; rw [ibeq]
@[simp ↓] theorem Z_neII : Z (neM (.int i) (.int j) st) QP E = QP (.bl (decide (i ≠ j))) st := by
  unfold neM; rw [if_pos (by rfl)]; show QP (.bl (!(i == j))) st = _; rw [ibeq]; simp
theorem lbeq {α : Type} [DecidableEq α] (a b : List α) : (a == b) = decide (a = b) := by rw [Bool.eq_iff_iff]; simp
@[simp ↓] theorem Z_eqSS : Z (eqM (.str a) (.str b) st) QP E = QP (.bl (decide (a = b))) st := by
  unfold eqM; rw [if_pos (by rfl)]; show QP (.bl (a == b)) st = _; rw [lbeq]
@[simp ↓] theorem Z_neSS : Z (neM (.str a) (.str b) st) QP E = QP (.bl (decide (a ≠ b))) st := by
  unfold neM; rw [if_pos (by rfl)]; show QP (.bl (!(a == b))) st = _; rw [lbeq]; simp
theorem Z_eq (h : cmpOk x y st = true) : Z (eqM x y st) QP E = QP (.bl (eqb (shal x st) (shal y st))) st := by unfold eqM; rw [if_pos h]; rfl
theorem Z_ne (h : cmpOk x y st = true) : Z (neM x y st) QP E = QP (.bl (!eqb (shal x st) (shal y st))) st := by unfold neM; rw [if_pos h]; rfl
@[simp ↓] theorem Z_isN : Z (isN x .non st) QP E = QP (.bl (nonP x)) st := propext Iff.rfl
@[simp ↓] theorem Z_notN : Z (notN x .non st) QP E = QP (.bl (!nonP x)) st := propext Iff.rfl
@[simp ↓] theorem Z_optS {v : α} : Z (optM (some v) st) Q E = Q v st := propext Iff.rfl
@[simp ↓] theorem Z_optN : Z (optM (none : Option α) st) Q E = False := propext Iff.rfl
@[simp ↓] theorem Z_ixT : Z (ixM (.tup xs) (.int i) st) QP E = Z (optM (L2.atI xs i) st) QP E := propext Iff.rfl
@[simp ↓] theorem Z_ixL : Z (ixM (.lst xs) (.int i) st) QP E = Z (optM (L2.atI xs i) st) QP E := propext Iff.rfl
@[simp ↓] theorem Z_ixZ : Z (ixM (.frz xs) (.int i) st) QP E = Z (optM (L2.atI xs i) st) QP E := propext Iff.rfl
def kIS (QP : KP) : Nat → Sto → Prop := fun c s => QP (.str [c]) s
@[simp ↓] theorem kIS_at {c : Nat} : kIS QP c st = QP (.str [c]) st := propext Iff.rfl
@[simp ↓] theorem Z_ixS : Z (ixM (.str a) (.int i) st) QP E = if a.length ≤ 16777216 then Z (optM (L2.atI a i) st) (kIS QP) E else False := by
  show Z (if a.length ≤ 16777216 then (match L2.atI a i with | some c => .ok (.str [c]) st | none => .bad) else .bad) QP E = _
  rw [Z_iteR]
  cases L2.atI a i <;> rfl
@[simp ↓] theorem Z_ixC (h : st[m]? = some (.lst xs)) : Z (ixM (.loc m) (.int i) st) QP E = Z (optM (L2.atI xs i) st) QP E := by
  unfold ixM seqOf; dsimp only; rw [h]
theorem Z_ixD {kvs : List (PV × PV)} (h : st[m]? = some (.dct kvs)) (hk : (keyOf y).isSome = true) : Z (ixM (.loc m) y st) QP E = Z (optM (lookP kvs y) st) QP E := by
  unfold ixM seqOf dctOf; dsimp only; rw [h]; dsimp only; rw [if_pos hk]
@[simp ↓] theorem Z_ixDs {kvs : List (PV × PV)} (h : st[m]? = some (.dct kvs)) : Z (ixM (.loc m) (.str a) st) QP E = Z (optM (lookP kvs (.str a)) st) QP E := Z_ixD h rfl
@[simp ↓] theorem Z_ixDi {kvs : List (PV × PV)} (h : st[m]? = some (.dct kvs)) : Z (ixM (.loc m) (.int i) st) QP E = Z (optM (lookP kvs (.int i)) st) QP E := Z_ixD h rfl
@[simp] theorem keyOf_int : keyOf (.int i) = some (.inl i) := rfl
@[simp] theorem keyOf_str : keyOf (.str a) = some (.inr ⟨a.toArray⟩) := rfl
@[simp ↓] theorem Z_lenT : Z (lenM [.tup xs] st) QP E = QP (.int xs.length) st := propext Iff.rfl
@[simp ↓] theorem Z_lenL : Z (lenM [.lst xs] st) QP E = QP (.int xs.length) st := propext Iff.rfl
@[simp ↓] theorem Z_lenZ : Z (lenM [.frz xs] st) QP E = QP (.int xs.length) st := propext Iff.rfl
@[simp ↓] theorem Z_lenS : Z (lenM [.str a] st) QP E = if a.length ≤ 16777216 then QP (.int a.length) st else False := by
  show Z (if a.length ≤ 16777216 then .ok (.int a.length) st else .bad) QP E = _; rw [Z_iteR]; rfl
@[simp ↓] theorem Z_lenC (h : st[m]? = some (.lst xs)) : Z (lenM [.loc m] st) QP E = QP (.int xs.length) st := by
  unfold lenM seqOf; dsimp only; rw [h]; rfl
@[simp ↓] theorem Z_mkTup : Z (mkTup xs st) QP E = if xs.length ≤ 16777216 then QP (.tup xs) st else False := by unfold mkTup; rw [Z_ite]; rfl
@[simp ↓] theorem Z_mkLst : Z (mkLst xs st) QP E = if xs.length ≤ 16777216 then QP (.lst xs) st else False := by unfold mkLst; rw [Z_ite]; rfl
@[simp ↓] theorem Z_mkLstN : Z (mkLstN xs st) QP E = if xs.length ≤ 16777216 then QP (.loc st.length) (st ++ [.lst xs]) else False := by unfold mkLstN; rw [Z_iteR]; rfl
@[simp ↓] theorem Z_listN (h : seqOf x st = some xs) : Z (listN [x] st) QP E = QP (.loc st.length) (st ++ [.lst xs]) := by unfold listN; dsimp only; rw [h]; rfl
@[simp ↓] theorem Z_listM (h : seqOf x st = some xs) : Z (listM [x] st) QP E = QP (.lst xs) st := by unfold listM; dsimp only; rw [h]; rfl
@[simp ↓] theorem Z_tupleM (h : seqOf x st = some xs) : Z (tupleM [x] st) QP E = QP (.tup xs) st := by unfold tupleM; dsimp only; rw [h]; rfl
@[simp] theorem seqOf_tup : seqOf (.tup xs) st = some xs := rfl
@[simp] theorem seqOf_lst : seqOf (.lst xs) st = some xs := rfl
@[simp] theorem seqOf_frz : seqOf (.frz xs) st = some xs := rfl
@[simp] theorem seqOf_loc (h : st[m]? = some (.lst xs)) : seqOf (.loc m) st = some xs := by unfold seqOf; dsimp only; rw [h]
@[simp ↓] theorem Z_setL {v : PV} {k : Nat} (h : st[m]? = some (.lst xs)) (hi : ixN xs.length i = some k) : Z (setM (.loc m) (.int i) v st) QU E = QU () (st.set m (.lst (xs.set k v))) := by
  unfold setM; dsimp only; rw [h]; dsimp only; rw [hi]; rfl
theorem Z_setD {v : PV} {kvs : List (PV × PV)} (h : st[m]? = some (.dct kvs)) (hk : (keyOf y).isSome = true) (hl : kvs.length < 16777216) : Z (setM (.loc m) y v st) QU E = QU () (st.set m (.dct (putP kvs y v))) := by
  unfold setM; dsimp only; rw [h]; dsimp only; rw [if_pos ⟨hk, hl⟩]; rfl
@[simp ↓] theorem Z_setDs {v : PV} {kvs : List (PV × PV)} (h : st[m]? = some (.dct kvs)) (hl : kvs.length < 16777216) : Z (setM (.loc m) (.str a) v st) QU E = QU () (st.set m (.dct (putP kvs (.str a) v))) := Z_setD h rfl hl
@[simp ↓] theorem Z_setDi {v : PV} {kvs : List (PV × PV)} (h : st[m]? = some (.dct kvs)) (hl : kvs.length < 16777216) : Z (setM (.loc m) (.int i) v st) QU E = QU () (st.set m (.dct (putP kvs (.int i) v))) := Z_setD h rfl hl
@[simp ↓] theorem Z_slS {lo hi : Option Int} : Z (slM (.str a) lo hi st) QP E = if a.length ≤ 16777216 then QP (.str (cutL a lo hi)) st else False := by unfold slM; dsimp only; rw [Z_ite]; rfl
@[simp ↓] theorem Z_slT {lo hi : Option Int} : Z (slM (.tup xs) lo hi st) QP E = QP (.tup (cutL xs lo hi)) st := propext Iff.rfl
@[simp ↓] theorem Z_slL {lo hi : Option Int} : Z (slM (.lst xs) lo hi st) QP E = QP (.lst (cutL xs lo hi)) st := propext Iff.rfl
theorem Z_isi {T t : String} (h : isiOk T = true) (ht : tyP x st = some t) : Z (isiM [x, .ty T] st) QP E = QP (.bl (isiT t T)) st := by unfold isiM; dsimp only; rw [if_pos h, ht]; rfl
@[simp ↓] theorem Z_isi_non_int : Z (isiM [.non, .ty "int"] st) QP E = QP (.bl false) st := Z_isi (t := "NoneType") (by decide) rfl
@[simp ↓] theorem Z_isi_bl_int {k : Bool} : Z (isiM [.bl k, .ty "int"] st) QP E = QP (.bl true) st := Z_isi (t := "bool") (by decide) rfl
@[simp ↓] theorem Z_isi_int_int : Z (isiM [.int i, .ty "int"] st) QP E = QP (.bl true) st := Z_isi (t := "int") (by decide) rfl
@[simp ↓] theorem Z_isi_str_int : Z (isiM [.str a, .ty "int"] st) QP E = QP (.bl false) st := Z_isi (t := "str") (by decide) rfl
@[simp ↓] theorem Z_isi_tup_int : Z (isiM [.tup xs, .ty "int"] st) QP E = QP (.bl false) st := Z_isi (t := "tuple") (by decide) rfl
@[simp ↓] theorem Z_isi_lst_int : Z (isiM [.lst xs, .ty "int"] st) QP E = QP (.bl false) st := Z_isi (t := "list") (by decide) rfl
@[simp ↓] theorem Z_isi_non_bool : Z (isiM [.non, .ty "bool"] st) QP E = QP (.bl false) st := Z_isi (t := "NoneType") (by decide) rfl
@[simp ↓] theorem Z_isi_bl_bool {k : Bool} : Z (isiM [.bl k, .ty "bool"] st) QP E = QP (.bl true) st := Z_isi (t := "bool") (by decide) rfl
@[simp ↓] theorem Z_isi_int_bool : Z (isiM [.int i, .ty "bool"] st) QP E = QP (.bl false) st := Z_isi (t := "int") (by decide) rfl
@[simp ↓] theorem Z_isi_str_bool : Z (isiM [.str a, .ty "bool"] st) QP E = QP (.bl false) st := Z_isi (t := "str") (by decide) rfl
@[simp ↓] theorem Z_isi_tup_bool : Z (isiM [.tup xs, .ty "bool"] st) QP E = QP (.bl false) st := Z_isi (t := "tuple") (by decide) rfl
@[simp ↓] theorem Z_isi_lst_bool : Z (isiM [.lst xs, .ty "bool"] st) QP E = QP (.bl false) st := Z_isi (t := "list") (by decide) rfl
@[simp ↓] theorem Z_isi_non_str : Z (isiM [.non, .ty "str"] st) QP E = QP (.bl false) st := Z_isi (t := "NoneType") (by decide) rfl
@[simp ↓] theorem Z_isi_bl_str {k : Bool} : Z (isiM [.bl k, .ty "str"] st) QP E = QP (.bl false) st := Z_isi (t := "bool") (by decide) rfl
@[simp ↓] theorem Z_isi_int_str : Z (isiM [.int i, .ty "str"] st) QP E = QP (.bl false) st := Z_isi (t := "int") (by decide) rfl
@[simp ↓] theorem Z_isi_str_str : Z (isiM [.str a, .ty "str"] st) QP E = QP (.bl true) st := Z_isi (t := "str") (by decide) rfl
@[simp ↓] theorem Z_isi_tup_str : Z (isiM [.tup xs, .ty "str"] st) QP E = QP (.bl false) st := Z_isi (t := "tuple") (by decide) rfl
@[simp ↓] theorem Z_isi_lst_str : Z (isiM [.lst xs, .ty "str"] st) QP E = QP (.bl false) st := Z_isi (t := "list") (by decide) rfl
@[simp ↓] theorem Z_isi_non_tuple : Z (isiM [.non, .ty "tuple"] st) QP E = QP (.bl false) st := Z_isi (t := "NoneType") (by decide) rfl
@[simp ↓] theorem Z_isi_bl_tuple {k : Bool} : Z (isiM [.bl k, .ty "tuple"] st) QP E = QP (.bl false) st := Z_isi (t := "bool") (by decide) rfl
@[simp ↓] theorem Z_isi_int_tuple : Z (isiM [.int i, .ty "tuple"] st) QP E = QP (.bl false) st := Z_isi (t := "int") (by decide) rfl
@[simp ↓] theorem Z_isi_str_tuple : Z (isiM [.str a, .ty "tuple"] st) QP E = QP (.bl false) st := Z_isi (t := "str") (by decide) rfl
@[simp ↓] theorem Z_isi_tup_tuple : Z (isiM [.tup xs, .ty "tuple"] st) QP E = QP (.bl true) st := Z_isi (t := "tuple") (by decide) rfl
@[simp ↓] theorem Z_isi_lst_tuple : Z (isiM [.lst xs, .ty "tuple"] st) QP E = QP (.bl false) st := Z_isi (t := "list") (by decide) rfl
@[simp ↓] theorem Z_isi_non_list : Z (isiM [.non, .ty "list"] st) QP E = QP (.bl false) st := Z_isi (t := "NoneType") (by decide) rfl
@[simp ↓] theorem Z_isi_bl_list {k : Bool} : Z (isiM [.bl k, .ty "list"] st) QP E = QP (.bl false) st := Z_isi (t := "bool") (by decide) rfl
@[simp ↓] theorem Z_isi_int_list : Z (isiM [.int i, .ty "list"] st) QP E = QP (.bl false) st := Z_isi (t := "int") (by decide) rfl
@[simp ↓] theorem Z_isi_str_list : Z (isiM [.str a, .ty "list"] st) QP E = QP (.bl false) st := Z_isi (t := "str") (by decide) rfl
@[simp ↓] theorem Z_isi_tup_list : Z (isiM [.tup xs, .ty "list"] st) QP E = QP (.bl false) st := Z_isi (t := "tuple") (by decide) rfl
@[simp ↓] theorem Z_isi_lst_list : Z (isiM [.lst xs, .ty "list"] st) QP E = QP (.bl true) st := Z_isi (t := "list") (by decide) rfl
@[simp ↓] theorem Z_isi_non_dict : Z (isiM [.non, .ty "dict"] st) QP E = QP (.bl false) st := Z_isi (t := "NoneType") (by decide) rfl
@[simp ↓] theorem Z_isi_bl_dict {k : Bool} : Z (isiM [.bl k, .ty "dict"] st) QP E = QP (.bl false) st := Z_isi (t := "bool") (by decide) rfl
@[simp ↓] theorem Z_isi_int_dict : Z (isiM [.int i, .ty "dict"] st) QP E = QP (.bl false) st := Z_isi (t := "int") (by decide) rfl
@[simp ↓] theorem Z_isi_str_dict : Z (isiM [.str a, .ty "dict"] st) QP E = QP (.bl false) st := Z_isi (t := "str") (by decide) rfl
@[simp ↓] theorem Z_isi_tup_dict : Z (isiM [.tup xs, .ty "dict"] st) QP E = QP (.bl false) st := Z_isi (t := "tuple") (by decide) rfl
@[simp ↓] theorem Z_isi_lst_dict : Z (isiM [.lst xs, .ty "dict"] st) QP E = QP (.bl false) st := Z_isi (t := "list") (by decide) rfl
@[simp] theorem tyP_non : tyP .non st = some "NoneType" := rfl
@[simp] theorem tyP_bl {b : Bool} : tyP (.bl b) st = some "bool" := rfl
@[simp] theorem tyP_int : tyP (.int i) st = some "int" := rfl
@[simp] theorem tyP_str : tyP (.str a) st = some "str" := rfl
@[simp] theorem tyP_tup : tyP (.tup xs) st = some "tuple" := rfl
@[simp] theorem tyP_lst : tyP (.lst xs) st = some "list" := rfl
@[simp] theorem rangeOk_iff : rangeOk i ↔ -4611686018427387904 ≤ i ∧ i < 4611686018427387904 := Iff.rfl
@[simp ↓] theorem Z_range1 (h : rangeOk i) : Z (range1 [.int i] st) QL E = QL ((List.range i.toNat).map fun (k : Nat) => .int ((0 : Int) + (k : Int))) st := by unfold range1; dsimp only; rw [if_pos h]; rfl
@[simp ↓] theorem Z_rangeN {l : Nat} (h : l ≤ 16777216) : Z (range1 [.int (l : Int)] st) QL E = QL ((List.range l).map fun (k : Nat) => .int (k : Int)) st := by
  rw [Z_range1 ⟨by omega, by omega⟩, Int.toNat_natCast]
  simp only [Int.zero_add]
@[simp ↓] theorem Z_range2 (h : rangeOk i) (h' : rangeOk j) : Z (range2 [.int i, .int j] st) QL E = QL ((List.range (j - i).toNat).map fun (k : Nat) => .int (i + (k : Int))) st := by unfold range2; dsimp only; rw [if_pos ⟨h, h'⟩]; rfl
@[simp ↓] theorem Z_itT : Z (itemsM (.tup xs) st) QL E = QL xs st := propext Iff.rfl
@[simp ↓] theorem Z_itL : Z (itemsM (.lst xs) st) QL E = QL xs st := propext Iff.rfl
@[simp ↓] theorem Z_itF : Z (itemsM (.frz xs) st) QL E = QL xs st := propext Iff.rfl
@[simp ↓] theorem Z_itS : Z (itemsM (.str a) st) QL E = QL (a.map fun c => .str [c]) st := propext Iff.rfl
@[simp ↓] theorem Z_getTab {tab : List (List Nat × PV)} : Z (getTab tab (.str a) st) QP E = QP ((lookT tab a).getD .non) st := propext Iff.rfl
@[simp ↓] theorem Z_min : Z (minM [.int i, .int j] st) QP E = QP (.int (if j < i then j else i)) st := propext Iff.rfl
@[simp ↓] theorem Z_max : Z (maxM [.int i, .int j] st) QP E = QP (.int (if j > i then j else i)) st := propext Iff.rfl
@[simp ↓] theorem Z_intI : Z (intM [.int i] st) QP E = QP (.int i) st := propext Iff.rfl
@[simp ↓] theorem Z_intB {k : Bool} : Z (intM [.bl k] st) QP E = QP (.int (if k then 1 else 0)) st := propext Iff.rfl
@[simp ↓] theorem Z_enumL : Z (enumM [.lst xs] st) QL E = QL (xs.mapIdx fun i p => .tup [.int (i : Nat), p]) st := propext Iff.rfl
@[simp ↓] theorem Z_inS {n : Bool} {c : Nat} : Z (inM n (.str [c]) (.str a) st) QP E = QP (.bl (ng n (decide (c ∈ a)))) st := propext Iff.rfl
@[simp] theorem ng_t {b : Bool} : ng true b = !b := rfl
@[simp] theorem ng_f {b : Bool} : ng false b = b := rfl
@[simp ↓] theorem Z_tyS : Z (tyC "str" (.str a) st) QU E = QU () st := propext Iff.rfl
theorem Z_join {zs : List (List Nat)} (h : seqOf x st = some (zs.map .str)) (hz : (zs.map (·.length)).sum + zs.length * a.length ≤ 16777216) : Z (joinM (.str a) [x] st) QP E = QP (.str (TL.joinL a zs)) st := by
  have e : ∀ l : List (List Nat), strsOf (l.map .str) = some l := by
    intro l; induction l with
    | nil => rfl
    | cons z l ih => rw [List.map_cons, strsOf, ih]; rfl
  unfold joinM; dsimp only; rw [h]; dsimp only; rw [e]; dsimp only; rw [if_pos hz]; rfl
theorem Z_ixG (h : seqOf x st = some xs) : Z (ixM x (.int i) st) QP E = Z (optM (L2.atI xs i) st) QP E := by unfold ixM; rw [h]
theorem Z_lenG (h : seqOf x st = some xs) : Z (lenM [x] st) QP E = QP (.int xs.length) st := by unfold lenM; dsimp only; rw [h]; rfl
@[simp ↓] theorem Z_tyL (h : st[m]? = some (.lst xs)) : Z (tyC "list" (.loc m) st) QU E = QU () st := by
  unfold tyC listOf; dsimp only; rw [h]; rfl
@[simp ↓] theorem Z_append (h : st[m]? = some (.lst xs)) (hl : xs.length < 16777216) : Z (appendM (.loc m) [x] st) QP E = QP .non (st.set m (.lst (xs ++ [x]))) := by
  unfold appendM lstCell; dsimp only; rw [h]; dsimp only; rw [if_pos hl]; rfl
theorem layPs_ints : ∀ (l : List Int), layPs (l.map .int) = true
  | [] => by simp [layPs]
  | i :: r => by rw [List.map_cons, layPs, layPs_ints r]; simp [layP]
theorem depPs_ints : ∀ (l : List Int), depPs (l.map .int) = 0
  | [] => by simp [depPs]
  | i :: r => by rw [List.map_cons, depPs, depPs_ints r]; simp [depP]
theorem eqbs_ints : ∀ (l : List Int), eqbs (l.map .int) (l.map .int) = true
  | [] => by simp [eqbs]
  | i :: r => by rw [List.map_cons, eqbs, eqbs_ints r]; simp [eqb]
theorem log2_small {m : Int} (h : m.natAbs < 1000000) : m.natAbs.log2 < 9000 := by
  by_cases h0 : m.natAbs = 0
  · rw [h0]; decide
  · exact (Nat.log2_lt h0).mpr (Nat.lt_of_lt_of_le (show m.natAbs < 2 ^ 20 by omega) (Nat.pow_le_pow_right (by omega) (by omega)))
theorem cut_to {α : Type} {l : List α} {p : Int} (h0 : 0 ≤ p) (h1 : p ≤ l.length) : cutL l none (some p) = l.take p.toNat := by
  unfold cutL HT.sIx
  simp
  have : ¬ p < 0 := by omega
  simp [this]
theorem cut_from {α : Type} {l : List α} {p : Int} (h0 : 0 ≤ p) (h1 : p ≤ l.length) : cutL l (some p) none = l.drop p.toNat := by
  have hp : ¬ p < 0 := by omega
  have hm : min p.toNat l.length = p.toNat := by omega
  show (l.drop (if p < 0 then (p + (l.length : Int)).toNat else min p.toNat l.length)).take (l.length - (if p < 0 then (p + (l.length : Int)).toNat else min p.toNat l.length)) = _
  rw [if_neg hp, hm]
  exact List.take_of_length_le (by rw [List.length_drop]; omega)
end
def sCells : List Nat := [99, 101, 108, 108, 115]
def sCount : List Nat := [99, 111, 117, 110, 116]
def sDigits : List Nat := [100, 105, 103, 105, 116, 115]
theorem getN {st : Sto} {m : Nat} {c : Cell} (h : st[m]? = some c) : m < st.length := by
  rcases Nat.lt_or_ge m st.length with h' | h'
  · exact h'
  · rw [List.getElem?_eq_none h'] at h; cases h
structure Box (st : Sto) (b c : Nat) (k : Int) : Prop where
  dct : ∃ d, st[b]? = some (.dct [(.str [99, 101, 108, 108, 115], .loc c), (.str [99, 111, 117, 110, 116], .int k), (.str [100, 105, 103, 105, 116, 115], .bl d)])
  cel : ∃ ns : List Int, ns ≠ [] ∧ st[c]? = some (.lst (ns.map .int))
theorem Box.app {st : Sto} {b c : Nat} {k : Int} (B : Box st b c k) (ys : Sto) : Box (st ++ ys) b c k := by
  obtain ⟨⟨d, hd⟩, ns, hn, hc⟩ := B
  exact ⟨⟨d, by rw [List.getElem?_append_left (getN hd), hd]⟩, ns, hn, by rw [List.getElem?_append_left (getN hc), hc]⟩
theorem Box.setN {st : Sto} {b c m : Nat} {k : Int} {x : Cell} (B : Box st b c k) (h : m ≠ b) (h' : m ≠ c) : Box (st.set m x) b c k := by
  obtain ⟨⟨d, hd⟩, ns, hn, hc⟩ := B
  exact ⟨⟨d, by rw [List.getElem?_set_ne h, hd]⟩, ns, hn, by rw [List.getElem?_set_ne h', hc]⟩
theorem Box.bl {st : Sto} {b c : Nat} {k : Int} (B : Box st b c k) : b < st.length := let ⟨_, h⟩ := B.dct; getN h
theorem Box.cl {st : Sto} {b c : Nat} {k : Int} (B : Box st b c k) : c < st.length := let ⟨_, _, h⟩ := B.cel; getN h
theorem atI_of {α : Type} {xs : List α} {i : Int} (h0 : 0 ≤ i) (h1 : i < xs.length) : L2.atI xs i = some (xs[i.toNat]'(by omega)) := by
  unfold L2.atI L2.ixN
  rw [if_pos h0, if_pos h1]
  simp [List.getElem?_eq_getElem (show i.toNat < xs.length by omega)]
theorem ixN_of {n : Nat} {i : Int} (h0 : 0 ≤ i) (h1 : i < n) : L2.ixN n i = some i.toNat := by
  unfold L2.ixN
  rw [if_pos h0, if_pos h1]
end MP

set_option maxRecDepth 100000
set_option maxHeartbeats 1000000
namespace MP
open PySem L2
mutual
def plP : PV → Bool
  | .non => true
  | .int _ => true
  | .str x => x.all fun c => decide (c < 1114112)
  | .tup xs => plPs xs
  | .lst xs => plPs xs
  | _ => false
def plPs : List PV → Bool
  | [] => true
  | x :: xs => plP x && plPs xs
end
theorem plPs_iff {xs : List PV} : plPs xs = true ↔ ∀ x ∈ xs, plP x = true := by
  induction xs with
  | nil => simp [plPs]
  | cons x xs ih => simp [plPs, ih]
mutual
theorem eqb_pl : ∀ (x y : PV), plP x = true → plP y = true → eqb x y = decide (x = y)
  | .non, y, h, h' => by cases y <;> simp [eqb]
  | .int i, y, h, h' => by
    cases y <;> simp [plP] at h' <;> simp [eqb]
    rw [ibeq]
  | .str a, y, h, h' => by
    cases y <;> simp [plP] at h' <;> simp [eqb]
    rw [lbeq]
  | .tup xs, y, h, h' => by
    cases y <;> simp [plP] at h' <;> simp [eqb]
    exact eqbs_pl xs _ (by simpa [plP] using h) h'
  | .lst xs, y, h, h' => by
    cases y <;> simp [plP] at h' <;> simp [eqb]
    exact eqbs_pl xs _ (by simpa [plP] using h) h'
  | .bl _, _, h, _ => by simp [plP] at h
  | .ty _, _, h, _ => by simp [plP] at h
  | .gl _, _, h, _ => by simp [plP] at h
  | .frz _, _, h, _ => by simp [plP] at h
  | .loc _, _, h, _ => by simp [plP] at h
theorem eqbs_pl : ∀ (x y : List PV), plPs x = true → plPs y = true → eqbs x y = decide (x = y)
  | [], y, h, h' => by cases y <;> simp [eqbs]
  | a :: x, [], h, h' => by simp [eqbs]
  | a :: x, b :: y, h, h' => by
    simp [plPs] at h h'
    rw [eqbs, eqb_pl a b h.1 h'.1, eqbs_pl x y h.2 h'.2]
    simp
end
mutual
theorem lay_pl : ∀ (x : PV), plP x = true → layP x = true
  | .non, h => by simp [layP]
  | .int i, h => by simp [layP]
  | .str a, h => by simpa [layP, plP] using h
  | .tup xs, h => by simp [layP]; exact lays_pl xs (by simpa [plP] using h)
  | .lst xs, h => by simp [layP]; exact lays_pl xs (by simpa [plP] using h)
  | .bl _, h => by simp [plP] at h
  | .ty _, h => by simp [plP] at h
  | .gl _, h => by simp [plP] at h
  | .frz _, h => by simp [plP] at h
  | .loc _, h => by simp [plP] at h
theorem lays_pl : ∀ (x : List PV), plPs x = true → layPs x = true
  | [], h => by simp [layPs]
  | a :: x, h => by
    simp [plPs] at h
    simp [layPs, lay_pl a h.1, lays_pl x h.2]
end
theorem shal_pl {x : PV} {st : Sto} (h : plP x = true) : shal x st = x := by
  cases x <;> simp [plP] at h <;> simp [shal]
def okP (x : PV) : Bool := plP x && decide (depP x ≤ 64)
theorem cmp_ok {x y : PV} {st : Sto} (hx : okP x = true) (hy : okP y = true) : cmpOk x y st = true := by
  simp [okP] at hx hy
  simp [cmpOk, shal_pl hx.1, shal_pl hy.1, lay_pl _ hx.1, lay_pl _ hy.1, hx.2, hy.2]
theorem Z_eqP {x y : PV} {st : Sto} {Q : PV → Sto → Prop} {E : Exn → Sto → Prop} (hx : okP x = true) (hy : okP y = true) : Z (eqM x y st) Q E = Q (.bl (decide (x = y))) st := by
  rw [Z_eq (cmp_ok hx hy)]
  simp [okP] at hx hy
  rw [shal_pl hx.1, shal_pl hy.1, eqb_pl _ _ hx.1 hy.1]
theorem Z_neP {x y : PV} {st : Sto} {Q : PV → Sto → Prop} {E : Exn → Sto → Prop} (hx : okP x = true) (hy : okP y = true) : Z (neM x y st) Q E = Q (.bl (!decide (x = y))) st := by
  rw [Z_ne (cmp_ok hx hy)]
  simp [okP] at hx hy
  rw [shal_pl hx.1, shal_pl hy.1, eqb_pl _ _ hx.1 hy.1]
def fpl : PV → Bool
  | .non => true
  | .int _ => true
  | .str _ => true
  | _ => false
theorem eqb_fpl {x y : PV} (h : fpl x = true) (h' : fpl y = true) : eqb x y = decide (x = y) := by
  cases x <;> simp [fpl] at h <;> cases y <;> simp [fpl] at h' <;> simp [eqb, ibeq, lbeq]
theorem flat_fpl {x : PV} (h : fpl x = true) : flatP x = true := by cases x <;> simp [fpl] at h <;> simp [flatP]
theorem any_fpl {x : PV} (h : fpl x = true) : ∀ {xs : List PV}, xs.all fpl = true → xs.all flatP = true ∧ (xs.any fun p => eqb p x) = decide (x ∈ xs)
  | [], _ => by simp
  | y :: xs, hs => by
    simp at hs
    obtain ⟨h1, h2⟩ := any_fpl h (xs := xs) (by simpa using hs.2)
    have e := eqb_fpl hs.1 h
    refine ⟨by simp [flat_fpl hs.1]; simpa using h1, ?_⟩
    rw [List.any_cons, h2, e]
    by_cases hy : y = x
    · subst hy; simp
    · have : ¬ x = y := fun e => hy e.symm
      simp [hy, this]
theorem Z_inP {n : Bool} {x y : PV} {xs : List PV} {st : Sto} {Q : PV → Sto → Prop} {E : Exn → Sto → Prop} (hs : seqOf y st = some xs) (hx : fpl x = true) (hf : xs.all fpl = true) : Z (inM n x y st) Q E = Q (.bl (ng n (decide (x ∈ xs)))) st := by
  obtain ⟨h1, h2⟩ := any_fpl hx hf
  have e : inM n x y st = (if (flatP x && xs.all flatP) = true then .ok (.bl (ng n (xs.any fun p => eqb p x))) st else .bad) := by
    unfold inM
    cases y with
    | str z => simp [seqOf] at hs
    | tup z => dsimp only; rw [hs]
    | lst z => dsimp only; rw [hs]
    | frz z => dsimp only; rw [hs]
    | loc z => dsimp only; rw [hs]
    | non => simp [seqOf] at hs
    | bl _ => simp [seqOf] at hs
    | int _ => simp [seqOf] at hs
    | ty _ => simp [seqOf] at hs
    | gl _ => simp [seqOf] at hs
  rw [e, if_pos (by rw [h1, flat_fpl hx]; rfl), h2]
  rfl
theorem joinNil : ∀ zs : List (List Nat), TL.joinL [] zs = zs.flatten
  | [] => rfl
  | [p] => by simp [TL.joinL]
  | p :: q :: r => by rw [TL.joinL, joinNil (q :: r)]; simp
theorem Z_joinC {l : List Nat} {st : Sto} {Q : PV → Sto → Prop} {E : Exn → Sto → Prop} (h : l.length ≤ 16777216) : Z (joinM (.str []) [.lst (l.map fun c => PV.str [c])] st) Q E = Q (.str l) st := by
  have e1 : ∀ l : List Nat, (l.map fun c => [c]).flatten = l := by
    intro l; induction l with
    | nil => rfl
    | cons x l ih => simp [ih]
  have e2 : ∀ l : List Nat, ((l.map fun c => [c]).map (·.length)).sum = l.length := by
    intro l; induction l with
    | nil => rfl
    | cons x l ih => rw [List.map_cons, List.map_cons, List.sum_cons, ih]; simp; omega
  rw [Z_join (zs := l.map fun c => [c]) (by simp) (by rw [e2]; simpa using h), joinNil, e1]
theorem str_at {a : List Nat} {i : Int} {m : Nat} (h0 : 0 ≤ i) (h1 : i < m) (hm : m ≤ a.length) (ha : ∀ c ∈ a, c < 1114112) : ∃ c, L2.atI a i = some c ∧ c < 1114112 := ⟨_, atI_of h0 (by omega), ha _ (List.getElem_mem _)⟩
def Sg (z : List Nat) (m : Nat) : Prop := z.length ≤ m ∧ ∀ c ∈ z, c < 1114112
theorem Sg.app {a b : List Nat} {m k : Nat} (h : Sg a m) (h' : Sg b k) : Sg (a ++ b) (m + k) := ⟨by have := h.1; have := h'.1; simp; omega, fun c hc => by
  rcases List.mem_append.mp hc with hc | hc
  · exact h.2 c hc
  · exact h'.2 c hc⟩
theorem Sg.mono {a : List Nat} {m k : Nat} (h : Sg a m) (hk : m ≤ k) : Sg a k := ⟨Nat.le_trans h.1 hk, h.2⟩
theorem Sg.cut {a : List Nat} {m : Nat} {x y : Option Int} (h : Sg a m) : Sg (cutL a x y) m := by
  unfold cutL
  exact ⟨Nat.le_trans (by simp; omega) h.1, fun c hc => h.2 c (List.mem_of_mem_drop (List.mem_of_mem_take hc))⟩
@[simp ↓] theorem Z_slF {xs : List PV} {lo hi : Option Int} {st : Sto} {Q : PV → Sto → Prop} {E : Exn → Sto → Prop} : Z (slM (.frz xs) lo hi st) Q E = Q (.lst (cutL xs lo hi)) st := propext Iff.rfl
theorem cut_map {α β : Type} (f : α → β) {xs : List α} {lo hi : Option Int} : cutL (xs.map f) lo hi = (cutL xs lo hi).map f := by
  unfold cutL; rw [List.length_map, List.map_take, List.map_drop]
theorem cut_len {α : Type} {xs : List α} {lo hi : Option Int} : (cutL xs lo hi).length ≤ xs.length := by
  unfold cutL; simp; omega
theorem cut_mid {α : Type} {xs : List α} {a b : Nat} : cutL xs (some (a : Int)) (some (b : Int)) = (xs.drop a).take (b - a) := by
  unfold cutL
  rw [HT.sIx_nat, HT.sIx_nat]
  apply List.ext_getElem?
  intro i
  simp only [List.getElem?_take, List.getElem?_drop]
  by_cases h : a + i < xs.length
  · rw [show min a xs.length = a by omega]
    by_cases h1 : i < b - a
    · rw [if_pos h1, if_pos (by omega)]
    · rw [if_neg h1, if_neg (by omega)]
  · rw [List.getElem?_eq_none (show xs.length ≤ a + i by omega)]
    split
    · rw [List.getElem?_eq_none (by omega)]; split <;> rfl
    · split <;> rfl
theorem cut_midlen {α : Type} {xs : List α} {a b : Nat} : (cutL xs (some (a : Int)) (some (b : Int))).length ≤ b - a := by
  rw [cut_mid]; simp; omega
section
variable {st : Sto} {Q : PV → Sto → Prop} {E : Exn → Sto → Prop} {QL : List PV → Sto → Prop} {i : Int} {a b : List Nat} {xs ys : List PV} {x : PV} {n : Bool} {tab : List (List Nat × PV)}
theorem Z_strI (h : i.natAbs.log2 < 1920) : Z (strM [.int i] st) Q E = Q (.str (intS i)) st := by unfold strM; dsimp only; rw [if_pos h]; rfl
@[simp ↓] theorem Z_strS : Z (strM [.str a] st) Q E = Q (.str a) st := propext Iff.rfl
@[simp ↓] theorem Z_inTab : Z (inTab n tab (.str a) st) Q E = Q (.bl (ng n (lookT tab a).isSome)) st := propext Iff.rfl
theorem Z_ixTab (h : lookT tab a = some x) : Z (ixTab tab (.str a) st) Q E = Q x st := by unfold ixTab; dsimp only; rw [h]; rfl
@[simp ↓] theorem Z_zipT : Z (zipM [.tup xs, .tup ys] st) QL E = QL (zipP xs ys) st := propext Iff.rfl
@[simp ↓] theorem Z_zipL : Z (zipM [.lst xs, .lst ys] st) QL E = QL (zipP xs ys) st := propext Iff.rfl
theorem Z_index {k : Nat} {r : List Nat} (h : Builtin.Str.occurrences ⟨a.toArray⟩ ⟨b.toArray⟩ 0 a.length 1 = k :: r) : Z (indexM (.str a) [.str b] st) Q E = Q (.int (k : Nat)) st := by unfold indexM; dsimp only; rw [h]; rfl
theorem intsOf_map (l : List Int) : intsOf (l.map .int) = some l := by
  induction l with
  | nil => rfl
  | cons i l ih => rw [List.map_cons, intsOf, ih]; rfl
theorem Z_sumL {l : List Int} : Z (sumM [.lst (l.map .int)] st) Q E = Q (.int l.sum) st := by
  unfold sumM; simp only [lstOf, listOf, intsOf_map]; rfl
end
theorem boolsOf_map (l : List Bool) : boolsOf (l.map .bl) = some l := by
  induction l with
  | nil => rfl
  | cons i l ih => rw [List.map_cons, boolsOf, ih]; rfl
theorem Z_allL {bs : List Bool} {st : Sto} {Q : PV → Sto → Prop} {E : Exn → Sto → Prop} : Z (allM false [.lst (bs.map .bl)] st) Q E = Q (.bl (bs.all id)) st := by
  unfold allM; simp only [listOf, boolsOf_map]; rfl
theorem Z_anyL {bs : List Bool} {st : Sto} {Q : PV → Sto → Prop} {E : Exn → Sto → Prop} : Z (allM true [.lst (bs.map .bl)] st) Q E = Q (.bl (bs.any id)) st := by
  unfold allM; simp only [listOf, boolsOf_map]; rfl
theorem Z_allR {k : Nat} {st : Sto} {Q : PV → Sto → Prop} {E : Exn → Sto → Prop} : Z (allM false [.lst (List.replicate k (.bl true))] st) Q E = Q (.bl true) st := by
  have e := Z_allL (bs := List.replicate k true) (st := st) (Q := Q) (E := E)
  have h : (List.replicate k true).all id = true := by simp
  rw [List.map_replicate, h] at e
  exact e
def kForC (f : List PV → List PV) (g : GM) (b : MS1) (ρ : Rho) (QF : KF) (E : KX) : Nat × List PV → Sto → Prop := fun nx s => Z (forG (gd nx.1 nx.2) g b (f nx.2) ρ s) QF E
@[simp ↓] theorem kForC_at {f : List PV → List PV} {g : GM} {b : MS1} {ρ : Rho} {QF : KF} {E : KX} {n : Nat} {xs : List PV} {s : Sto} : kForC f g b ρ QF E (n, xs) s = Z (forG (gd n xs) g b (f xs) ρ s) QF E := propext Iff.rfl
@[simp ↓] theorem Z_sForC {f : List PV → List PV} {mi : Rho → M (Nat × List PV)} {g : GM} {b : MS1} {ρ : Rho} {st : Sto} {QF : KF} {E : KX} : Z (sForC f mi g b ρ st) QF E = Z (mi ρ st) (kForC f g b ρ QF E) (kX ρ QF) := by
  unfold sForC; rw [Z_onErr]; rfl
def kCell (Q : Nat × List PV → Sto → Prop) : PV → Sto → Prop := fun v s => Z (atCell v s) Q E0
theorem kCell_at {Q : Nat × List PV → Sto → Prop} {n : Nat} {xs : List PV} {s : Sto} (h : s[n]? = some (.lst xs)) : kCell Q (.loc n) s = Q (n, xs) s := by
  unfold kCell atCell; dsimp only; rw [h]; rfl
@[simp ↓] theorem Z_iCell {m : ME1} {ρ : Rho} {st : Sto} {Q : Nat × List PV → Sto → Prop} {E : KX} : Z (iCell m ρ st) Q E = Z (m ρ st) (kCell Q) E := by
  unfold iCell; rw [Z_bind]
  congr 1; funext v s
  unfold kCell atCell
  cases v with
  | loc n => dsimp only; cases s[n]? with
    | none => rfl
    | some c => cases c <;> rfl
  | _ => rfl
theorem gd_of {n : Nat} {xs : List PV} {st : Sto} (h : st[n]? = some (.lst xs)) : gd n xs st = true := by unfold gd; rw [h]; simp
theorem Z_forG_nil {G : Sto → Bool} {g : GM} {b : MS1} {ρ : Rho} {st : Sto} {QF : KF} {E : KX} (h : G st = true) : Z (forG G g b [] ρ st) QF E = QF (.next ρ) st := by
  unfold forG; rw [if_pos h]; rfl
theorem Z_forG {G : Sto → Bool} {g : GM} {b : MS1} {p : PV} {ps : List PV} {ρ : Rho} {st : Sto} {QF : KF} {E : KX} (h : G st = true) : Z (forG G g b (p :: ps) ρ st) QF E = Z (g p ρ st) (fun ρ1 s => Z (b ρ1 s) (turnQ (forG G g b ps) QF E) E) (kX ρ QF) := by
  rw [forG]; dsimp only; rw [if_pos h, Z_onErr]
  congr 1; funext ρ1 s
  unfold turnL
  cases b ρ1 s with
  | ok f s' => cases f <;> rfl
  | err x s' => rfl
  | bad => rfl
theorem for_invG {G : Sto → Bool} {g : GM} {b : MS1} {QF : KF} {E : KX} (I : List PV → Rho → Sto → Prop) (hG : ∀ ps ρ st, I ps ρ st → G st = true) : ∀ (ps : List PV) (ρ : Rho) (st : Sto), I ps ρ st → (∀ p ps ρ st, I (p :: ps) ρ st → Z (g p ρ st) (fun ρ1 s => Z (b ρ1 s) (fun fl s2 => (∃ ρ2, (fl = .next ρ2 ∨ fl = .cont ρ2) ∧ I ps ρ2 s2) ∨ (∃ ρ2, fl = .brk ρ2 ∧ QF (.next ρ2) s2) ∨ (∃ v, fl = .ret v ∧ QF fl s2)) E0) E0) →
    (∀ ρ st, I [] ρ st → QF (.next ρ) st) → Z (forG G g b ps ρ st) QF E
  | [], ρ, st, h, _, hq => by rw [Z_forG_nil (hG _ _ _ h)]; exact hq ρ st h
  | p :: ps, ρ, st, h, hs, hq => by
    rw [Z_forG (hG _ _ _ h)]
    refine (hs p ps ρ st h).go fun ρ1 s h1 => Z.go h1 fun fl s2 h2 => ?_
    rcases h2 with ⟨ρ3, e | e, h3⟩ | ⟨ρ3, e, h3⟩ | ⟨v, e, h3⟩
    · subst e; exact for_invG I hG ps ρ3 s2 h3 hs hq
    · subst e; exact for_invG I hG ps ρ3 s2 h3 hs hq
    · subst e; exact h3
    · subst e; exact h3
def kLcC (f : List PV → List PV) (k : List PV → M PV) (g : GM) (t : MT1) (e : ME1) (vs : List Nat) (ρ : Rho) (QP : KP) (E : KX) : Nat × List PV → Sto → Prop := fun nx s => Z (lcG (gd nx.1 nx.2) g t e (wipeP ρ vs) (f nx.2) [] s) (kLE k QP E) E
@[simp ↓] theorem kLcC_at {f : List PV → List PV} {k : List PV → M PV} {g : GM} {t : MT1} {e : ME1} {vs : List Nat} {ρ : Rho} {QP : KP} {E : KX} {n : Nat} {xs : List PV} {s : Sto} : kLcC f k g t e vs ρ QP E (n, xs) s = Z (lcG (gd n xs) g t e (wipeP ρ vs) (f xs) [] s) (kLE k QP E) E := propext Iff.rfl
@[simp ↓] theorem Z_eLcC {f : List PV → List PV} {k : List PV → M PV} {mi : Rho → M (Nat × List PV)} {g : GM} {t : MT1} {e : ME1} {vs : List Nat} {ρ : Rho} {st : Sto} {QP : KP} {E : KX} : Z (eLcC f k mi g t e vs ρ st) QP E = Z (mi ρ st) (kLcC f k g t e vs ρ QP E) E := by
  unfold eLcC; rw [Z_bind]; simp only [Z_bind]; rfl
theorem lcG_nil {G : Sto → Bool} {g : GM} {t : MT1} {e : ME1} {ρ0 : Rho} {acc : List PV} {st : Sto} {QL : KLs} {E : KX} (h : G st = true) : Z (lcG G g t e ρ0 [] acc st) QL E = QL acc st := by unfold lcG; rw [if_pos h]; rfl
theorem lcG_cons {G : Sto → Bool} {g : GM} {t : MT1} {e : ME1} {ρ0 : Rho} {p : PV} {ps acc : List PV} {st : Sto} {QL : KLs} {E : KX} (h : G st = true) : Z (lcG G g t e ρ0 (p :: ps) acc st) QL E = Z (g p ρ0 st) (fun ρ1 s => Z (t ρ1 s) (fun c s => if c = true then Z (e ρ1 s) (fun y s => if acc.length < 16777216 then Z (lcG G g t e ρ0 ps (acc ++ [y]) s) QL E else False) E0 else Z (lcG G g t e ρ0 ps acc s) QL E) E0) E0 := by
  rw [lcG]; dsimp only; rw [if_pos h, Z_bind, Z_calm]
  congr 1; funext ρ1 s
  rw [Z_bind, Z_calm]
  congr 1; funext c s
  cases c with
  | false => rfl
  | true =>
    rw [if_pos rfl, if_pos rfl, Z_bind, Z_calm]
    congr 1; funext y s
    rw [Z_ite]
    rfl
abbrev DG : List Nat := [48, 49, 50, 51, 52, 53, 54, 55, 56, 57]
def isD (c : Nat) : Bool := decide (c ∈ DG)
theorem isD_iff (c : Nat) : isD c = true ↔ 48 ≤ c ∧ c ≤ 57 := by
  simp [isD]; omega
theorem inD {st : Sto} {b : Bool} {c : Nat} {Q : PV → Sto → Prop} {E : Exn → Sto → Prop} : Z (inM b (.str [c]) (.str DG) st) Q E = Q (.bl (ng b (isD c))) st := propext Iff.rfl
section
open PySem.NumText
theorem fold_bd : ∀ (cs : List Nat) (a : Nat), AllDigits cs → a * 10 ^ cs.length ≤ cs.foldl (fun acc c => acc * 10 + (c - 48)) a ∧ cs.foldl (fun acc c => acc * 10 + (c - 48)) a < (a + 1) * 10 ^ cs.length
  | [], a, _ => by simp
  | c :: cs, a, h => by
    have hc := h.head
    obtain ⟨h1, h2⟩ := fold_bd cs (a * 10 + (c - 48)) h.tail
    rw [List.foldl_cons, List.length_cons, Nat.pow_succ]
    constructor
    · refine Nat.le_trans ?_ h1
      rw [show a * (10 ^ cs.length * 10) = (a * 10) * 10 ^ cs.length by rw [Nat.mul_comm (10 ^ cs.length), Nat.mul_assoc]]
      exact Nat.mul_le_mul_right _ (by omega)
    · refine Nat.lt_of_lt_of_le h2 ?_
      rw [show (a + 1) * (10 ^ cs.length * 10) = ((a + 1) * 10) * 10 ^ cs.length by rw [Nat.mul_comm (10 ^ cs.length), Nat.mul_assoc]]
      exact Nat.mul_le_mul_right _ (by omega)
theorem allD {d : List Nat} (h : d.all isD = true) : AllDigits d := fun c hc => (isD_iff c).mp (List.all_eq_true.mp h c hc)
theorem Z_intS {d : List Nat} {st : Sto} {Q : PV → Sto → Prop} {E : Exn → Sto → Prop} (h : d.all isD = true) (h0 : d ≠ []) (hl : d.length ≤ 640) : Z (intM [.str d] st) Q E = Q (.int (digitsVal d : Nat)) st := by
  have e := intText_digits (x := ⟨d.toArray⟩) (by simpa using allD h) (by simpa using h0) (by show d.toArray.size ≤ 4300; simp; omega)
  unfold intM; dsimp only; rw [if_pos hl, e]
  simp
theorem val_great {c : Nat} {d : List Nat} (h : (c :: d).all isD = true) (hl : 5 ≤ d.length) (h0 : c ≠ 48) : 99999 < digitsVal (c :: d) := by
  have hc := (allD h).head
  have h1 := (fold_bd d (0 * 10 + (c - 48)) (allD h).tail).1
  have h2 : 10 ^ 5 ≤ 10 ^ d.length := Nat.pow_le_pow_right (by omega) hl
  have h3 : 1 * 10 ^ d.length ≤ (0 * 10 + (c - 48)) * 10 ^ d.length := Nat.mul_le_mul_right _ (by omega)
  unfold digitsVal
  rw [List.foldl_cons]
  omega
end
theorem Z_idxD {c : Nat} {st : Sto} {Q : PV → Sto → Prop} {E : Exn → Sto → Prop} (h : isD c = true) : Z (indexM (.str DG) [.str [c]] st) Q E = Q (.int ((c - 48 : Nat) : Int)) st := by
  have hc := (isD_iff c).mp h
  have h2 : c = 48 ∨ c = 49 ∨ c = 50 ∨ c = 51 ∨ c = 52 ∨ c = 53 ∨ c = 54 ∨ c = 55 ∨ c = 56 ∨ c = 57 := by omega
  rcases h2 with rfl | rfl | rfl | rfl | rfl | rfl | rfl | rfl | rfl | rfl <;> exact Z_index (r := []) (by decide +kernel)
section
variable {κ : Type} [DecidableEq κ]
theorem foldl_ddS : ∀ (l acc : List κ), acc.Nodup → (l.foldl ddS acc).Nodup ∧ ((l.foldl ddS acc).length = acc.length + l.length ↔ (acc ++ l).Nodup)
  | [], acc, h => by simp [h]
  | k :: l, acc, h => by
    have hl : ∀ (l acc : List κ), (l.foldl ddS acc).length ≤ acc.length + l.length := by
      intro l; induction l with
      | nil => intro acc; simp
      | cons k l ih => intro acc; have := ih (ddS acc k); have := ddS_len acc k; simp; omega
    by_cases hk : k ∈ acc
    · have e : ddS acc k = acc := if_pos hk
      obtain ⟨a, b⟩ := foldl_ddS l acc h
      rw [List.foldl_cons, e]
      refine ⟨a, fun q => ?_, fun q => ?_⟩
      · have := hl l acc; simp at q; omega
      · exfalso
        rw [List.nodup_append] at q
        exact q.2.2 k hk k (by simp) rfl
    · have e : ddS acc k = acc ++ [k] := if_neg hk
      obtain ⟨a, b⟩ := foldl_ddS l (acc ++ [k]) (by
        rw [List.nodup_append]
        refine ⟨h, by simp, fun x hx y hy => ?_⟩
        simp at hy; subst hy
        intro e; subst e; exact hk hx)
      rw [List.foldl_cons, e]
      refine ⟨a, ?_⟩
      rw [show acc.length + (k :: l).length = (acc ++ [k]).length + l.length by simp; omega, b]
      simp
theorem dd_nodup (l : List κ) : ((dd l).length = l.length) ↔ l.Nodup := by
  have := (foldl_ddS l [] List.nodup_nil).2
  simpa [dd] using this
end
theorem keysOf_str (zs : List (List Nat)) : keysOf (zs.map .str) = some (zs.map fun z => .inr ⟨z.toArray⟩) := by
  induction zs with
  | nil => rfl
  | cons z zs ih => rw [List.map_cons, keysOf, ih]; rfl
theorem Z_lenSet {x : PV} {zs : List (List Nat)} {st : Sto} {Q : PV → Sto → Prop} {E : Exn → Sto → Prop} (h : seqOf x st = some (zs.map .str)) (hl : zs.length ≤ 1000) (hq : ∀ m : Nat, (m = zs.length ↔ zs.Nodup) → m ≤ zs.length → Q (.int m) st) : Z (lenSetM x st) Q E := by
  unfold lenSetM
  rw [h]; dsimp only
  rw [keysOf_str]; dsimp only
  rw [if_pos (by simpa using hl)]
  refine hq _ ?_ ?_
  · have := dd_nodup (zs.map fun z => (Sum.inr ⟨z.toArray⟩ : L2.Key))
    rw [List.length_map] at this
    rw [this]
    refine List.pairwise_map.trans ?_
    refine ⟨fun h => h.imp fun {a b} h e => h (by rw [e]), fun h => h.imp fun {a b} h e => h (by simpa using e)⟩
  · have := dd_len (zs.map fun z => (Sum.inr ⟨z.toArray⟩ : L2.Key))
    rwa [List.length_map] at this
end MP

set_option maxRecDepth 100000
namespace K29
open PySem L2 MP

def b_row_gives (n : Nat) : Rho → M Fl :=
  (sSeq (sIf (eB (eBin (inM false) (eBin ixM (eVar 0) (eC (.int 0))) (eCall mkTup (aCons (eC (.str [110, 101, 101, 100])) (aCons (eC (.str [116, 105, 99, 107])) aNil))))) (sRet (eC .non)) sNext)
  (sRet (eBin ixM (eVar 0) (eC (.int 0)))))
def F_row_gives (n : Nat) : List PV → M PV := runB (b_row_gives n) 1
theorem z_row_gives {n : Nat} {p0 : PV} {st : Sto} {Q : PV → Sto → Prop} {E : Exn → Sto → Prop} : Z (F_row_gives n [p0] st) Q E = Z (b_row_gives n [some p0] st) (runQ Q E) E0 := Z_run rfl
def L1_is_once (n : Nat) : Rho → M Fl :=
  (sSet 4 (eBin addV (eBin addV (eVar 4) (eCall listM (aCons (eVar 5) aNil))) (eLc lcV (iSeq (eVar 6)) (gN 8) (eB (eBin notN (eCall (F_row_gives n) (aCons (eVar 8) aNil)) (eC .non))) (eCall (F_row_gives n) (aCons (eVar 8) aNil)) [8])))
def L0_is_once (n : Nat) : Rho → M Fl :=
  (sSeq (sSet 4 (eCall mkLst aNil))
  (sSeq (sFor (iSeq (eVar 3)) (gT 3 (gsCons (gN 5) (gsCons (gN 6) (gsCons (gN 7) gsNil)))) (L1_is_once n))
  (sIf (eB (eBin neM (eUn lenSetM (eVar 4)) (eCall lenM (aCons (eVar 4) aNil)))) (sRet (eC (.bl false))) sNext)))
theorem zL0_is_once {n : Nat} {ρ : Rho} {st : Sto} {Q : Fl → Sto → Prop} {E : Exn → Sto → Prop} : Z (L0_is_once n ρ st) Q E = Z ((sSeq (sSet 4 (eCall mkLst aNil))
  (sSeq (sFor (iSeq (eVar 3)) (gT 3 (gsCons (gN 5) (gsCons (gN 6) (gsCons (gN 7) gsNil)))) (L1_is_once n))
  (sIf (eB (eBin neM (eUn lenSetM (eVar 4)) (eCall lenM (aCons (eVar 4) aNil)))) (sRet (eC (.bl false))) sNext))) ρ st) Q E := by unfold L0_is_once; rfl
theorem zL1_is_once {n : Nat} {ρ : Rho} {st : Sto} {Q : Fl → Sto → Prop} {E : Exn → Sto → Prop} : Z (L1_is_once n ρ st) Q E = Z ((sSet 4 (eBin addV (eBin addV (eVar 4) (eCall listM (aCons (eVar 5) aNil))) (eLc lcV (iSeq (eVar 6)) (gN 8) (eB (eBin notN (eCall (F_row_gives n) (aCons (eVar 8) aNil)) (eC .non))) (eCall (F_row_gives n) (aCons (eVar 8) aNil)) [8]))) ρ st) Q E := by unfold L1_is_once; rfl
def b_is_once (n : Nat) : Rho → M Fl :=
  (sSeq (sFor (iSeq (eVar 0)) (gT 3 (gsCons (gN 1) (gsCons (gN 2) (gsCons (gN 3) gsNil)))) (L0_is_once n))
  (sRet (eC (.bl true))))
def F_is_once (n : Nat) : List PV → M PV := runB (b_is_once n) 9
theorem z_is_once {n : Nat} {p0 : PV} {st : Sto} {Q : PV → Sto → Prop} {E : Exn → Sto → Prop} : Z (F_is_once n [p0] st) Q E = Z (b_is_once n [some p0, none, none, none, none, none, none, none, none] st) (runQ Q E) E0 := Z_run rfl
def b__law_feed (n : Nat) : Rho → M Fl :=
  (sSeq (sSet 1 (eCall listM (aCons (eSl slM (eVar 0) oNone (oSome (eC (.int 63)))) aNil)))
  (sSeq (sSet 2 (eBin addV (eSl slM (eVar 1) oNone (oSome (eC (.int 2)))) (eCall mkLst (aCons (eC (.int 0)) (aCons (eC (.int 0)) aNil)))))
  (sRet (eDct [((eC (.str [99, 101, 108, 108, 115])), (eVar 1)), ((eC (.str [97, 116])), (eC (.int 0))), ((eC (.str [108, 101, 102, 116])), (eBin ixM (eVar 2) (eC (.int 1)))), ((eC (.str [100, 105, 103, 105, 116, 115])), (eBin eqM (eBin modV (eBin ixM (eVar 2) (eC (.int 0))) (eC (.int 2))) (eC (.int 1))))]))))
def F__law_feed (n : Nat) : List PV → M PV := runB (b__law_feed n) 3
theorem z__law_feed {n : Nat} {p0 : PV} {st : Sto} {Q : PV → Sto → Prop} {E : Exn → Sto → Prop} : Z (F__law_feed n [p0] st) Q E = Z (b__law_feed n [some p0, none, none] st) (runQ Q E) E0 := Z_run rfl
def b__law_draw (n : Nat) : Rho → M Fl :=
  (sSeq (sIf (eB (eBin ixM (eVar 0) (eC (.str [100, 105, 103, 105, 116, 115])))) (sSeq (sSet 2 (eBin modV (eBin ixM (eVar 0) (eC (.str [108, 101, 102, 116]))) (eVar 1)))
  (sSeq (sAsg (eBin fdivV (eBin ixM (eVar 0) (eC (.str [108, 101, 102, 116]))) (eVar 1)) (gSubM (eVar 0) (eC (.str [108, 101, 102, 116]))))
  (sSeq (sAsg (eBin (inM true) (eBin ixM (eVar 0) (eC (.str [108, 101, 102, 116]))) (eCall mkTup (aCons (eC (.int 0)) (aCons (eUn negV (eC (.int 1))) aNil)))) (gSubM (eVar 0) (eC (.str [100, 105, 103, 105, 116, 115]))))
  (sRet (eVar 2))))) sNext)
  (sSeq (sSet 3 (eBin ixM (eVar 0) (eC (.str [97, 116]))))
  (sSeq (sAsg (eBin addV (eVar 3) (eC (.int 1))) (gSubM (eVar 0) (eC (.str [97, 116]))))
  (sSeq (sSet 4 (eVar 3))
  (sSeq (sIf (eB (eBin neM (eBin ixM (eVar 0) (eC (.str [99, 101, 108, 108, 115]))) (eCall mkLst aNil))) (sSet 4 (eBin ixM (eBin ixM (eVar 0) (eC (.str [99, 101, 108, 108, 115]))) (eBin modV (eVar 3) (eCall lenM (aCons (eBin ixM (eVar 0) (eC (.str [99, 101, 108, 108, 115]))) aNil))))) sNext)
  (sSeq (sSet 5 (eBin modV (eBin mulV (eBin addV (eBin addV (eBin addV (eBin modV (eVar 4) (eC (.int 1000003))) (eBin mulV (eBin mulV (eC (.int 7)) (eVar 3)) (eVar 3))) (eBin mulV (eC (.int 31)) (eVar 3))) (eC (.int 1))) (eC (.int 48271))) (eC (.int 999983))))
  (sRet (eBin modV (eBin modV (eBin mulV (eVar 5) (eC (.int 742938285))) (eC (.int 2147483629))) (eVar 1)))))))))
def F__law_draw (n : Nat) : List PV → M PV := runB (b__law_draw n) 6
theorem z__law_draw {n : Nat} {p0 p1 : PV} {st : Sto} {Q : PV → Sto → Prop} {E : Exn → Sto → Prop} : Z (F__law_draw n [p0, p1] st) Q E = Z (b__law_draw n [some p0, some p1, none, none, none, none] st) (runQ Q E) E0 := Z_run rfl
def b__law_function (n : Nat) : Rho → M Fl :=
  (sSeq (sSet 2 (eSl slM (eCall mkLst (aCons (eC (.str [110, 48])) (aCons (eC (.str [114, 48])) aNil))) oNone (oSome (eCall (F__law_draw n) (aCons (eVar 0) (aCons (eC (.int 3)) aNil))))))
  (sSeq (sSet 3 (eSl slN (eCall mkLst (aCons (eC (.str [110, 49])) (aCons (eC (.str [114, 49])) aNil))) oNone (oSome (eCall (F__law_draw n) (aCons (eVar 0) (aCons (eC (.int 3)) aNil))))))
  (sSeq (sSet 4 (eSl slN (eCall mkLst (aCons (eC (.str [110, 50])) (aCons (eC (.str [110, 50, 48])) (aCons (eC (.str [110, 50, 48, 48])) aNil)))) oNone (oSome (eCall (F__law_draw n) (aCons (eVar 0) (aCons (eC (.int 4)) aNil))))))
  (sSeq (sSet 5 (eSl slN (eCall mkLst (aCons (eC (.str [110, 51])) (aCons (eC (.str [110, 51, 48])) aNil))) oNone (oSome (eCall (F__law_draw n) (aCons (eVar 0) (aCons (eC (.int 3)) aNil))))))
  (sSeq (sSet 6 (eC (.bl false)))
  (sSeq (sSet 7 (eCall (F__law_draw n) (aCons (eVar 0) (aCons (eC (.int 8)) aNil))))
  (sSeq (sIf (tAndM (eB (eBin eqM (eVar 7) (eC (.int 1)))) (eB (eBin neM (eVar 4) (eCall mkLst aNil)))) (sSeq (sDrop (eMeth "list" insertM (eVar 4) (aCons (eCall (F__law_draw n) (aCons (eVar 0) (aCons (eBin addV (eCall lenM (aCons (eVar 4) aNil)) (eC (.int 1))) aNil))) (aCons (eBin ixM (eVar 4) (eC (.int 0))) aNil))))
  (sSet 6 (eC (.bl true)))) sNext)
  (sSeq (sIf (tAndM (eB (eBin eqM (eVar 7) (eC (.int 2)))) (eB (eBin neM (eVar 4) (eCall mkLst aNil)))) (sSeq (sDrop (eMeth "list" insertM (eVar 5) (aCons (eCall (F__law_draw n) (aCons (eVar 0) (aCons (eBin addV (eCall lenM (aCons (eVar 5) aNil)) (eC (.int 1))) aNil))) (aCons (eBin ixM (eVar 4) (eUn negV (eC (.int 1)))) aNil))))
  (sSet 6 (eC (.bl true)))) sNext)
  (sSeq (sIf (tAndM (eB (eBin eqM (eVar 7) (eC (.int 3)))) (eB (eBin gtI (eCall lenM (aCons (eVar 2) aNil)) (eC (.int 0))))) (sSeq (sDrop (eMeth "list" appendM (eVar 5) (aCons (eC (.str [110, 48])) aNil)))
  (sSet 6 (eC (.bl true)))) sNext)
  (sSeq (sIf (tAndM (eB (eBin eqM (eVar 7) (eC (.int 4)))) (eB (eBin gtI (eCall lenM (aCons (eVar 2) aNil)) (eC (.int 0))))) (sSeq (sDrop (eMeth "list" insertM (eVar 3) (aCons (eC (.int 0)) (aCons (eC (.str [110, 48])) aNil))))
  (sSet 6 (eC (.bl true)))) sNext)
  (sSeq (sIf (tAndM (eB (eBin eqM (eVar 7) (eC (.int 5)))) (eB (eBin gtI (eCall lenM (aCons (eVar 3) aNil)) (eC (.int 0))))) (sSeq (sDrop (eMeth "list" appendM (eVar 4) (aCons (eC (.str [110, 49])) aNil)))
  (sSet 6 (eC (.bl true)))) sNext)
  (sSeq (sSet 8 (eCall tupleM (aCons (eLcC enumP lcV (iCell (eVar 4)) (gT 2 (gsCons (gN 13) (gsCons (gN 14) gsNil))) tYesM (eCall mkTup (aCons (eVar 14) (aCons (eC (.str [99, 111, 112, 121])) (aCons (eCall mkTup (aCons (eVar 13) aNil)) aNil)))) [13, 14]) aNil)))
  (sSeq (sSet 9 (eCall tupleM (aCons (eLcC enumP lcV (iCell (eVar 5)) (gT 2 (gsCons (gN 13) (gsCons (gN 14) gsNil))) tYesM (eCall mkTup (aCons (eVar 14) (aCons (eC (.str [97, 100, 100])) (aCons (eCall mkTup (aCons (eVar 13) (aCons (eC (.int 1)) aNil))) aNil)))) [13, 14]) aNil)))
  (sSeq (sSet 10 (eCall mkTup (aCons (eC (.str [103, 105, 118, 101])) (aCons (eCall mkTup aNil) aNil))))
  (sSeq (sIf (eB (eBin eqM (eCall (F__law_draw n) (aCons (eVar 0) (aCons (eC (.int 2)) aNil))) (eC (.int 0)))) (sSeq (sSet 11 (eCall mkTup (aCons (eC (.str [114, 57])) (aCons (eC (.str [109, 97, 107, 101])) (aCons (eCall mkTup aNil) aNil)))))
  (sSeq (sSet 8 (eBin addV (eVar 8) (eCall mkTup (aCons (eVar 11) aNil))))
  (sSet 10 (eCall mkTup (aCons (eC (.str [103, 111])) (aCons (eC (.int 1)) (aCons (eCall tupleM (aCons (eLcC id lcV (iCell (eVar 3)) (gN 14) tYesM (eBin ixM (eCall mkLst (aCons (eC (.str [114, 57])) (aCons (eC (.int 5)) aNil))) (eCall intM (aCons (eBin eqM (eBin ixM (eVar 14) (eC (.int 0))) (eC (.str [110]))) aNil))) [14]) aNil)) aNil))))))) sNext)
  (sSeq (sSet 12 (eCall mkTup (aCons (eCall mkTup (aCons (eCall tupleM (aCons (eVar 2) aNil)) (aCons (eVar 8) (aCons (eVar 10) aNil)))) (aCons (eCall mkTup (aCons (eCall tupleM (aCons (eVar 3) aNil)) (aCons (eVar 9) (aCons (eCall mkTup (aCons (eC (.str [103, 105, 118, 101])) (aCons (eCall mkTup aNil) aNil))) aNil)))) aNil))))
  (sRet (eCall mkTup (aCons (eCall mkTup (aCons (eVar 1) (aCons (eC (.str [])) (aCons (eVar 12) aNil)))) (aCons (eVar 6) aNil))))))))))))))))))))
def F__law_function (n : Nat) : List PV → M PV := runB (b__law_function n) 15
theorem z__law_function {n : Nat} {p0 p1 : PV} {st : Sto} {Q : PV → Sto → Prop} {E : Exn → Sto → Prop} : Z (F__law_function n [p0, p1] st) Q E = Z (b__law_function n [some p0, some p1, none, none, none, none, none, none, none, none, none, none, none, none, none] st) (runQ Q E) E0 := Z_run rfl
def L0_law (n : Nat) : Rho → M Fl :=
  (sSeq (sAsg (eCall (F__law_function n) (aCons (eVar 1) (aCons (eBin ixM (eCall mkLst (aCons (eC (.str [97])) (aCons (eC (.str [98])) (aCons (eC (.str [99])) aNil)))) (eVar 4)) aNil))) (gT 2 (gsCons (gN 5) (gsCons (gN 6) gsNil))))
  (sSeq (sDrop (eMeth "list" appendM (eVar 2) (aCons (eVar 5) aNil)))
  (sSeq (sSet 3 (eAndV (eVar 3) (eNotV (eVar 6))))
  (sSeq (sSet 7 (eCall (F_is_once n) (aCons (eCall tupleM (aCons (eVar 2) aNil)) aNil)))
  (sIf (tOrM (tNotM (eB (eCall isiM (aCons (eVar 7) (aCons (eC (.ty "bool")) aNil))))) (eB (eBin neM (eVar 7) (eVar 3)))) (sRet (eC (.bl false))) sNext)))))
theorem zL0_law {n : Nat} {ρ : Rho} {st : Sto} {Q : Fl → Sto → Prop} {E : Exn → Sto → Prop} : Z (L0_law n ρ st) Q E = Z ((sSeq (sAsg (eCall (F__law_function n) (aCons (eVar 1) (aCons (eBin ixM (eCall mkLst (aCons (eC (.str [97])) (aCons (eC (.str [98])) (aCons (eC (.str [99])) aNil)))) (eVar 4)) aNil))) (gT 2 (gsCons (gN 5) (gsCons (gN 6) gsNil))))
  (sSeq (sDrop (eMeth "list" appendM (eVar 2) (aCons (eVar 5) aNil)))
  (sSeq (sSet 3 (eAndV (eVar 3) (eNotV (eVar 6))))
  (sSeq (sSet 7 (eCall (F_is_once n) (aCons (eCall tupleM (aCons (eVar 2) aNil)) aNil)))
  (sIf (tOrM (tNotM (eB (eCall isiM (aCons (eVar 7) (aCons (eC (.ty "bool")) aNil))))) (eB (eBin neM (eVar 7) (eVar 3)))) (sRet (eC (.bl false))) sNext))))) ρ st) Q E := by unfold L0_law; rfl
def b_law (n : Nat) : Rho → M Fl :=
  (sSeq (sSet 1 (eCall (F__law_feed n) (aCons (eVar 0) aNil)))
  (sSeq (sSet 2 (eCall mkLstN aNil))
  (sSeq (sSet 3 (eC (.bl true)))
  (sSeq (sFor (iCall range1 (aCons (eBin addV (eC (.int 1)) (eCall (F__law_draw n) (aCons (eVar 1) (aCons (eC (.int 3)) aNil)))) aNil)) (gN 4) (L0_law n))
  (sRet (eC (.bl true)))))))
def F_law (n : Nat) : List PV → M PV := runB (b_law n) 8
theorem z_law {n : Nat} {p0 : PV} {st : Sto} {Q : PV → Sto → Prop} {E : Exn → Sto → Prop} : Z (F_law n [p0] st) Q E = Z (b_law n [some p0, none, none, none, none, none, none, none] st) (runQ Q E) E0 := Z_run rfl
end K29

set_option maxRecDepth 100000
namespace K29
open PySem L2 MP
def topS (i : Nat) : Stmt := PySem.Challenge.pw_samepaper_k29_is_once.main.body.getD i (.Pass ⟨0, 0, 0, 0⟩)
abbrev s_row_gives : Stmt := topS 1
abbrev s_is_once : Stmt := topS 2
abbrev s__law_feed : Stmt := topS 4
abbrev s__law_draw : Stmt := topS 5
abbrev s__law_function : Stmt := topS 6
abbrev s_law : Stmt := topS 7
structure Adr where
  a_row_gives : Addr
  d_row_gives : FuncData
  a_is_once : Addr
  d_is_once : FuncData
  a__law_feed : Addr
  d__law_feed : FuncData
  a__law_draw : Addr
  d__law_draw : FuncData
  a__law_function : Addr
  d__law_function : FuncData
  a_law : Addr
  d_law : FuncData
structure Txt (w : World) (K : PySem.W.Frag) (mg : Str → Option Value) (A : Adr) : Prop where
  f_row_gives : Fun K "row_gives" "row_gives" s_row_gives A.a_row_gives A.d_row_gives
  m_row_gives : mg "row_gives" = some (.ref A.a_row_gives)
  b_row_gives : Binds K A.d_row_gives ["row"] []
  f_is_once : Fun K "is_once" "is_once" s_is_once A.a_is_once A.d_is_once
  m_is_once : mg "is_once" = some (.ref A.a_is_once)
  b_is_once : Binds K A.d_is_once ["middle"] []
  f__law_feed : Fun K "_law_feed" "_law_feed" s__law_feed A.a__law_feed A.d__law_feed
  m__law_feed : mg "_law_feed" = some (.ref A.a__law_feed)
  b__law_feed : Binds K A.d__law_feed ["_law_script"] []
  f__law_draw : Fun K "_law_draw" "_law_draw" s__law_draw A.a__law_draw A.d__law_draw
  m__law_draw : mg "_law_draw" = some (.ref A.a__law_draw)
  b__law_draw : Binds K A.d__law_draw ["_law_feed_here", "_law_many"] []
  f__law_function : Fun K "_law_function" "_law_function" s__law_function A.a__law_function A.d__law_function
  m__law_function : mg "_law_function" = some (.ref A.a__law_function)
  b__law_function : Binds K A.d__law_function ["_law_feed_here", "_law_word"] []
  f_law : Fun K "law" "law" s_law A.a_law A.d_law
  m_law : mg "law" = some (.ref A.a_law)
  b_law : Binds K A.d_law ["_law_script"] []
  z_list : mg "list" = none
  z_len : mg "len" = none
  z_set : mg "set" = none
  z_tuple : mg "tuple" = none
  z_enumerate : mg "enumerate" = none
  z_int : mg "int" = none
  z_range : mg "range" = none
  z_isinstance : mg "isinstance" = none
  z_bool : mg "bool" = none
section
variable {P : Program} {w : World} {K : PySem.W.Frag} {mg : Str → Option Value} {base : Heap} {A : Adr}
theorem sc_row_gives : FnScope ["row"] ["row"] (defScope s_row_gives) := ⟨by kernel_rfl, by kernel_rfl, by kernel_rfl, by decide +kernel, by kernel_rfl, by decide +kernel, by decide +kernel⟩
set_option maxHeartbeats 4000000 in
theorem ok_row_gives (T : Txt w K mg A) (n : Nat) : FnOk P w K mg base (L2.CX P w) 1 A.a_row_gives A.d_row_gives ["row"] (spM K (F_row_gives n) 1) :=
  def_okF ["row"] ["row"] (b_row_gives n) (k := 0) (kk := 1) (nn := 1) (g := F_row_gives n) (by kernel_rfl) (by kernel_rfl) (by kernel_rfl) T.f_row_gives sc_row_gives fun cdv Ar outer s H E hr => by
  have hu := hu_of hr
  have tk : Takes (cxOf (L2.CX P w) P w K mg base ["row"] "row_gives" (defScope s_row_gives) A.a_row_gives cdv Ar outer s H E) (fun c d _ H => E c d H) := takes_of rfl rfl rfl rfl
  exact (mss_cons (ms_if (mt_in hu (me_sub_ix hu (me_var 0 (hv := Or.inl (by kernel_rfl))) me_int (fun _ _ => by kernel_rfl)) (me_tup (ma_cons (me_str [110, 101, 101, 100] (by decide +kernel)) (ma_cons (me_str [116, 105, 99, 107] (by decide +kernel)) ma_nil))) (by kernel_rfl)) (mss_one (ms_ret me_non)) mss_nil)
  (mss_one (ms_ret (me_sub_ix hu (me_var 0 (hv := Or.inl (by kernel_rfl))) me_int (fun _ _ => by kernel_rfl)))))
theorem sc_is_once : FnScope ["middle", "word", "results", "blocks", "given", "params", "rows", "end", "row"] ["middle"] (defScope s_is_once) := ⟨by kernel_rfl, by kernel_rfl, by kernel_rfl, by decide +kernel, by kernel_rfl, by decide +kernel, by decide +kernel⟩
set_option maxHeartbeats 4000000 in
theorem ok_is_once (T : Txt w K mg A) (n : Nat) : FnOk P w K mg base (L2.CX P w) 2 A.a_is_once A.d_is_once ["middle"] (spM K (F_is_once n) 1) :=
  def_okF ["middle", "word", "results", "blocks", "given", "params", "rows", "end", "row"] ["middle"] (b_is_once n) (k := 1) (kk := 9) (nn := 1) (g := F_is_once n) (by kernel_rfl) (by kernel_rfl) (by kernel_rfl) T.f_is_once sc_is_once fun cdv Ar outer s H E hr => by
  have hu := hu_of hr
  have tk : Takes (cxOf (L2.CX P w) P w K mg base ["middle", "word", "results", "blocks", "given", "params", "rows", "end", "row"] "is_once" (defScope s_is_once) A.a_is_once cdv Ar outer s H E) (fun c d _ H => E c d H) := takes_of rfl rfl rfl rfl
  exact (mss_cons (ms_for (passes_of rfl) rfl (mi_seq (me_var 0 (hv := Or.inl (by kernel_rfl)))) (mg_tup rfl (mgs_cons (mg_n (i := 1) (hx := Or.inl (by kernel_rfl)) (hf := Or.inr (by kernel_rfl)) sc_is_once.nd) (mgs_cons (mg_n (i := 2) (hx := Or.inl (by kernel_rfl)) (hf := Or.inr (by kernel_rfl)) sc_is_once.nd) (mgs_cons (mg_n (i := 3) (hx := Or.inl (by kernel_rfl)) (hf := Or.inr (by kernel_rfl)) sc_is_once.nd) mgs_nil)))) (mss_cons (ms_s (i := 4) (hx := Or.inl (by kernel_rfl)) (hf := Or.inr (by kernel_rfl)) sc_is_once.nd (me_lst ma_nil))
  (mss_cons (ms_for (passes_of rfl) rfl (mi_seq (me_var 3 (hv := Or.inl (by kernel_rfl)))) (mg_tup rfl (mgs_cons (mg_n (i := 5) (hx := Or.inl (by kernel_rfl)) (hf := Or.inr (by kernel_rfl)) sc_is_once.nd) (mgs_cons (mg_n (i := 6) (hx := Or.inl (by kernel_rfl)) (hf := Or.inr (by kernel_rfl)) sc_is_once.nd) (mgs_cons (mg_n (i := 7) (hx := Or.inl (by kernel_rfl)) (hf := Or.inr (by kernel_rfl)) sc_is_once.nd) mgs_nil)))) (mss_one (ms_s (i := 4) (hx := Or.inl (by kernel_rfl)) (hf := Or.inr (by kernel_rfl)) sc_is_once.nd (me_add (me_add (me_var 4 (hv := Or.inl (by kernel_rfl))) (me_listOf (gl_of (by kernel_rfl)) T.z_list (ma_cons (me_var 5 (hv := Or.inl (by kernel_rfl))) ma_nil))) (me_lc (own := [("row", 8)]) rfl sc_is_once.nd (mi_seq (me_var 6 (hv := Or.inl (by kernel_rfl)))) (blkOk_by (by kernel_rfl)) (tgo_name (by decide)) lcV_end (fun _ _ _ _ _ => (pg_n (i := 8) (hx := Or.inl (by kernel_rfl)) (hf := Or.inr (by kernel_rfl)) sc_is_once.nd)) (fun _ _ _ _ _ => (mts_one (mt_isnot (me_call (ok_row_gives T n) (hr.mono (by decide)) (gl_of (by kernel_rfl)) T.m_row_gives T.f_row_gives.kp T.b_row_gives takes0 (ma_cons (me_var 8 (hv := Or.inl (by kernel_rfl))) ma_nil) (aLen_cons aLen_nil)) me_non))) (fun _ _ _ _ _ => (me_call (ok_row_gives T n) (hr.mono (by decide)) (gl_of (by kernel_rfl)) T.m_row_gives T.f_row_gives.kp T.b_row_gives takes0 (ma_cons (me_var 8 (hv := Or.inl (by kernel_rfl))) ma_nil) (aLen_cons aLen_nil))))))))
  (mss_one (ms_if (mt_ne hr.units (me_lenSet rfl (gl_of (by kernel_rfl)) T.z_len (gl_of (by kernel_rfl)) T.z_set (me_var 4 (hv := Or.inl (by kernel_rfl)))) (me_len (gl_of (by kernel_rfl)) T.z_len (ma_cons (me_var 4 (hv := Or.inl (by kernel_rfl))) ma_nil))) (mss_one (ms_ret me_bl)) mss_nil)))))
  (mss_one (ms_ret me_bl)))
theorem sc__law_feed : FnScope ["_law_script", "_law_cells", "_law_pair"] ["_law_script"] (defScope s__law_feed) := ⟨by kernel_rfl, by kernel_rfl, by kernel_rfl, by decide +kernel, by kernel_rfl, by decide +kernel, by decide +kernel⟩
set_option maxHeartbeats 4000000 in
theorem ok__law_feed (T : Txt w K mg A) (n : Nat) : FnOk P w K mg base (L2.CX P w) 1 A.a__law_feed A.d__law_feed ["_law_script"] (spM K (F__law_feed n) 1) :=
  def_okF ["_law_script", "_law_cells", "_law_pair"] ["_law_script"] (b__law_feed n) (k := 0) (kk := 3) (nn := 1) (g := F__law_feed n) (by kernel_rfl) (by kernel_rfl) (by kernel_rfl) T.f__law_feed sc__law_feed fun cdv Ar outer s H E hr => by
  have hu := hu_of hr
  have tk : Takes (cxOf (L2.CX P w) P w K mg base ["_law_script", "_law_cells", "_law_pair"] "_law_feed" (defScope s__law_feed) A.a__law_feed cdv Ar outer s H E) (fun c d _ H => E c d H) := takes_of rfl rfl rfl rfl
  exact (mss_cons (ms_s (i := 1) (hx := Or.inl (by kernel_rfl)) (hf := Or.inr (by kernel_rfl)) sc__law_feed.nd (me_listOf (gl_of (by kernel_rfl)) T.z_list (ma_cons (me_slice (me_var 0 (hv := Or.inl (by kernel_rfl))) mo_none (mo_some me_int)) ma_nil)))
  (mss_cons (ms_s (i := 2) (hx := Or.inl (by kernel_rfl)) (hf := Or.inr (by kernel_rfl)) sc__law_feed.nd (me_add (me_slice (me_var 1 (hv := Or.inl (by kernel_rfl))) mo_none (mo_some me_int)) (me_lst (ma_cons me_int (ma_cons me_int ma_nil)))))
  (mss_one (ms_ret (me_dict (mps_cons (me_str [99, 101, 108, 108, 115] (by decide +kernel)) (me_var 1 (hv := Or.inl (by kernel_rfl))) (mps_cons (me_str [97, 116] (by decide +kernel)) me_int (mps_cons (me_str [108, 101, 102, 116] (by decide +kernel)) (me_sub_ix hu (me_var 2 (hv := Or.inl (by kernel_rfl))) me_int (fun _ _ => by kernel_rfl)) (mps_cons (me_str [100, 105, 103, 105, 116, 115] (by decide +kernel)) (me_eq hr.units (me_mod (me_sub_ix hu (me_var 2 (hv := Or.inl (by kernel_rfl))) me_int (fun _ _ => by kernel_rfl)) me_int) me_int) mps_nil)))))))))
theorem sc__law_draw : FnScope ["_law_feed_here", "_law_many", "_law_found", "_law_at", "_law_cell", "_law_number"] ["_law_feed_here", "_law_many"] (defScope s__law_draw) := ⟨by kernel_rfl, by kernel_rfl, by kernel_rfl, by decide +kernel, by kernel_rfl, by decide +kernel, by decide +kernel⟩
set_option maxHeartbeats 4000000 in
theorem ok__law_draw (T : Txt w K mg A) (n : Nat) : FnOk P w K mg base (L2.CX P w) 1 A.a__law_draw A.d__law_draw ["_law_feed_here", "_law_many"] (spM K (F__law_draw n) 2) :=
  def_okF ["_law_feed_here", "_law_many", "_law_found", "_law_at", "_law_cell", "_law_number"] ["_law_feed_here", "_law_many"] (b__law_draw n) (k := 0) (kk := 6) (nn := 2) (g := F__law_draw n) (by kernel_rfl) (by kernel_rfl) (by kernel_rfl) T.f__law_draw sc__law_draw fun cdv Ar outer s H E hr => by
  have hu := hu_of hr
  have tk : Takes (cxOf (L2.CX P w) P w K mg base ["_law_feed_here", "_law_many", "_law_found", "_law_at", "_law_cell", "_law_number"] "_law_draw" (defScope s__law_draw) A.a__law_draw cdv Ar outer s H E) (fun c d _ H => E c d H) := takes_of rfl rfl rfl rfl
  exact (mss_cons (ms_if (mt_val (me_sub_ix hu (me_var 0 (hv := Or.inl (by kernel_rfl))) (me_str [100, 105, 103, 105, 116, 115] (by decide +kernel)) (fun _ _ => by kernel_rfl))) (mss_cons (ms_s (i := 2) (hx := Or.inl (by kernel_rfl)) (hf := Or.inr (by kernel_rfl)) sc__law_draw.nd (me_mod (me_sub_ix hu (me_var 0 (hv := Or.inl (by kernel_rfl))) (me_str [108, 101, 102, 116] (by decide +kernel)) (fun _ _ => by kernel_rfl)) (me_var 1 (hv := Or.inl (by kernel_rfl)))))
  (mss_cons (ms_asg (me_fdiv (me_sub_ix hu (me_var 0 (hv := Or.inl (by kernel_rfl))) (me_str [108, 101, 102, 116] (by decide +kernel)) (fun _ _ => by kernel_rfl)) (me_var 1 (hv := Or.inl (by kernel_rfl)))) (mg_sub hu (me_var 0 (hv := Or.inl (by kernel_rfl))) (me_str [108, 101, 102, 116] (by decide +kernel))))
  (mss_cons (ms_asg (me_notin hu (me_sub_ix hu (me_var 0 (hv := Or.inl (by kernel_rfl))) (me_str [108, 101, 102, 116] (by decide +kernel)) (fun _ _ => by kernel_rfl)) (me_tup (ma_cons me_int (ma_cons (me_neg me_int) ma_nil))) (by kernel_rfl)) (mg_sub hu (me_var 0 (hv := Or.inl (by kernel_rfl))) (me_str [100, 105, 103, 105, 116, 115] (by decide +kernel))))
  (mss_one (ms_ret (me_var 2 (hv := Or.inl (by kernel_rfl)))))))) mss_nil)
  (mss_cons (ms_s (i := 3) (hx := Or.inl (by kernel_rfl)) (hf := Or.inr (by kernel_rfl)) sc__law_draw.nd (me_sub_ix hu (me_var 0 (hv := Or.inl (by kernel_rfl))) (me_str [97, 116] (by decide +kernel)) (fun _ _ => by kernel_rfl)))
  (mss_cons (ms_asg (me_add (me_var 3 (hv := Or.inl (by kernel_rfl))) me_int) (mg_sub hu (me_var 0 (hv := Or.inl (by kernel_rfl))) (me_str [97, 116] (by decide +kernel))))
  (mss_cons (ms_s (i := 4) (hx := Or.inl (by kernel_rfl)) (hf := Or.inr (by kernel_rfl)) sc__law_draw.nd (me_var 3 (hv := Or.inl (by kernel_rfl))))
  (mss_cons (ms_if (mt_ne hr.units (me_sub_ix hu (me_var 0 (hv := Or.inl (by kernel_rfl))) (me_str [99, 101, 108, 108, 115] (by decide +kernel)) (fun _ _ => by kernel_rfl)) (me_lst ma_nil)) (mss_one (ms_s (i := 4) (hx := Or.inl (by kernel_rfl)) (hf := Or.inr (by kernel_rfl)) sc__law_draw.nd (me_sub_ix hu (me_sub_ix hu (me_var 0 (hv := Or.inl (by kernel_rfl))) (me_str [99, 101, 108, 108, 115] (by decide +kernel)) (fun _ _ => by kernel_rfl)) (me_mod (me_var 3 (hv := Or.inl (by kernel_rfl))) (me_len (gl_of (by kernel_rfl)) T.z_len (ma_cons (me_sub_ix hu (me_var 0 (hv := Or.inl (by kernel_rfl))) (me_str [99, 101, 108, 108, 115] (by decide +kernel)) (fun _ _ => by kernel_rfl)) ma_nil))) (fun _ _ => by kernel_rfl)))) mss_nil)
  (mss_cons (ms_s (i := 5) (hx := Or.inl (by kernel_rfl)) (hf := Or.inr (by kernel_rfl)) sc__law_draw.nd (me_mod (me_mul (me_add (me_add (me_add (me_mod (me_var 4 (hv := Or.inl (by kernel_rfl))) me_int) (me_mul (me_mul me_int (me_var 3 (hv := Or.inl (by kernel_rfl)))) (me_var 3 (hv := Or.inl (by kernel_rfl))))) (me_mul me_int (me_var 3 (hv := Or.inl (by kernel_rfl))))) me_int) me_int) me_int))
  (mss_one (ms_ret (me_mod (me_mod (me_mul (me_var 5 (hv := Or.inl (by kernel_rfl))) me_int) me_int) (me_var 1 (hv := Or.inl (by kernel_rfl))))))))))))
theorem sc__law_function : FnScope ["_law_feed_here", "_law_word", "_law_first", "_law_second", "_law_rows", "_law_more", "_law_twice", "_law_way", "_law_rows_told", "_law_behind", "_law_end", "_law_row", "_law_blocks", "_law_k", "_law_name"] ["_law_feed_here", "_law_word"] (defScope s__law_function) := ⟨by kernel_rfl, by kernel_rfl, by kernel_rfl, by decide +kernel, by kernel_rfl, by decide +kernel, by decide +kernel⟩
set_option maxHeartbeats 4000000 in
theorem ok__law_function (T : Txt w K mg A) (n : Nat) : FnOk P w K mg base (L2.CX P w) 2 A.a__law_function A.d__law_function ["_law_feed_here", "_law_word"] (spM K (F__law_function n) 2) :=
  def_okF ["_law_feed_here", "_law_word", "_law_first", "_law_second", "_law_rows", "_law_more", "_law_twice", "_law_way", "_law_rows_told", "_law_behind", "_law_end", "_law_row", "_law_blocks", "_law_k", "_law_name"] ["_law_feed_here", "_law_word"] (b__law_function n) (k := 1) (kk := 15) (nn := 2) (g := F__law_function n) (by kernel_rfl) (by kernel_rfl) (by kernel_rfl) T.f__law_function sc__law_function fun cdv Ar outer s H E hr => by
  have hu := hu_of hr
  have tk : Takes (cxOf (L2.CX P w) P w K mg base ["_law_feed_here", "_law_word", "_law_first", "_law_second", "_law_rows", "_law_more", "_law_twice", "_law_way", "_law_rows_told", "_law_behind", "_law_end", "_law_row", "_law_blocks", "_law_k", "_law_name"] "_law_function" (defScope s__law_function) A.a__law_function cdv Ar outer s H E) (fun c d _ H => E c d H) := takes_of rfl rfl rfl rfl
  exact (mss_cons (ms_s (i := 2) (hx := Or.inl (by kernel_rfl)) (hf := Or.inr (by kernel_rfl)) sc__law_function.nd (me_slice (me_lst (ma_cons (me_str [110, 48] (by decide +kernel)) (ma_cons (me_str [114, 48] (by decide +kernel)) ma_nil))) mo_none (mo_some (me_call (ok__law_draw T n) (hr.mono (by decide)) (gl_of (by kernel_rfl)) T.m__law_draw T.f__law_draw.kp T.b__law_draw tk (ma_cons (me_var 0 (hv := Or.inl (by kernel_rfl))) (ma_cons me_int ma_nil)) (aLen_cons (aLen_cons aLen_nil))))))
  (mss_cons (ms_s (i := 3) (hx := Or.inl (by kernel_rfl)) (hf := Or.inr (by kernel_rfl)) sc__law_function.nd (me_sliceN (me_lst (ma_cons (me_str [110, 49] (by decide +kernel)) (ma_cons (me_str [114, 49] (by decide +kernel)) ma_nil))) mo_none (mo_some (me_call (ok__law_draw T n) (hr.mono (by decide)) (gl_of (by kernel_rfl)) T.m__law_draw T.f__law_draw.kp T.b__law_draw tk (ma_cons (me_var 0 (hv := Or.inl (by kernel_rfl))) (ma_cons me_int ma_nil)) (aLen_cons (aLen_cons aLen_nil))))))
  (mss_cons (ms_s (i := 4) (hx := Or.inl (by kernel_rfl)) (hf := Or.inr (by kernel_rfl)) sc__law_function.nd (me_sliceN (me_lst (ma_cons (me_str [110, 50] (by decide +kernel)) (ma_cons (me_str [110, 50, 48] (by decide +kernel)) (ma_cons (me_str [110, 50, 48, 48] (by decide +kernel)) ma_nil)))) mo_none (mo_some (me_call (ok__law_draw T n) (hr.mono (by decide)) (gl_of (by kernel_rfl)) T.m__law_draw T.f__law_draw.kp T.b__law_draw tk (ma_cons (me_var 0 (hv := Or.inl (by kernel_rfl))) (ma_cons me_int ma_nil)) (aLen_cons (aLen_cons aLen_nil))))))
  (mss_cons (ms_s (i := 5) (hx := Or.inl (by kernel_rfl)) (hf := Or.inr (by kernel_rfl)) sc__law_function.nd (me_sliceN (me_lst (ma_cons (me_str [110, 51] (by decide +kernel)) (ma_cons (me_str [110, 51, 48] (by decide +kernel)) ma_nil))) mo_none (mo_some (me_call (ok__law_draw T n) (hr.mono (by decide)) (gl_of (by kernel_rfl)) T.m__law_draw T.f__law_draw.kp T.b__law_draw tk (ma_cons (me_var 0 (hv := Or.inl (by kernel_rfl))) (ma_cons me_int ma_nil)) (aLen_cons (aLen_cons aLen_nil))))))
  (mss_cons (ms_s (i := 6) (hx := Or.inl (by kernel_rfl)) (hf := Or.inr (by kernel_rfl)) sc__law_function.nd me_bl)
  (mss_cons (ms_s (i := 7) (hx := Or.inl (by kernel_rfl)) (hf := Or.inr (by kernel_rfl)) sc__law_function.nd (me_call (ok__law_draw T n) (hr.mono (by decide)) (gl_of (by kernel_rfl)) T.m__law_draw T.f__law_draw.kp T.b__law_draw tk (ma_cons (me_var 0 (hv := Or.inl (by kernel_rfl))) (ma_cons me_int ma_nil)) (aLen_cons (aLen_cons aLen_nil))))
  (mss_cons (ms_if (mt_of (mw_and (mt_eq hr.units (me_var 7 (hv := Or.inl (by kernel_rfl))) me_int) (mw_and1 (mt_ne hr.units (me_var 4 (hv := Or.inl (by kernel_rfl))) (me_lst ma_nil))))) (mss_cons (ms_expr (me_insert (me_var 4 (hv := Or.inl (by kernel_rfl))) (ma_cons (me_call (ok__law_draw T n) (hr.mono (by decide)) (gl_of (by kernel_rfl)) T.m__law_draw T.f__law_draw.kp T.b__law_draw tk (ma_cons (me_var 0 (hv := Or.inl (by kernel_rfl))) (ma_cons (me_add (me_len (gl_of (by kernel_rfl)) T.z_len (ma_cons (me_var 4 (hv := Or.inl (by kernel_rfl))) ma_nil)) me_int) ma_nil)) (aLen_cons (aLen_cons aLen_nil))) (ma_cons (me_sub_ix hu (me_var 4 (hv := Or.inl (by kernel_rfl))) me_int (fun _ _ => by kernel_rfl)) ma_nil))))
  (mss_one (ms_s (i := 6) (hx := Or.inl (by kernel_rfl)) (hf := Or.inr (by kernel_rfl)) sc__law_function.nd me_bl))) mss_nil)
  (mss_cons (ms_if (mt_of (mw_and (mt_eq hr.units (me_var 7 (hv := Or.inl (by kernel_rfl))) me_int) (mw_and1 (mt_ne hr.units (me_var 4 (hv := Or.inl (by kernel_rfl))) (me_lst ma_nil))))) (mss_cons (ms_expr (me_insert (me_var 5 (hv := Or.inl (by kernel_rfl))) (ma_cons (me_call (ok__law_draw T n) (hr.mono (by decide)) (gl_of (by kernel_rfl)) T.m__law_draw T.f__law_draw.kp T.b__law_draw tk (ma_cons (me_var 0 (hv := Or.inl (by kernel_rfl))) (ma_cons (me_add (me_len (gl_of (by kernel_rfl)) T.z_len (ma_cons (me_var 5 (hv := Or.inl (by kernel_rfl))) ma_nil)) me_int) ma_nil)) (aLen_cons (aLen_cons aLen_nil))) (ma_cons (me_sub_ix hu (me_var 4 (hv := Or.inl (by kernel_rfl))) (me_neg me_int) (fun _ _ => by kernel_rfl)) ma_nil))))
  (mss_one (ms_s (i := 6) (hx := Or.inl (by kernel_rfl)) (hf := Or.inr (by kernel_rfl)) sc__law_function.nd me_bl))) mss_nil)
  (mss_cons (ms_if (mt_of (mw_and (mt_eq hr.units (me_var 7 (hv := Or.inl (by kernel_rfl))) me_int) (mw_and1 (mt_gt (me_len (gl_of (by kernel_rfl)) T.z_len (ma_cons (me_var 2 (hv := Or.inl (by kernel_rfl))) ma_nil)) me_int)))) (mss_cons (ms_expr (me_append (me_var 5 (hv := Or.inl (by kernel_rfl))) (ma_cons (me_str [110, 48] (by decide +kernel)) ma_nil)))
  (mss_one (ms_s (i := 6) (hx := Or.inl (by kernel_rfl)) (hf := Or.inr (by kernel_rfl)) sc__law_function.nd me_bl))) mss_nil)
  (mss_cons (ms_if (mt_of (mw_and (mt_eq hr.units (me_var 7 (hv := Or.inl (by kernel_rfl))) me_int) (mw_and1 (mt_gt (me_len (gl_of (by kernel_rfl)) T.z_len (ma_cons (me_var 2 (hv := Or.inl (by kernel_rfl))) ma_nil)) me_int)))) (mss_cons (ms_expr (me_insert (me_var 3 (hv := Or.inl (by kernel_rfl))) (ma_cons me_int (ma_cons (me_str [110, 48] (by decide +kernel)) ma_nil))))
  (mss_one (ms_s (i := 6) (hx := Or.inl (by kernel_rfl)) (hf := Or.inr (by kernel_rfl)) sc__law_function.nd me_bl))) mss_nil)
  (mss_cons (ms_if (mt_of (mw_and (mt_eq hr.units (me_var 7 (hv := Or.inl (by kernel_rfl))) me_int) (mw_and1 (mt_gt (me_len (gl_of (by kernel_rfl)) T.z_len (ma_cons (me_var 3 (hv := Or.inl (by kernel_rfl))) ma_nil)) me_int)))) (mss_cons (ms_expr (me_append (me_var 4 (hv := Or.inl (by kernel_rfl))) (ma_cons (me_str [110, 49] (by decide +kernel)) ma_nil)))
  (mss_one (ms_s (i := 6) (hx := Or.inl (by kernel_rfl)) (hf := Or.inr (by kernel_rfl)) sc__law_function.nd me_bl))) mss_nil)
  (mss_cons (ms_s (i := 8) (hx := Or.inl (by kernel_rfl)) (hf := Or.inr (by kernel_rfl)) sc__law_function.nd (me_tupleOf (gl_of (by kernel_rfl)) T.z_tuple (ma_cons (me_lcC (own := [("_law_k", 13), ("_law_name", 14)]) rfl sc__law_function.nd (mic_enum (gl_of (by kernel_rfl)) T.z_enumerate (me_var 4 (hv := Or.inl (by kernel_rfl)))) (blkOk_by (by kernel_rfl)) (tgo_tup (tgos_cons (tgo_name (by decide)) (tgos_cons (tgo_name (by decide)) tgos_nil))) lcV_end (fun _ _ _ _ _ => (pg_tup rfl (pgs_cons (pg_n (i := 13) (hx := Or.inl (by kernel_rfl)) (hf := Or.inr (by kernel_rfl)) sc__law_function.nd) (pgs_cons (pg_n (i := 14) (hx := Or.inl (by kernel_rfl)) (hf := Or.inr (by kernel_rfl)) sc__law_function.nd) pgs_nil)))) (fun _ _ _ _ _ => mts_nil) (fun _ _ _ _ _ => (me_tup (ma_cons (me_var 14 (hv := Or.inl (by kernel_rfl))) (ma_cons (me_str [99, 111, 112, 121] (by decide +kernel)) (ma_cons (me_tup (ma_cons (me_var 13 (hv := Or.inl (by kernel_rfl))) ma_nil)) ma_nil)))))) ma_nil)))
  (mss_cons (ms_s (i := 9) (hx := Or.inl (by kernel_rfl)) (hf := Or.inr (by kernel_rfl)) sc__law_function.nd (me_tupleOf (gl_of (by kernel_rfl)) T.z_tuple (ma_cons (me_lcC (own := [("_law_k", 13), ("_law_name", 14)]) rfl sc__law_function.nd (mic_enum (gl_of (by kernel_rfl)) T.z_enumerate (me_var 5 (hv := Or.inl (by kernel_rfl)))) (blkOk_by (by kernel_rfl)) (tgo_tup (tgos_cons (tgo_name (by decide)) (tgos_cons (tgo_name (by decide)) tgos_nil))) lcV_end (fun _ _ _ _ _ => (pg_tup rfl (pgs_cons (pg_n (i := 13) (hx := Or.inl (by kernel_rfl)) (hf := Or.inr (by kernel_rfl)) sc__law_function.nd) (pgs_cons (pg_n (i := 14) (hx := Or.inl (by kernel_rfl)) (hf := Or.inr (by kernel_rfl)) sc__law_function.nd) pgs_nil)))) (fun _ _ _ _ _ => mts_nil) (fun _ _ _ _ _ => (me_tup (ma_cons (me_var 14 (hv := Or.inl (by kernel_rfl))) (ma_cons (me_str [97, 100, 100] (by decide +kernel)) (ma_cons (me_tup (ma_cons (me_var 13 (hv := Or.inl (by kernel_rfl))) (ma_cons me_int ma_nil))) ma_nil)))))) ma_nil)))
  (mss_cons (ms_s (i := 10) (hx := Or.inl (by kernel_rfl)) (hf := Or.inr (by kernel_rfl)) sc__law_function.nd (me_tup (ma_cons (me_str [103, 105, 118, 101] (by decide +kernel)) (ma_cons (me_tup ma_nil) ma_nil))))
  (mss_cons (ms_if (mt_eq hr.units (me_call (ok__law_draw T n) (hr.mono (by decide)) (gl_of (by kernel_rfl)) T.m__law_draw T.f__law_draw.kp T.b__law_draw tk (ma_cons (me_var 0 (hv := Or.inl (by kernel_rfl))) (ma_cons me_int ma_nil)) (aLen_cons (aLen_cons aLen_nil))) me_int) (mss_cons (ms_s (i := 11) (hx := Or.inl (by kernel_rfl)) (hf := Or.inr (by kernel_rfl)) sc__law_function.nd (me_tup (ma_cons (me_str [114, 57] (by decide +kernel)) (ma_cons (me_str [109, 97, 107, 101] (by decide +kernel)) (ma_cons (me_tup ma_nil) ma_nil)))))
  (mss_cons (ms_s (i := 8) (hx := Or.inl (by kernel_rfl)) (hf := Or.inr (by kernel_rfl)) sc__law_function.nd (me_add (me_var 8 (hv := Or.inl (by kernel_rfl))) (me_tup (ma_cons (me_var 11 (hv := Or.inl (by kernel_rfl))) ma_nil))))
  (mss_one (ms_s (i := 10) (hx := Or.inl (by kernel_rfl)) (hf := Or.inr (by kernel_rfl)) sc__law_function.nd (me_tup (ma_cons (me_str [103, 111] (by decide +kernel)) (ma_cons me_int (ma_cons (me_tupleOf (gl_of (by kernel_rfl)) T.z_tuple (ma_cons (me_lcC (own := [("_law_name", 14)]) rfl sc__law_function.nd (mic_cell (me_var 3 (hv := Or.inl (by kernel_rfl)))) (blkOk_by (by kernel_rfl)) (tgo_name (by decide)) lcV_end (fun _ _ _ _ _ => (pg_n (i := 14) (hx := Or.inl (by kernel_rfl)) (hf := Or.inr (by kernel_rfl)) sc__law_function.nd)) (fun _ _ _ _ _ => mts_nil) (fun _ _ _ _ _ => (me_sub_ix hu (me_lst (ma_cons (me_str [114, 57] (by decide +kernel)) (ma_cons me_int ma_nil))) (me_intOf (gl_of (by kernel_rfl)) T.z_int (ma_cons (me_eq hr.units (me_sub_ix hu (me_var 14 (hv := Or.inl (by kernel_rfl))) me_int (fun _ _ => by kernel_rfl)) (me_str [110] (by decide +kernel))) ma_nil)) (fun _ _ => by kernel_rfl)))) ma_nil)) ma_nil)))))))) mss_nil)
  (mss_cons (ms_s (i := 12) (hx := Or.inl (by kernel_rfl)) (hf := Or.inr (by kernel_rfl)) sc__law_function.nd (me_tup (ma_cons (me_tup (ma_cons (me_tupleOf (gl_of (by kernel_rfl)) T.z_tuple (ma_cons (me_var 2 (hv := Or.inl (by kernel_rfl))) ma_nil)) (ma_cons (me_var 8 (hv := Or.inl (by kernel_rfl))) (ma_cons (me_var 10 (hv := Or.inl (by kernel_rfl))) ma_nil)))) (ma_cons (me_tup (ma_cons (me_tupleOf (gl_of (by kernel_rfl)) T.z_tuple (ma_cons (me_var 3 (hv := Or.inl (by kernel_rfl))) ma_nil)) (ma_cons (me_var 9 (hv := Or.inl (by kernel_rfl))) (ma_cons (me_tup (ma_cons (me_str [103, 105, 118, 101] (by decide +kernel)) (ma_cons (me_tup ma_nil) ma_nil))) ma_nil)))) ma_nil))))
  (mss_one (ms_ret (me_tup (ma_cons (me_tup (ma_cons (me_var 1 (hv := Or.inl (by kernel_rfl))) (ma_cons (me_str [] (by decide +kernel)) (ma_cons (me_var 12 (hv := Or.inl (by kernel_rfl))) ma_nil)))) (ma_cons (me_var 6 (hv := Or.inl (by kernel_rfl))) ma_nil)))))))))))))))))))))
theorem sc_law : FnScope ["_law_script", "_law_feed_here", "_law_functions", "_law_due", "_law_k", "_law_function_here", "_law_twice", "_law_found"] ["_law_script"] (defScope s_law) := ⟨by kernel_rfl, by kernel_rfl, by kernel_rfl, by decide +kernel, by kernel_rfl, by decide +kernel, by decide +kernel⟩
set_option maxHeartbeats 4000000 in
theorem ok_law (T : Txt w K mg A) (n : Nat) : FnOk P w K mg base (L2.CX P w) 3 A.a_law A.d_law ["_law_script"] (spM K (F_law n) 1) :=
  def_okF ["_law_script", "_law_feed_here", "_law_functions", "_law_due", "_law_k", "_law_function_here", "_law_twice", "_law_found"] ["_law_script"] (b_law n) (k := 2) (kk := 8) (nn := 1) (g := F_law n) (by kernel_rfl) (by kernel_rfl) (by kernel_rfl) T.f_law sc_law fun cdv Ar outer s H E hr => by
  have hu := hu_of hr
  have tk : Takes (cxOf (L2.CX P w) P w K mg base ["_law_script", "_law_feed_here", "_law_functions", "_law_due", "_law_k", "_law_function_here", "_law_twice", "_law_found"] "law" (defScope s_law) A.a_law cdv Ar outer s H E) (fun c d _ H => E c d H) := takes_of rfl rfl rfl rfl
  exact (mss_cons (ms_s (i := 1) (hx := Or.inl (by kernel_rfl)) (hf := Or.inr (by kernel_rfl)) sc_law.nd (me_call (ok__law_feed T n) (hr.mono (by decide)) (gl_of (by kernel_rfl)) T.m__law_feed T.f__law_feed.kp T.b__law_feed tk (ma_cons (me_var 0 (hv := Or.inl (by kernel_rfl))) ma_nil) (aLen_cons aLen_nil)))
  (mss_cons (ms_s (i := 2) (hx := Or.inl (by kernel_rfl)) (hf := Or.inr (by kernel_rfl)) sc_law.nd (me_lstN ma_nil))
  (mss_cons (ms_s (i := 3) (hx := Or.inl (by kernel_rfl)) (hf := Or.inr (by kernel_rfl)) sc_law.nd me_bl)
  (mss_cons (ms_for (passes_of rfl) rfl (mi_range1 (gl_of (by kernel_rfl)) T.z_range (ma_cons (me_add me_int (me_call (ok__law_draw T n) (hr.mono (by decide)) (gl_of (by kernel_rfl)) T.m__law_draw T.f__law_draw.kp T.b__law_draw tk (ma_cons (me_var 1 (hv := Or.inl (by kernel_rfl))) (ma_cons me_int ma_nil)) (aLen_cons (aLen_cons aLen_nil)))) ma_nil)) (mg_n (i := 4) (hx := Or.inl (by kernel_rfl)) (hf := Or.inr (by kernel_rfl)) sc_law.nd) (mss_cons (ms_asg (me_call (ok__law_function T n) (hr.mono (by decide)) (gl_of (by kernel_rfl)) T.m__law_function T.f__law_function.kp T.b__law_function tk (ma_cons (me_var 1 (hv := Or.inl (by kernel_rfl))) (ma_cons (me_sub_ix hu (me_lst (ma_cons (me_str [97] (by decide +kernel)) (ma_cons (me_str [98] (by decide +kernel)) (ma_cons (me_str [99] (by decide +kernel)) ma_nil)))) (me_var 4 (hv := Or.inl (by kernel_rfl))) (fun _ _ => by kernel_rfl)) ma_nil)) (aLen_cons (aLen_cons aLen_nil))) (mg_tup rfl (mgs_cons (mg_n (i := 5) (hx := Or.inl (by kernel_rfl)) (hf := Or.inr (by kernel_rfl)) sc_law.nd) (mgs_cons (mg_n (i := 6) (hx := Or.inl (by kernel_rfl)) (hf := Or.inr (by kernel_rfl)) sc_law.nd) mgs_nil))))
  (mss_cons (ms_expr (me_append (me_var 2 (hv := Or.inl (by kernel_rfl))) (ma_cons (me_var 5 (hv := Or.inl (by kernel_rfl))) ma_nil)))
  (mss_cons (ms_s (i := 3) (hx := Or.inl (by kernel_rfl)) (hf := Or.inr (by kernel_rfl)) sc_law.nd (me_and (me_var 3 (hv := Or.inl (by kernel_rfl))) (me_one (me_not (me_var 6 (hv := Or.inl (by kernel_rfl)))))))
  (mss_cons (ms_s (i := 7) (hx := Or.inl (by kernel_rfl)) (hf := Or.inr (by kernel_rfl)) sc_law.nd (me_call (ok_is_once T n) (hr.mono (by decide)) (gl_of (by kernel_rfl)) T.m_is_once T.f_is_once.kp T.b_is_once tk (ma_cons (me_tupleOf (gl_of (by kernel_rfl)) T.z_tuple (ma_cons (me_var 2 (hv := Or.inl (by kernel_rfl))) ma_nil)) ma_nil) (aLen_cons aLen_nil)))
  (mss_one (ms_if (mt_of (mw_or (mt_not (mt_val (me_isinst (gl_of (by kernel_rfl)) T.z_isinstance (ma_cons (me_var 7 (hv := Or.inl (by kernel_rfl))) (ma_cons (me_ty (gl_of (by kernel_rfl)) T.z_bool (by decide +kernel)) ma_nil))))) (mw_or1 (mt_ne hr.units (me_var 7 (hv := Or.inl (by kernel_rfl))) (me_var 3 (hv := Or.inl (by kernel_rfl))))))) (mss_one (ms_ret me_bl)) mss_nil)))))))
  (mss_one (ms_ret me_bl))))))
end
theorem all_mk {l : PySem.W.OpenLaw} {w : World} {K : PySem.W.Frag} {h : Heap} {mg : Str → Option Value} {fa f_row_gives f_is_once f__law_feed f__law_draw f__law_function f_law : Addr} (X : K.In h) (G : h.Ns mainGlobals mg) (hfa : mg "law" = some (.ref fa))
    {od_row_gives an_row_gives od_is_once an_is_once od__law_feed an__law_feed od__law_draw an__law_draw od__law_function an__law_function od_law an_law : Option Addr} {sl_row_gives sl_is_once sl__law_feed sl__law_draw sl__law_function sl_law : Array (Option Value)} {oc_row_gives kV_row_gives dc_row_gives pm_row_gives cd_row_gives ct_row_gives oc_is_once kV_is_once dc_is_once pm_is_once cd_is_once ct_is_once oc__law_feed kV__law_feed dc__law_feed pm__law_feed cd__law_feed ct__law_feed oc__law_draw kV__law_draw dc__law_draw pm__law_draw cd__law_draw ct__law_draw oc__law_function kV__law_function dc__law_function pm__law_function cd__law_function ct__law_function oc_law kV_law dc_law pm_law cd_law ct_law : Value}
    (a_row_gives : PySem.W.nsIn K mainGlobals "row_gives" = some (some (.ref f_row_gives))) (l_row_gives : K.lookup f_row_gives = some ⟨oc_row_gives, od_row_gives, .func (PySem.W.fnOf "row_gives" "row_gives" (defArgs s_row_gives) (defBody s_row_gives) (defScope s_row_gives) .none kV_row_gives dc_row_gives pm_row_gives an_row_gives cd_row_gives ct_row_gives), sl_row_gives⟩) (c_row_gives : PySem.W.codeIn K cd_row_gives "row_gives" = true) (k_row_gives : PySem.W.keepIn K (.ref f_row_gives) = true)
    (a_is_once : PySem.W.nsIn K mainGlobals "is_once" = some (some (.ref f_is_once))) (l_is_once : K.lookup f_is_once = some ⟨oc_is_once, od_is_once, .func (PySem.W.fnOf "is_once" "is_once" (defArgs s_is_once) (defBody s_is_once) (defScope s_is_once) .none kV_is_once dc_is_once pm_is_once an_is_once cd_is_once ct_is_once), sl_is_once⟩) (c_is_once : PySem.W.codeIn K cd_is_once "is_once" = true) (k_is_once : PySem.W.keepIn K (.ref f_is_once) = true)
    (a__law_feed : PySem.W.nsIn K mainGlobals "_law_feed" = some (some (.ref f__law_feed))) (l__law_feed : K.lookup f__law_feed = some ⟨oc__law_feed, od__law_feed, .func (PySem.W.fnOf "_law_feed" "_law_feed" (defArgs s__law_feed) (defBody s__law_feed) (defScope s__law_feed) .none kV__law_feed dc__law_feed pm__law_feed an__law_feed cd__law_feed ct__law_feed), sl__law_feed⟩) (c__law_feed : PySem.W.codeIn K cd__law_feed "_law_feed" = true) (k__law_feed : PySem.W.keepIn K (.ref f__law_feed) = true)
    (a__law_draw : PySem.W.nsIn K mainGlobals "_law_draw" = some (some (.ref f__law_draw))) (l__law_draw : K.lookup f__law_draw = some ⟨oc__law_draw, od__law_draw, .func (PySem.W.fnOf "_law_draw" "_law_draw" (defArgs s__law_draw) (defBody s__law_draw) (defScope s__law_draw) .none kV__law_draw dc__law_draw pm__law_draw an__law_draw cd__law_draw ct__law_draw), sl__law_draw⟩) (c__law_draw : PySem.W.codeIn K cd__law_draw "_law_draw" = true) (k__law_draw : PySem.W.keepIn K (.ref f__law_draw) = true)
    (a__law_function : PySem.W.nsIn K mainGlobals "_law_function" = some (some (.ref f__law_function))) (l__law_function : K.lookup f__law_function = some ⟨oc__law_function, od__law_function, .func (PySem.W.fnOf "_law_function" "_law_function" (defArgs s__law_function) (defBody s__law_function) (defScope s__law_function) .none kV__law_function dc__law_function pm__law_function an__law_function cd__law_function ct__law_function), sl__law_function⟩) (c__law_function : PySem.W.codeIn K cd__law_function "_law_function" = true) (k__law_function : PySem.W.keepIn K (.ref f__law_function) = true)
    (a_law : PySem.W.nsIn K mainGlobals "law" = some (some (.ref f_law))) (l_law : K.lookup f_law = some ⟨oc_law, od_law, .func (PySem.W.fnOf "law" "law" (defArgs s_law) (defBody s_law) (defScope s_law) .none kV_law dc_law pm_law an_law cd_law ct_law), sl_law⟩) (c_law : PySem.W.codeIn K cd_law "law" = true) (k_law : PySem.W.keepIn K (.ref f_law) = true)
    (z_list : PySem.W.nsIn K mainGlobals "list" = some none)
    (z_len : PySem.W.nsIn K mainGlobals "len" = some none)
    (z_set : PySem.W.nsIn K mainGlobals "set" = some none)
    (z_tuple : PySem.W.nsIn K mainGlobals "tuple" = some none)
    (z_enumerate : PySem.W.nsIn K mainGlobals "enumerate" = some none)
    (z_int : PySem.W.nsIn K mainGlobals "int" = some none)
    (z_range : PySem.W.nsIn K mainGlobals "range" = some none)
    (z_isinstance : PySem.W.nsIn K mainGlobals "isinstance" = some none)
    (z_bool : PySem.W.nsIn K mainGlobals "bool" = some none)
    : ∃ fd : FuncData, (∀ (s : Shared) (v : Value), BindsTo s fd ⟨[v], []⟩ [("_law_script", v)]) ∧ ∀ base : Heap, K.In base → base.Ns mainGlobals mg → FnOk l.prog w K mg base (L2.CX l.prog w) 3 fa fd ["_law_script"] (fun vs H Q E => ∃ n, spM K (F_law n) 1 vs H Q E) := by
  have e := hfa.symm.trans (PySem.W.mg_of X G a_law)
  cases e
  have F_row_gives := fun_mk (st := s_row_gives) l_row_gives c_row_gives k_row_gives
  have B_row_gives := F_row_gives.binds (ps := ["row"]) fun _ _ _ _ _ _ us hl => match us, hl with | [_], _ => rfl
  have F_is_once := fun_mk (st := s_is_once) l_is_once c_is_once k_is_once
  have B_is_once := F_is_once.binds (ps := ["middle"]) fun _ _ _ _ _ _ us hl => match us, hl with | [_], _ => rfl
  have F__law_feed := fun_mk (st := s__law_feed) l__law_feed c__law_feed k__law_feed
  have B__law_feed := F__law_feed.binds (ps := ["_law_script"]) fun _ _ _ _ _ _ us hl => match us, hl with | [_], _ => rfl
  have F__law_draw := fun_mk (st := s__law_draw) l__law_draw c__law_draw k__law_draw
  have B__law_draw := F__law_draw.binds (ps := ["_law_feed_here", "_law_many"]) fun _ _ _ _ _ _ us hl => match us, hl with | [_, _], _ => rfl
  have F__law_function := fun_mk (st := s__law_function) l__law_function c__law_function k__law_function
  have B__law_function := F__law_function.binds (ps := ["_law_feed_here", "_law_word"]) fun _ _ _ _ _ _ us hl => match us, hl with | [_, _], _ => rfl
  have F_law := fun_mk (st := s_law) l_law c_law k_law
  have B_law := F_law.binds (ps := ["_law_script"]) fun _ _ _ _ _ _ us hl => match us, hl with | [_], _ => rfl
  have T : Txt w K mg ⟨f_row_gives, _, f_is_once, _, f__law_feed, _, f__law_draw, _, f__law_function, _, fa, _⟩ := ⟨F_row_gives, PySem.W.mg_of X G a_row_gives, B_row_gives, F_is_once, PySem.W.mg_of X G a_is_once, B_is_once, F__law_feed, PySem.W.mg_of X G a__law_feed, B__law_feed, F__law_draw, PySem.W.mg_of X G a__law_draw, B__law_draw, F__law_function, PySem.W.mg_of X G a__law_function, B__law_function, F_law, PySem.W.mg_of X G a_law, B_law, PySem.W.mg_none_of X G z_list, PySem.W.mg_none_of X G z_len, PySem.W.mg_none_of X G z_set, PySem.W.mg_none_of X G z_tuple, PySem.W.mg_none_of X G z_enumerate, PySem.W.mg_none_of X G z_int, PySem.W.mg_none_of X G z_range, PySem.W.mg_none_of X G z_isinstance, PySem.W.mg_none_of X G z_bool⟩
  exact ⟨_, fun s v => .of_eq rfl, fun base _ _ => FnOk.ex fun n => ok_law T n⟩
theorem walk {l : PySem.W.OpenLaw} {q : Program} {loose : List Str} {XP : (Str → Option Value) → Heap → Prop} {YP : World → Heap → Prop} {d : DefRec} {K : Params → PySem.W.Frag} (hn : l.most = some 63) (hdf : d.params.defaults = [])
    (hY : ∀ (w : World) (h : Heap), YP w h → (K w.params).In h) (pure : ∀ ns : List Int, ns.length ≤ 63 → ∃ n st, F_law n [.frz (ns.map .int)] [] = .ok (.bl true) st)
    (F : ∀ (w : World) (mg : Str → Option Value) (fa : Addr) (h : Heap), (K w.params).In h → h.Ns mainGlobals mg → mg d.name = some (.ref fa) →
      ∃ fd : FuncData, (∀ (s : Shared) (u : Value), BindsTo s fd ⟨[u], []⟩ [("_law_script", u)]) ∧ ∀ base : Heap, (K w.params).In base → base.Ns mainGlobals mg → FnOk l.prog w (K w.params) mg base (L2.CX l.prog w) 3 fa fd ["_law_script"] (fun vs H Q E => ∃ n, spM (K w.params) (F_law n) 1 vs H Q E)) :
    PySem.W.WalkO q loose XP YP l.row.toRowW d [] (fun f vs => PySem.call f vs) :=
  L2.walk_of (n := 63) (k := 3) (x := "_law_script") (CX := fun w => L2.CX l.prog w) (sp := fun w vs H Q E => ∃ n, spM (K w.params) (F_law n) 1 vs H Q E) hn (by decide) hdf ⟨rfl, by decide, by decide⟩ hY F (fun w H a ns hl _ hS => by
    obtain ⟨n, st, e⟩ := pure ns hl
    exact law_sp hS e) fun w H s e s' => cx_false H s e s'
end K29

set_option maxRecDepth 100000
namespace K29
open PySem L2 MP
theorem fmod_lt {i m : Int} (h : 0 < m) : 0 ≤ i.fmod m ∧ i.fmod m < m := by
  rw [Int.fmod_eq_emod_of_nonneg i (by omega)]
  exact ⟨Int.emod_nonneg _ (by omega), Int.emod_lt_of_pos _ h⟩
theorem atI_all {α : Type} {xs : List α} {i : Int} (h0 : 0 ≤ i) (h1 : i < xs.length) {P : α → Prop} (hP : ∀ x ∈ xs, P x) : ∃ x, L2.atI xs i = some x ∧ P x := ⟨_, atI_of h0 h1, hP _ (List.getElem_mem _)⟩
def FC (c : Cell) (K : Int) : Prop := ∃ (ns : List Int) (k l : Int) (d : Bool), ns.length ≤ 63 ∧ 0 ≤ k ∧ k ≤ K ∧ c = .dct [(.str [99, 101, 108, 108, 115], .lst (ns.map .int)), (.str [97, 116], .int k), (.str [108, 101, 102, 116], .int l), (.str [100, 105, 103, 105, 116, 115], .bl d)]
theorem FC.mono {c : Cell} {K K' : Int} (h : FC c K) (hk : K ≤ K') : FC c K' := let ⟨ns, k, l, d, h1, h2, h3, e⟩ := h; ⟨ns, k, l, d, h1, h2, by omega, e⟩
def FD (st : Sto) (b : Nat) (K : Int) : Prop := ∃ c, st[b]? = some c ∧ FC c K
theorem FD.mono {st : Sto} {b : Nat} {K K' : Int} (h : FD st b K) (hk : K ≤ K') : FD st b K' := let ⟨c, e, h⟩ := h; ⟨c, e, h.mono hk⟩
theorem FD.bl {st : Sto} {b : Nat} {K : Int} (h : FD st b K) : b < st.length := let ⟨_, e, _⟩ := h; getN e
theorem FD.app {st : Sto} {b : Nat} {K : Int} (h : FD st b K) (ys : Sto) : FD (st ++ ys) b K := let ⟨c, e, h⟩ := h; ⟨c, by rw [List.getElem?_append_left (getN e), e], h⟩
theorem FD.setN {st : Sto} {b m : Nat} {K : Int} {x : Cell} (h : FD st b K) (hm : m ≠ b) : FD (st.set m x) b K := let ⟨c, e, h⟩ := h; ⟨c, by rw [List.getElem?_set_ne hm, e], h⟩
def SB (b : Nat) (st s : Sto) : Prop := s.length = st.length ∧ ∀ j, j ≠ b → s[j]? = st[j]?
theorem SB.refl {b : Nat} {st : Sto} : SB b st st := ⟨rfl, fun _ _ => rfl⟩
theorem SB.trans {b : Nat} {st s u : Sto} (h : SB b st s) (h' : SB b s u) : SB b st u := ⟨h'.1.trans h.1, fun j hj => (h'.2 j hj).trans (h.2 j hj)⟩
theorem SB.set {b : Nat} {st : Sto} {x : Cell} : SB b st (st.set b x) := ⟨by simp, fun j hj => List.getElem?_set_ne (fun e => hj e.symm)⟩
theorem okInts (l : List Int) : okP (.lst (l.map .int)) = true := by
  have h1 : plPs (l.map PV.int) = true := by rw [plPs_iff]; intro x hx; simp at hx; obtain ⟨c, hc, rfl⟩ := hx; simp [plP]
  simp [okP, plP, h1, depP, depPs_ints]
theorem draw_spec {n : Nat} {st : Sto} {b : Nat} {K m : Int} {Q : PV → Sto → Prop} {E : Exn → Sto → Prop} (B : FD st b K) (h : ∀ i s, 0 ≤ i → i < m → FD s b (K + 1) → SB b st s → Q (.int i) s) (hm : 0 < m := by omega) (hk : K < 1000000000000 := by omega) (hm2 : m.natAbs.log2 < 9000 := by decide +kernel) :
    Z (F__law_draw n [.loc b, .int m] st) Q E := by
  obtain ⟨c, hb, ns, k, l, d, hn, k0, k1, rfl⟩ := B
  have hl := getN hb
  have g1 : ∀ X, (st.set b X)[b]? = some X := fun X => by rw [List.getElem?_set_self hl]
  have g2 : ∀ X Y : Cell, (st.set b X).set b Y = st.set b Y := fun X Y => by rw [List.set_set]
  have hmne : m ≠ 0 := by omega
  clear hl
  have f1 := fun i : Int => fmod_lt (i := i) hm
  have m1 : mulOk 7 k = true := by simp [mulOk]
  have m2 : mulOk (7 * k) k = true := by simp [mulOk]; omega
  have m3 : mulOk 31 k = true := by simp [mulOk]
  have m4 : ∀ i : Int, mulOk i 48271 = true := fun i => by simp [mulOk]
  have m5 : ∀ i : Int, mulOk i 742938285 = true := fun i => by simp [mulOk]
  have fin : ∀ (i k' l' : Int) (d' : Bool), 0 ≤ k' → k' ≤ K + 1 → Q (.int (i.fmod m)) (st.set b (.dct [(.str [99, 101, 108, 108, 115], .lst (ns.map .int)), (.str [97, 116], .int k'), (.str [108, 101, 102, 116], .int l'), (.str [100, 105, 103, 105, 116, 115], .bl d')])) := fun i k' l' d' h0 h1 =>
    h _ _ (f1 i).1 (f1 i).2 ⟨_, g1 _, ns, k', l', d', hn, h0, h1, rfl⟩ SB.set
  rw [z__law_draw]
  unfold b__law_draw
  cases d with
  | true =>
    have ht : ∀ (x : Int) (s : Sto) (Q : PV → Sto → Prop) (E : Exn → Sto → Prop), Z (inM true (.int x) (.tup [.int 0, .int (-1)]) s) Q E = Q (.bl (!decide (x = 0 ∨ x = -1))) s := fun x s Q E => by
      rw [Z_inP (xs := [.int 0, .int (-1)]) rfl rfl rfl]; simp
    simp [hb, lookP, hmne, hm, hm2, g1, putP, ht, g2]
    exact fin _ k _ _ k0 (by omega)
  | false =>
    have hne : ∀ (s : Sto) (Q : PV → Sto → Prop) (E : Exn → Sto → Prop), Z (neM (.lst (ns.map .int)) (.lst []) s) Q E = Q (.bl (!decide (ns = []))) s := fun s Q E => by
      rw [Z_neP (okInts ns) (show okP (.lst []) = true from okInts [])]; simp
    by_cases hns : ns = []
    · subst hns
      simp only [List.map_nil] at fin hne hb
      simp [hb, lookP, putP, g1, g2, hne, m1, m2, m3, m4, m5, hmne]
      exact fin _ (k + 1) _ _ (by omega) (by omega)
    · have hp : 0 < (ns.length : Int) := by have := List.length_pos_iff.mpr hns; omega
      obtain ⟨a0, a1⟩ := fmod_lt (i := k) hp
      have hat := atI_of (xs := ns.map PV.int) a0 (by simpa using a1)
      simp at hat
      have hp2 : ns.length ≠ 0 := by omega
      simp [hb, lookP, putP, g1, g2, hne, hns, hat, m1, m2, m3, m4, m5, hmne]
      exact fin _ (k + 1) _ _ (by omega) (by omega)
theorem feed_spec {n : Nat} {ns : List Int} {Q : PV → Sto → Prop} {E : Exn → Sto → Prop} (h : ∀ s, FD s 0 0 → s.length = 1 → Q (.loc 0) s) : Z (F__law_feed n [.frz (ns.map .int)] []) Q E := by
  rw [z__law_feed]
  unfold b__law_feed
  have e : cutL (ns.map PV.int) none (some 63) = (cutL ns none (some 63)).map .int := cut_map _
  have hl : (cutL ns none (some 63)).length ≤ 63 := cut_midlen (xs := ns) (a := 0) (b := 63)
  generalize cutL ns none (some 63) = ms at e hl
  have e2 : cutL (ms.map PV.int) none (some 2) ++ [.int 0, .int 0] = (cutL ms none (some 2) ++ [0, 0]).map .int := by rw [cut_map]; simp
  have hl2 : (cutL ms none (some 2)).length ≤ 2 := cut_midlen (xs := ms) (a := 0) (b := 2)
  generalize hp : cutL ms none (some 2) = pr at e2 hl2
  obtain ⟨x, y, r, hr⟩ : ∃ x y r, pr ++ [0, 0] = x :: y :: r := by
    match pr with
    | [] => exact ⟨_, _, _, rfl⟩
    | [a] => exact ⟨_, _, _, rfl⟩
    | a :: b :: c => exact ⟨_, _, _, rfl⟩
  have hlm : (cutL (ms.map PV.int) none (some 2)).length ≤ 2 := by rw [cut_map, hp]; simpa using hl2
  have hx : ∀ j : Nat, L2.atI ((pr ++ [0, 0]).map PV.int) (j : Int) = ((pr ++ [0, 0]).map PV.int)[j]? := fun j => by
    unfold L2.atI L2.ixN
    by_cases hj : j < ((pr ++ [0, 0]).map PV.int).length
    · rw [if_pos (by omega), if_pos (by omega)]; simp
    · rw [if_pos (by omega), if_neg (by omega), List.getElem?_eq_none (by omega)]; rfl
  have h0 := hx 0
  have h1 := hx 1
  rw [hr] at h0 h1 e2
  simp at h0 h1
  have fin : ∀ l d, Q (.loc 0) [Cell.dct [(.str [99, 101, 108, 108, 115], .lst (ms.map .int)), (.str [97, 116], .int 0), (.str [108, 101, 102, 116], .int l), (.str [100, 105, 103, 105, 116, 115], .bl d)]] := fun l d => h _ ⟨_, rfl, ms, 0, l, d, hl, by omega, by omega, rfl⟩ rfl
  simp [e]
  refine ⟨by omega, ?_⟩
  simp [e2, h0, h1, Z_eDct, keysOk, mergeP, putP]
  exact fin _ _
section
variable {st : Sto} {Q : PV → Sto → Prop} {E : Exn → Sto → Prop} {xs : List PV} {lo hi : Option Int}
theorem Z_slN : Z (slN (.lst xs) lo hi st) Q E = Q (.loc st.length) (st ++ [.lst (cutL xs lo hi)]) := propext Iff.rfl
theorem Z_insert {m : Nat} {i : Int} {x : PV} (h : st[m]? = some (.lst xs)) (hl : xs.length < 1000) (h0 : 0 ≤ i) (h1 : i < 1000) : Z (insertM (.loc m) [.int i, x] st) Q E = Q .non (st.set m (.lst (xs.take i.toNat ++ [x] ++ xs.drop i.toNat))) := by
  unfold insertM lstCell; dsimp only; rw [h]; dsimp only; rw [if_pos ⟨by show xs.length < 16777216; omega, h0, by omega⟩]; rfl
end
abbrev N0 : List Nat := [110, 48]
abbrev N1 : List Nat := [110, 49]
abbrev R9 : List Nat := [114, 57]
abbrev FST : List (List Nat) := [N0, [114, 48]]
abbrev SND : List (List Nat) := [N1, [114, 49]]
abbrev ROW : List (List Nat) := [[110, 50], [110, 50, 48], [110, 50, 48, 48]]
abbrev MOR : List (List Nat) := [[110, 51], [110, 51, 48]]
structure C3 (s : Sto) (b c3 c4 c5 : Nat) (se ro mo : List (List Nat)) : Prop where
  s3 : s[c3]? = some (.lst (se.map .str))
  s4 : s[c4]? = some (.lst (ro.map .str))
  s5 : s[c5]? = some (.lst (mo.map .str))
  n3 : c3 ≠ b
  n4 : c4 ≠ b
  n5 : c5 ≠ b
  n34 : c3 ≠ c4
  n35 : c3 ≠ c5
  n45 : c4 ≠ c5
theorem C3.sb {s s' : Sto} {b c3 c4 c5 : Nat} {se ro mo : List (List Nat)} (h : C3 s b c3 c4 c5 se ro mo) (S : SB b s s') : C3 s' b c3 c4 c5 se ro mo :=
  ⟨by rw [S.2 _ h.n3]; exact h.s3, by rw [S.2 _ h.n4]; exact h.s4, by rw [S.2 _ h.n5]; exact h.s5, h.n3, h.n4, h.n5, h.n34, h.n35, h.n45⟩
theorem C3.set3 {s : Sto} {b c3 c4 c5 : Nat} {se ro mo : List (List Nat)} (h : C3 s b c3 c4 c5 se ro mo) (l : List (List Nat)) : C3 (s.set c3 (.lst (l.map .str))) b c3 c4 c5 l ro mo :=
  ⟨by rw [List.getElem?_set_self (getN h.s3)], by rw [List.getElem?_set_ne h.n34]; exact h.s4, by rw [List.getElem?_set_ne h.n35]; exact h.s5, h.n3, h.n4, h.n5, h.n34, h.n35, h.n45⟩
theorem C3.set4 {s : Sto} {b c3 c4 c5 : Nat} {se ro mo : List (List Nat)} (h : C3 s b c3 c4 c5 se ro mo) (l : List (List Nat)) : C3 (s.set c4 (.lst (l.map .str))) b c3 c4 c5 se l mo :=
  ⟨by rw [List.getElem?_set_ne h.n34.symm]; exact h.s3, by rw [List.getElem?_set_self (getN h.s4)], by rw [List.getElem?_set_ne h.n45]; exact h.s5, h.n3, h.n4, h.n5, h.n34, h.n35, h.n45⟩
theorem C3.set5 {s : Sto} {b c3 c4 c5 : Nat} {se ro mo : List (List Nat)} (h : C3 s b c3 c4 c5 se ro mo) (l : List (List Nat)) : C3 (s.set c5 (.lst (l.map .str))) b c3 c4 c5 se ro l :=
  ⟨by rw [List.getElem?_set_ne h.n35.symm]; exact h.s3, by rw [List.getElem?_set_ne h.n45.symm]; exact h.s4, by rw [List.getElem?_set_self (getN h.s5)], h.n3, h.n4, h.n5, h.n34, h.n35, h.n45⟩
def rowP (r : List Nat × List PV) : PV := .tup (.str r.1 :: r.2)
def blkP (ps : List (List Nat)) (rs : List (List Nat × List PV)) (e : PV) : PV := .tup [.tup (ps.map .str), .tup (rs.map rowP), e]
abbrev sNeed : List Nat := [110, 101, 101, 100]
abbrev sTick : List Nat := [116, 105, 99, 107]
def Plain (l : List (List Nat)) : Prop := ∀ z ∈ l, z ≠ sNeed ∧ z ≠ sTick
theorem Plain.left {a b : List (List Nat)} (h : Plain (a ++ b)) : Plain a := fun z hz => h z (List.mem_append_left _ hz)
theorem Plain.right {a b : List (List Nat)} (h : Plain (a ++ b)) : Plain b := fun z hz => h z (List.mem_append_right _ hz)
section
variable {n : Nat} {st : Sto} {Q : PV → Sto → Prop} {E : Exn → Sto → Prop}
theorem z_gives {r : List Nat × List PV} (h : r.1 ≠ sNeed ∧ r.1 ≠ sTick) : Z (F_row_gives n [rowP r] st) Q E = Q (.str r.1) st := by
  rw [z_row_gives]; unfold b_row_gives
  have hi := fun Q E => Z_inP (n := false) (x := .str r.1) (y := .tup [.str sNeed, .str sTick]) (xs := [.str sNeed, .str sTick]) (st := st) (Q := Q) (E := E) rfl rfl rfl
  simp [rowP, L2.atI, L2.ixN, hi, h.1, h.2]
theorem gives_lc {ρ : Rho} (hρ : ρ.length = 9) {QL : List PV → Sto → Prop} : ∀ (rs : List (List Nat × List PV)) (acc : List PV), acc.length + rs.length ≤ 1000 → Plain (rs.map (·.1)) →
    Z (lcL (gN 8) (eB (eBin notN (eCall (F_row_gives n) (aCons (eVar 8) aNil)) (eC .non))) (eCall (F_row_gives n) (aCons (eVar 8) aNil)) ρ (rs.map rowP) acc st) QL E = QL (acc ++ rs.map fun r => .str r.1) st
  | [], acc, _, _ => by rw [List.map_nil, lc_nil]; simp
  | r :: rs, acc, hl, hp => by
    simp at hl
    rw [List.map_cons, lc_cons]
    have hz : acc.length < 16777216 := by omega
    have hr := hp r.1 (by simp)
    have e := gives_lc hρ (QL := QL) rs (acc ++ [.str r.1]) (by simp; omega) (Plain.right (a := [r.1]) hp)
    simp [hρ, z_gives hr, nonP, hz, e]
abbrev Bl := List (List Nat) × List (List Nat × List PV) × PV
def fnames : List Bl → List (List Nat)
  | [] => []
  | b :: bs => b.1 ++ (b.2.1.map (·.1) ++ fnames bs)
def bP (b : Bl) : PV := blkP b.1 b.2.1 b.2.2
theorem blocks_loop {x0 x1 x2 x3 : Option PV} {QF : Fl → Sto → Prop} : ∀ (bs : List Bl) (acc : List (List Nat)) (x5 x6 x7 x8 : Option PV), acc.length + (fnames bs).length ≤ 900 → Plain (fnames bs) →
    (∀ x5 x6 x7 x8, QF (.next [x0, x1, x2, x3, some (.lst ((acc ++ fnames bs).map .str)), x5, x6, x7, x8]) st) →
    Z (forL (gT 3 (gsCons (gN 5) (gsCons (gN 6) (gsCons (gN 7) gsNil)))) (L1_is_once n) (bs.map bP) [x0, x1, x2, x3, some (.lst (acc.map .str)), x5, x6, x7, x8] st) QF E
  | [], acc, x5, x6, x7, x8, _, _, hq => by
    rw [List.map_nil, Z_forL_nil]
    simpa [fnames] using hq x5 x6 x7 x8
  | b :: bs, acc, x5, x6, x7, x8, hl, hp, hq => by
    obtain ⟨ps, rs, e⟩ := b
    simp only [fnames] at hl hp hq
    simp only [List.length_append, List.length_map] at hl
    have hlc := fun x0 x1 x2 x3 x4 x5 x6 x7 x8 QL E => gives_lc (n := n) (st := st) (ρ := [x0, x1, x2, x3, x4, x5, x6, x7, x8]) rfl (QL := QL) (E := E) rs [] (by simp; omega) hp.right.left
    rw [List.map_cons, Z_forL]
    have z1 : acc.length + ps.length ≤ 16777216 := by omega
    have z2 : acc.length + (ps.length + rs.length) ≤ 16777216 := by omega
    have ih := fun x5 x6 x7 x8 => blocks_loop (x0 := x0) (x1 := x1) (x2 := x2) (x3 := x3) (QF := QF) bs (acc ++ (ps ++ rs.map (·.1))) x5 x6 x7 x8 (by simp; omega) hp.right.right (fun x5 x6 x7 x8 => by
      have := hq x5 x6 x7 x8
      simpa using this)
    simp [bP, blkP, zL1_is_once, hlc, z1, z2]
    have i2 := ih (some (.tup (ps.map .str))) (some (.tup (rs.map rowP))) (some e) x8
    simp at i2
    exact ⟨by omega, i2⟩
abbrev Fn := List Nat × List Bl
def fnP (f : Fn) : PV := .tup [.str f.1, .str [], .tup (f.2.map bP)]
def okF (f : Fn) : Bool := decide (fnames f.2).Nodup
theorem once_loop {x0 : Option PV} : ∀ (fs : List Fn) (x1 x2 x3 x4 x5 x6 x7 x8 : Option PV), (∀ f ∈ fs, (fnames f.2).length ≤ 900 ∧ Plain (fnames f.2)) → Q (.bl (fs.all okF)) st →
    Z (forL (gT 3 (gsCons (gN 1) (gsCons (gN 2) (gsCons (gN 3) gsNil)))) (L0_is_once n) (fs.map fnP) [x0, x1, x2, x3, x4, x5, x6, x7, x8] st) (seqQ (sRet (eC (.bl true))) (runQ Q E) MP.E0) MP.E0
  | [], x1, x2, x3, x4, x5, x6, x7, x8, _, hq => by
    rw [List.map_nil, Z_forL_nil]
    simpa using hq
  | f :: fs, x1, x2, x3, x4, x5, x6, x7, x8, hf, hq => by
    obtain ⟨hl, hp⟩ := hf f (by simp)
    rw [List.map_cons, Z_forL]
    simp [fnP, zL0_is_once]
    refine blocks_loop f.2 [] _ _ _ _ (by simpa using hl) hp fun x5 x6 x7 x8 => ?_
    simp
    refine Z_lenSet (zs := fnames f.2) rfl (by omega) fun m hm hm2 => ?_
    have hz : (fnames f.2).length ≤ 16777216 := by omega
    by_cases h : (fnames f.2).Nodup
    · have e := hm.mpr h
      subst e
      have := once_loop (x0 := x0) fs (some (.str f.1)) (some (.str [])) (some (.tup (f.2.map bP))) (some (.lst ((fnames f.2).map .str))) x5 x6 x7 x8 (fun g hg => hf g (by simp [hg])) (by simpa [okF, h] using hq)
      simp [hz]
      exact this
    · have e : ¬ m = (fnames f.2).length := fun q => h (hm.mp q)
      have e2 : ¬ (m : Int) = (fnames f.2).length := by omega
      simp [okF, h] at hq
      simp [hz, e2, hq]
theorem z_once {fs : List Fn} (hf : ∀ f ∈ fs, (fnames f.2).length ≤ 900 ∧ Plain (fnames f.2)) (hq : Q (.bl (fs.all okF)) st) : Z (F_is_once n [.tup (fs.map fnP)] st) Q E := by
  rw [z_is_once]; unfold b_is_once
  simp
  exact once_loop fs _ _ _ _ _ _ _ _ hf hq
end
def restM (n : Nat) : Rho → M Fl := (sSeq (sSet 8 (eCall tupleM (aCons (eLcC enumP lcV (iCell (eVar 4)) (gT 2 (gsCons (gN 13) (gsCons (gN 14) gsNil))) tYesM (eCall mkTup (aCons (eVar 14) (aCons (eC (.str [99, 111, 112, 121])) (aCons (eCall mkTup (aCons (eVar 13) aNil)) aNil)))) [13, 14]) aNil)))
  (sSeq (sSet 9 (eCall tupleM (aCons (eLcC enumP lcV (iCell (eVar 5)) (gT 2 (gsCons (gN 13) (gsCons (gN 14) gsNil))) tYesM (eCall mkTup (aCons (eVar 14) (aCons (eC (.str [97, 100, 100])) (aCons (eCall mkTup (aCons (eVar 13) (aCons (eC (.int 1)) aNil))) aNil)))) [13, 14]) aNil)))
  (sSeq (sSet 10 (eCall mkTup (aCons (eC (.str [103, 105, 118, 101])) (aCons (eCall mkTup aNil) aNil))))
  (sSeq (sIf (eB (eBin eqM (eCall (F__law_draw n) (aCons (eVar 0) (aCons (eC (.int 2)) aNil))) (eC (.int 0)))) (sSeq (sSet 11 (eCall mkTup (aCons (eC (.str [114, 57])) (aCons (eC (.str [109, 97, 107, 101])) (aCons (eCall mkTup aNil) aNil)))))
  (sSeq (sSet 8 (eBin addV (eVar 8) (eCall mkTup (aCons (eVar 11) aNil))))
  (sSet 10 (eCall mkTup (aCons (eC (.str [103, 111])) (aCons (eC (.int 1)) (aCons (eCall tupleM (aCons (eLcC id lcV (iCell (eVar 3)) (gN 14) tYesM (eBin ixM (eCall mkLst (aCons (eC (.str [114, 57])) (aCons (eC (.int 5)) aNil))) (eCall intM (aCons (eBin eqM (eBin ixM (eVar 14) (eC (.int 0))) (eC (.str [110]))) aNil))) [14]) aNil)) aNil))))))) sNext)
  (sSeq (sSet 12 (eCall mkTup (aCons (eCall mkTup (aCons (eCall tupleM (aCons (eVar 2) aNil)) (aCons (eVar 8) (aCons (eVar 10) aNil)))) (aCons (eCall mkTup (aCons (eCall tupleM (aCons (eVar 3) aNil)) (aCons (eVar 9) (aCons (eCall mkTup (aCons (eC (.str [103, 105, 118, 101])) (aCons (eCall mkTup aNil) aNil))) aNil)))) aNil))))
  (sRet (eCall mkTup (aCons (eCall mkTup (aCons (eVar 1) (aCons (eC (.str [])) (aCons (eVar 12) aNil)))) (aCons (eVar 6) aNil)))))))))
theorem b_eq {n : Nat} : b__law_function n = (sSeq (sSet 2 (eSl slM (eCall mkLst (aCons (eC (.str [110, 48])) (aCons (eC (.str [114, 48])) aNil))) oNone (oSome (eCall (F__law_draw n) (aCons (eVar 0) (aCons (eC (.int 3)) aNil))))))
  (sSeq (sSet 3 (eSl slN (eCall mkLst (aCons (eC (.str [110, 49])) (aCons (eC (.str [114, 49])) aNil))) oNone (oSome (eCall (F__law_draw n) (aCons (eVar 0) (aCons (eC (.int 3)) aNil))))))
  (sSeq (sSet 4 (eSl slN (eCall mkLst (aCons (eC (.str [110, 50])) (aCons (eC (.str [110, 50, 48])) (aCons (eC (.str [110, 50, 48, 48])) aNil)))) oNone (oSome (eCall (F__law_draw n) (aCons (eVar 0) (aCons (eC (.int 4)) aNil))))))
  (sSeq (sSet 5 (eSl slN (eCall mkLst (aCons (eC (.str [110, 51])) (aCons (eC (.str [110, 51, 48])) aNil))) oNone (oSome (eCall (F__law_draw n) (aCons (eVar 0) (aCons (eC (.int 3)) aNil))))))
  (sSeq (sSet 6 (eC (.bl false)))
  (sSeq (sSet 7 (eCall (F__law_draw n) (aCons (eVar 0) (aCons (eC (.int 8)) aNil))))
  (sSeq (sIf (tAndM (eB (eBin eqM (eVar 7) (eC (.int 1)))) (eB (eBin neM (eVar 4) (eCall mkLst aNil)))) (sSeq (sDrop (eMeth "list" insertM (eVar 4) (aCons (eCall (F__law_draw n) (aCons (eVar 0) (aCons (eBin addV (eCall lenM (aCons (eVar 4) aNil)) (eC (.int 1))) aNil))) (aCons (eBin ixM (eVar 4) (eC (.int 0))) aNil))))
  (sSet 6 (eC (.bl true)))) sNext)
  (sSeq (sIf (tAndM (eB (eBin eqM (eVar 7) (eC (.int 2)))) (eB (eBin neM (eVar 4) (eCall mkLst aNil)))) (sSeq (sDrop (eMeth "list" insertM (eVar 5) (aCons (eCall (F__law_draw n) (aCons (eVar 0) (aCons (eBin addV (eCall lenM (aCons (eVar 5) aNil)) (eC (.int 1))) aNil))) (aCons (eBin ixM (eVar 4) (eUn negV (eC (.int 1)))) aNil))))
  (sSet 6 (eC (.bl true)))) sNext)
  (sSeq (sIf (tAndM (eB (eBin eqM (eVar 7) (eC (.int 3)))) (eB (eBin gtI (eCall lenM (aCons (eVar 2) aNil)) (eC (.int 0))))) (sSeq (sDrop (eMeth "list" appendM (eVar 5) (aCons (eC (.str [110, 48])) aNil)))
  (sSet 6 (eC (.bl true)))) sNext)
  (sSeq (sIf (tAndM (eB (eBin eqM (eVar 7) (eC (.int 4)))) (eB (eBin gtI (eCall lenM (aCons (eVar 2) aNil)) (eC (.int 0))))) (sSeq (sDrop (eMeth "list" insertM (eVar 3) (aCons (eC (.int 0)) (aCons (eC (.str [110, 48])) aNil))))
  (sSet 6 (eC (.bl true)))) sNext)
  (sSeq (sIf (tAndM (eB (eBin eqM (eVar 7) (eC (.int 5)))) (eB (eBin gtI (eCall lenM (aCons (eVar 3) aNil)) (eC (.int 0))))) (sSeq (sDrop (eMeth "list" appendM (eVar 4) (aCons (eC (.str [110, 49])) aNil)))
  (sSet 6 (eC (.bl true)))) sNext)
  (restM n)))))))))))) := by unfold b__law_function restM; rfl
theorem enum_lc {st : Sto} {G : Sto → Bool} (hG : G st = true) {ρ : Rho} (hρ : ρ.length = 15) {QL : List PV → Sto → Prop} {E : Exn → Sto → Prop} {e : Rho → M PV} {f : Nat → List PV}
    (he : ∀ (j : Nat) (z : List Nat) (Q : PV → Sto → Prop) E, Z (e (((ρ.set 13 (some (.int j))).set 14 (some (.str z)))) st) Q E = Q (rowP (z, f j)) st) :
    ∀ (zs : List (List Nat)) (a : Nat) (acc : List PV), acc.length + zs.length ≤ 1000 →
    Z (lcG G (gT 2 (gsCons (gN 13) (gsCons (gN 14) gsNil))) tYesM e ρ ((zs.map PV.str).mapIdx fun i p => .tup [.int ((a + i : Nat) : Int), p]) acc st) QL E = QL (acc ++ ((zs.mapIdx fun i z => (z, f (a + i))).map rowP)) st
  | [], a, acc, _ => by simp [lcG_nil hG]
  | z :: zs, a, acc, hl => by
    simp at hl
    have hz : acc.length < 16777216 := by omega
    have ih := enum_lc hG hρ (QL := QL) (E := E) he zs (a + 1) (acc ++ [rowP (z, f a)]) (by simp; omega)
    rw [List.map_cons, List.mapIdx_cons, lcG_cons hG]
    simp [he, hz]
    simp only [Nat.add_assoc, Nat.add_comm 1, List.append_assoc, List.singleton_append] at ih
    simp only [Int.natCast_add, Int.natCast_one] at ih
    exact iff_of_eq ih
theorem second_lc {st : Sto} {G : Sto → Bool} (hG : G st = true) {ρ : Rho} (hρ : ρ.length = 15) {QL : List PV → Sto → Prop} {E : Exn → Sto → Prop} : ∀ (zs : List (List Nat)) (acc : List PV), acc.length + zs.length ≤ 1000 → (∀ z ∈ zs, z ≠ [] ∧ z.length ≤ 10) → (∀ l, QL l st) →
    Z (lcG G (gN 14) tYesM (eBin ixM (eCall mkLst (aCons (eC (.str [114, 57])) (aCons (eC (.int 5)) aNil))) (eCall intM (aCons (eBin eqM (eBin ixM (eVar 14) (eC (.int 0))) (eC (.str [110]))) aNil))) ρ (zs.map .str) acc st) QL E
  | [], acc, _, _, hq => by rw [List.map_nil, lcG_nil hG]; exact hq _
  | z :: zs, acc, hl, hn, hq => by
    simp at hl
    have hz : acc.length < 16777216 := by omega
    obtain ⟨h0, h1⟩ := hn z (by simp)
    cases z with
    | nil => exact absurd rfl h0
    | cons c r =>
      simp at h1
      rw [List.map_cons, lcG_cons hG]
      have ih := fun a => second_lc hG hρ (QL := QL) (E := E) zs (acc ++ [a]) (by rw [List.length_append]; simp; omega) (fun z hz => hn z (by simp [hz])) hq
      have hr : r.length ≤ 16777215 := by omega
      by_cases hc : c = 110
      · simp [hρ, L2.atI, L2.ixN, hr, hc, hz]
        exact ih _
      · simp [hρ, L2.atI, L2.ixN, hr, hc, hz]
        exact ih _
theorem rest_spec {n b c3 c4 c5 : Nat} {s : Sto} {K : Int} {w : PV} {fi se ro mo : List (List Nat)} {tw : Bool} {x7 : Option PV} {Q : PV → Sto → Prop} {E : Exn → Sto → Prop} (B : FD s b K) (hk : K < 10000) (C : C3 s b c3 c4 c5 se ro mo) (hl : fi.length ≤ 10 ∧ se.length ≤ 10 ∧ ro.length ≤ 10 ∧ mo.length ≤ 10)
    (hs : ∀ z ∈ se, z ≠ [] ∧ z.length ≤ 10) (hq : ∀ (rs1 rs2 : List (List Nat × List PV)) (e : PV) (s2 : Sto), (rs1.map (·.1) = ro ∨ rs1.map (·.1) = ro ++ [R9]) → rs2.map (·.1) = mo → FD s2 b (K + 1) → SB b s s2 → Q (.tup [.tup [w, .str [], .tup [bP (fi, rs1, e), bP (se, rs2, .tup [.str [103, 105, 118, 101], .tup []])]], .bl tw]) s2) :
    Z (restM n [some (.loc b), some w, some (.lst (fi.map .str)), some (.loc c3), some (.loc c4), some (.loc c5), some (.bl tw), x7, none, none, none, none, none, none, none] s) (runQ Q E) MP.E0 := by
  obtain ⟨l1, l2, l3, l4⟩ := hl
  unfold restM
  have e4 := fun QL E x7 => enum_lc (gd_of C.s4) (ρ := [some (.loc b), some w, some (.lst (fi.map .str)), some (.loc c3), some (.loc c4), some (.loc c5), some (.bl tw), x7, none, none, none, none, none, none, none]) rfl (QL := QL) (E := E) (f := fun j => [.str [99, 111, 112, 121], .tup [.int j]]) (e := (eCall mkTup (aCons (eVar 14) (aCons (eC (.str [99, 111, 112, 121])) (aCons (eCall mkTup (aCons (eVar 13) aNil)) aNil))))) (fun j z Q E => by simp [rowP]) ro 0 [] (by simp; omega)
  simp only [Nat.zero_add, List.nil_append] at e4
  have k4 := fun Q => kCell_at (Q := Q) C.s4
  simp [k4, enumP, e4]
  have m1 : (List.mapIdx (fun i z => (z, [PV.str [99, 111, 112, 121], PV.tup [PV.int (i : Nat)]])) ro).map (·.1) = ro := by
    apply List.ext_getElem?; intro i; simp [List.getElem?_mapIdx, Function.comp_def]
  generalize List.mapIdx (fun i z => (z, [PV.str [99, 111, 112, 121], PV.tup [PV.int (i : Nat)]])) ro = rs1 at m1
  have e5 := fun QL E x7 x8 => enum_lc (gd_of C.s5) (ρ := [some (.loc b), some w, some (.lst (fi.map .str)), some (.loc c3), some (.loc c4), some (.loc c5), some (.bl tw), x7, x8, none, none, none, none, none, none]) rfl (QL := QL) (E := E) (f := fun j => [.str [97, 100, 100], .tup [.int j, .int 1]]) (e := (eCall mkTup (aCons (eVar 14) (aCons (eC (.str [97, 100, 100])) (aCons (eCall mkTup (aCons (eVar 13) (aCons (eC (.int 1)) aNil))) aNil))))) (fun j z Q E => by simp [rowP]) mo 0 [] (by simp; omega)
  simp only [Nat.zero_add, List.nil_append] at e5
  have k5 := fun Q => kCell_at (Q := Q) C.s5
  simp [k5, enumP, e5]
  have m2 : (List.mapIdx (fun i z => (z, [PV.str [97, 100, 100], PV.tup [PV.int (i : Nat), PV.int 1]])) mo).map (·.1) = mo := by
    apply List.ext_getElem?; intro i; simp [List.getElem?_mapIdx, Function.comp_def]
  generalize List.mapIdx (fun i z => (z, [PV.str [97, 100, 100], PV.tup [PV.int (i : Nat), PV.int 1]])) mo = rs2 at m2
  refine draw_spec B fun i s2 h0 h1 B1 S1 => ?_
  have C2 := C.sb S1
  have k3 := fun Q => kCell_at (Q := Q) C2.s3
  have hr : rs1.length ≤ 10 := by rw [← m1] at l3; simpa using l3
  by_cases hi : i = 0
  · simp [hi, k3]
    refine ⟨by omega, second_lc (gd_of C2.s3) rfl se [] (by simp; omega) hs fun l => ?_⟩
    have e : rs1.map rowP ++ [PV.tup [.str [114, 57], .str [109, 97, 107, 101], .tup []]] = (rs1 ++ [(R9, [PV.str [109, 97, 107, 101], .tup []])]).map rowP := by simp [rowP]
    simp [C2.s3]
    have := hq (rs1 ++ [(R9, [PV.str [109, 97, 107, 101], .tup []])]) rs2 (.tup [.str [103, 111], .int 1, .tup l]) s2 (.inr (by simp [m1])) m2 B1 S1
    simp [bP, blkP, rowP] at this
    simpa [bP, blkP, rowP] using this
  · simp [hi, C2.s3]
    have := hq rs1 rs2 (.tup [.str [103, 105, 118, 101], .tup []]) s2 (.inl m1) m2 B1 S1
    simpa [bP, blkP] using this
inductive Way (fi se ro mo : List (List Nat)) : List (List Nat) → List (List Nat) → List (List Nat) → Bool → Prop
  | none : Way fi se ro mo se ro mo false
  | one (k : Nat) (x : List Nat) : x ∈ ro → Way fi se ro mo se (ro.take k ++ [x] ++ ro.drop k) mo true
  | two (k : Nat) (x : List Nat) : x ∈ ro → Way fi se ro mo se ro (mo.take k ++ [x] ++ mo.drop k) true
  | three : N0 ∈ fi → Way fi se ro mo se ro (mo ++ [N0]) true
  | four : N0 ∈ fi → Way fi se ro mo (N0 :: se) ro mo true
  | five : N1 ∈ se → Way fi se ro mo se (ro ++ [N1]) mo true
def ALL : List (List Nat) := FST ++ (ROW ++ ([R9] ++ (SND ++ MOR)))
theorem all_nodup : ALL.Nodup := by decide +kernel
theorem nodup_of {a b : List (List Nat)} (h : a.Sublist b) (hb : b.Nodup) : a.Nodup := List.Sublist.nodup h hb
theorem way_nodup {a b c d : Nat} {fi se ro mo se' ro' mo' nr : List (List Nat)} {tw : Bool} (h1 : fi = FST.take a) (h2 : se = SND.take b) (h3 : ro = ROW.take c) (h4 : mo = MOR.take d) (hw : Way fi se ro mo se' ro' mo' tw) (hn : nr = ro' ∨ nr = ro' ++ [R9]) : (fi ++ (nr ++ (se' ++ mo'))).Nodup ↔ tw = false := by
  cases hw with
  | none =>
    simp only [iff_true]
    refine nodup_of ?_ all_nodup
    unfold ALL
    rw [h1, h2, h4]
    rcases hn with rfl | rfl
    · rw [h3]
      exact (List.take_sublist _ _).append ((List.take_sublist _ _).append (List.Sublist.trans ((List.take_sublist _ _).append (List.take_sublist _ _)) (List.sublist_append_right _ _)))
    · rw [h3]
      rw [List.append_assoc]
      exact (List.take_sublist _ _).append ((List.take_sublist _ _).append ((List.Sublist.refl _).append ((List.take_sublist _ _).append (List.take_sublist _ _))))
  | one k x hx =>
    simp only [Bool.true_eq_false, iff_false]
    intro q
    have s1 : (ro.take k ++ [x] ++ ro.drop k).Nodup := by
      refine nodup_of ?_ q
      refine List.Sublist.trans ?_ (List.sublist_append_right _ _)
      rcases hn with rfl | rfl
      · exact List.sublist_append_left _ _
      · exact List.Sublist.trans (List.sublist_append_left _ _) (List.sublist_append_left _ _)
    have p : (ro.take k ++ [x] ++ ro.drop k).Perm (x :: ro) := by
      have := List.perm_middle (a := x) (l₁ := ro.take k) (l₂ := ro.drop k)
      rw [List.take_append_drop] at this
      simpa using this
    exact (List.nodup_cons.mp (p.nodup_iff.mp s1)).1 hx
  | two k x hx =>
    simp only [Bool.true_eq_false, iff_false]
    intro q
    have q2 := (List.nodup_append.mp q).2.1
    have q3 := (List.nodup_append.mp q2).2.2
    refine q3 x ?_ x ?_ rfl
    · rcases hn with rfl | rfl <;> simp [hx]
    · simp
  | three hx =>
    simp only [Bool.true_eq_false, iff_false]
    intro q
    exact (List.nodup_append.mp q).2.2 N0 hx N0 (by simp) rfl
  | four hx =>
    simp only [Bool.true_eq_false, iff_false]
    intro q
    exact (List.nodup_append.mp q).2.2 N0 hx N0 (by simp) rfl
  | five hx =>
    simp only [Bool.true_eq_false, iff_false]
    intro q
    have q2 := (List.nodup_append.mp q).2.1
    refine (List.nodup_append.mp q2).2.2 N1 ?_ N1 (by simp [hx]) rfl
    rcases hn with rfl | rfl <;> simp
theorem all_plain : ∀ z ∈ ALL, (z ≠ sNeed ∧ z ≠ sTick) ∧ z ≠ [] ∧ z.length ≤ 10 := by decide +kernel
theorem way_all {a b c d : Nat} {fi se ro mo se' ro' mo' : List (List Nat)} {tw : Bool} (h1 : fi = FST.take a) (h2 : se = SND.take b) (h3 : ro = ROW.take c) (h4 : mo = MOR.take d) (hw : Way fi se ro mo se' ro' mo' tw) :
    (∀ z ∈ fi, z ∈ ALL) ∧ (∀ z ∈ se', z ∈ ALL) ∧ (∀ z ∈ ro', z ∈ ALL) ∧ (∀ z ∈ mo', z ∈ ALL) ∧ fi.length ≤ 10 ∧ se'.length ≤ 10 ∧ ro'.length ≤ 10 ∧ mo'.length ≤ 10 := by
  have a1 : ∀ z ∈ fi, z ∈ ALL := fun z hz => by rw [h1] at hz; have := List.mem_of_mem_take hz; simp [ALL]; simp at this; rcases this with h | h <;> simp [h]
  have a2 : ∀ z ∈ se, z ∈ ALL := fun z hz => by rw [h2] at hz; have := List.mem_of_mem_take hz; simp [ALL]; simp at this; rcases this with h | h <;> simp [h]
  have a3 : ∀ z ∈ ro, z ∈ ALL := fun z hz => by rw [h3] at hz; have := List.mem_of_mem_take hz; simp [ALL]; simp at this; rcases this with h | h | h <;> simp [h]
  have a4 : ∀ z ∈ mo, z ∈ ALL := fun z hz => by rw [h4] at hz; have := List.mem_of_mem_take hz; simp [ALL]; simp at this; rcases this with h | h <;> simp [h]
  have l1 : fi.length ≤ 2 := by rw [h1]; simp; omega
  have l2 : se.length ≤ 2 := by rw [h2]; simp; omega
  have l3 : ro.length ≤ 3 := by rw [h3]; simp; omega
  have l4 : mo.length ≤ 2 := by rw [h4]; simp; omega
  have n0 : N0 ∈ ALL := by decide
  have n1 : N1 ∈ ALL := by decide
  refine ⟨a1, ?_⟩
  cases hw with
  | none => exact ⟨a2, a3, a4, by omega, by omega, by omega, by omega⟩
  | one k x hx =>
    refine ⟨a2, fun z hz => ?_, a4, by omega, by omega, by simp; omega, by omega⟩
    simp at hz
    rcases hz with hz | rfl | hz
    · exact a3 z (List.mem_of_mem_take hz)
    · exact a3 _ hx
    · exact a3 z (List.mem_of_mem_drop hz)
  | two k x hx =>
    refine ⟨a2, a3, fun z hz => ?_, by omega, by omega, by omega, by simp; omega⟩
    simp at hz
    rcases hz with hz | rfl | hz
    · exact a4 z (List.mem_of_mem_take hz)
    · exact a3 _ hx
    · exact a4 z (List.mem_of_mem_drop hz)
  | three hx =>
    refine ⟨a2, a3, fun z hz => ?_, by omega, by omega, by omega, by simp; omega⟩
    simp at hz
    rcases hz with hz | rfl
    · exact a4 z hz
    · exact n0
  | four hx =>
    refine ⟨fun z hz => ?_, a3, a4, by omega, by simp; omega, by omega, by omega⟩
    simp at hz
    rcases hz with rfl | hz
    · exact n0
    · exact a2 z hz
  | five hx =>
    refine ⟨a2, fun z hz => ?_, a4, by omega, by omega, by simp; omega, by omega⟩
    simp at hz
    rcases hz with hz | rfl
    · exact a3 z hz
    · exact n1
def Old (b : Nat) (st s : Sto) : Prop := st.length ≤ s.length ∧ ∀ j, j < st.length → j ≠ b → s[j]? = st[j]?
theorem Old.sb {b : Nat} {st s u : Sto} (h : Old b st s) (S : SB b s u) : Old b st u := ⟨by rw [S.1]; exact h.1, fun j hj nb => by rw [S.2 j nb]; exact h.2 j hj nb⟩
theorem Old.app {b : Nat} {st s : Sto} (h : Old b st s) (ys : Sto) : Old b st (s ++ ys) := ⟨by have := h.1; simp; omega, fun j hj nb => by rw [List.getElem?_append_left (by have := h.1; omega)]; exact h.2 j hj nb⟩
theorem Old.set {b m : Nat} {st s : Sto} {x : Cell} (h : Old b st s) (hm : st.length ≤ m) : Old b st (s.set m x) := ⟨by simpa using h.1, fun j hj nb => by rw [List.getElem?_set_ne (by omega)]; exact h.2 j hj nb⟩
theorem rest_go {n b c3 c4 c5 a1 a2 a3 a4 : Nat} {st s : Sto} {K : Int} {w : List Nat} {fi se ro mo se' ro' mo' : List (List Nat)} {tw : Bool} {x7 : Option PV} {Q : PV → Sto → Prop} {E : Exn → Sto → Prop} (h1 : fi = FST.take a1) (h2 : se = SND.take a2) (h3 : ro = ROW.take a3) (h4 : mo = MOR.take a4)
    (hw : Way fi se ro mo se' ro' mo' tw) (B : FD s b K) (hk : K < 10000) (C : C3 s b c3 c4 c5 se' ro' mo') (O : Old b st s)
    (hq : ∀ (f : Fn) (s2 : Sto), okF f = !tw → (fnames f.2).length ≤ 900 → Plain (fnames f.2) → FD s2 b (K + 1) → Old b st s2 → Q (.tup [fnP f, .bl tw]) s2) :
    Z (restM n [some (.loc b), some (.str w), some (.lst (fi.map .str)), some (.loc c3), some (.loc c4), some (.loc c5), some (.bl tw), x7, none, none, none, none, none, none, none] s) (runQ Q E) MP.E0 := by
  obtain ⟨m1, m2, m3, m4, l1, l2, l3, l4⟩ := way_all h1 h2 h3 h4 hw
  refine rest_spec B hk C ⟨l1, l2, l3, l4⟩ (fun z hz => (all_plain z (m2 z hz)).2) fun rs1 rs2 e s2 hr1 hr2 B2 S2 => ?_
  have hN : fnames [(fi, rs1, e), (se', rs2, PV.tup [.str [103, 105, 118, 101], .tup []])] = fi ++ (rs1.map (·.1) ++ (se' ++ mo')) := by simp [fnames, hr2]
  have hr9 : R9 ∈ ALL := by decide
  refine hq (w, [(fi, rs1, e), (se', rs2, PV.tup [.str [103, 105, 118, 101], .tup []])]) s2 ?_ ?_ ?_ B2 (O.sb S2)
  · unfold okF
    rw [hN]
    have := way_nodup h1 h2 h3 h4 hw hr1
    cases tw
    · simp [this.mpr rfl]
    · have : ¬ (fi ++ (List.map (fun x => x.fst) rs1 ++ (se' ++ mo'))).Nodup := fun q => by cases this.mp q
      simp [this]
  · rw [hN]
    have : (rs1.map (·.1)).length ≤ 11 := by rcases hr1 with h | h <;> rw [h] <;> (try simp) <;> omega
    rw [List.length_append, List.length_append, List.length_append]
    omega
  · rw [hN]
    intro z hz
    refine (all_plain z ?_).1
    simp only [List.mem_append] at hz
    rcases hz with hz | hz | hz | hz
    · exact m1 z hz
    · rcases hr1 with h | h
      · rw [h] at hz; exact m3 z hz
      · rw [h] at hz
        rcases List.mem_append.mp hz with hz | hz
        · exact m3 z hz
        · rw [List.mem_singleton.mp hz]; exact hr9
    · exact m2 z hz
    · exact m4 z hz
theorem cut_take {l : List (List Nat)} {i : Int} (h0 : 0 ≤ i) : ∃ (l' : List (List Nat)) (a : Nat), l' = l.take a ∧ cutL (l.map PV.str) none (some i) = l'.map .str := by
  obtain ⟨k, rfl⟩ := Int.eq_ofNat_of_zero_le h0
  have := cut_mid (xs := l.map PV.str) (a := 0) (b := k)
  exact ⟨_, k, rfl, by rw [show cutL (l.map PV.str) none (some (k : Int)) = cutL (l.map PV.str) (some ((0 : Nat) : Int)) (some (k : Int)) from rfl, this]; simp⟩
theorem take_map {l : List (List Nat)} {k : Nat} {x : List Nat} : (l.map PV.str).take k ++ [PV.str x] ++ (l.map PV.str).drop k = (l.take k ++ [x] ++ l.drop k).map .str := by simp
theorem okRo (c : Nat) : okP (.lst ((ROW.take c).map .str)) = true := by
  have h : ∀ z ∈ ROW, ∀ c ∈ z, c < 1114112 := by decide
  have h1 : plPs ((ROW.take c).map PV.str) = true := by
    rw [plPs_iff]; intro x hx; rw [List.mem_map] at hx; obtain ⟨z, hz, rfl⟩ := hx
    have := h z (List.mem_of_mem_take hz)
    simpa [plP] using this
  have h2 : ∀ l : List (List Nat), depPs (l.map PV.str) = 0 := by
    intro l; induction l with
    | nil => rfl
    | cons c l ih => rw [List.map_cons, depPs, ih]; simp [depP]
  simp only [okP, plP, h1, depP, h2]
  rfl
theorem function_spec {n b : Nat} {st : Sto} {K : Int} {w : List Nat} {Q : PV → Sto → Prop} {E : Exn → Sto → Prop} (B : FD st b K) (hk : K < 5000)
    (hq : ∀ (f : Fn) (tw : Bool) (s2 : Sto), okF f = !tw → (fnames f.2).length ≤ 900 → Plain (fnames f.2) → FD s2 b (K + 10) → Old b st s2 → Q (.tup [fnP f, .bl tw]) s2) : Z (F__law_function n [.loc b, .str w] st) Q E := by
  rw [z__law_function, b_eq]
  simp
  refine draw_spec B fun i1 s1 i10 i11 B1 S1 => ?_
  obtain ⟨fi, a1, h1, c1⟩ := cut_take (l := FST) i10
  simp only [List.map_cons, List.map_nil] at c1
  simp [c1]
  refine draw_spec B1 fun i2 s2 i20 i21 B2 S2 => ?_
  obtain ⟨se, a2, h2, c2⟩ := cut_take (l := SND) i20
  simp only [List.map_cons, List.map_nil] at c2
  simp [Z_slN, c2]
  refine draw_spec (B2.app _) fun i3 s3 i30 i31 B3 S3 => ?_
  obtain ⟨ro, a3, h3, c3⟩ := cut_take (l := ROW) i30
  simp only [List.map_cons, List.map_nil] at c3
  simp [Z_slN, c3]
  refine draw_spec (B3.app _) fun i4 s4 i40 i41 B4 S4 => ?_
  obtain ⟨mo, a4, h4, c4⟩ := cut_take (l := MOR) i40
  simp only [List.map_cons, List.map_nil] at c4
  simp [Z_slN, c4]
  have hb := B.bl
  have e1 := S1.1
  have e2 := S2.1
  have e3 := S3.1
  have e4 := S4.1
  simp at e3 e4
  have O0 : Old b st (s4 ++ [Cell.lst (mo.map .str)]) := by
    have o0 : Old b st st := ⟨Nat.le_refl _, fun _ _ _ => rfl⟩
    exact (((((o0.sb S1).sb S2).app _).sb S3).app _ |>.sb S4).app _
  have C0 : C3 (s4 ++ [Cell.lst (mo.map .str)]) b s2.length s3.length s4.length se ro mo := by
    refine ⟨?_, ?_, ?_, by omega, by omega, by omega, by omega, by omega, by omega⟩
    · rw [List.getElem?_append_left (by omega), S4.2 _ (by omega), List.getElem?_append_left (by omega), S3.2 _ (by omega)]; simp
    · rw [List.getElem?_append_left (by omega), S4.2 _ (by omega)]; simp
    · simp
  have B5 := B4.app [Cell.lst (mo.map .str)]
  generalize s4 ++ [Cell.lst (mo.map .str)] = s5 at O0 C0 B5
  refine draw_spec B5 fun w7 s6 w0 w1 B6 S6 => ?_
  have C6 := C0.sb S6
  have O6 := O0.sb S6
  have l3 : st.length ≤ s2.length := by omega
  have l4 : st.length ≤ s3.length := by omega
  have l5 : st.length ≤ s4.length := by omega
  clear C0 O0 B5 S6 e1 e2 e3 e4 S1 S2 S3 S4 B1 B2 B3 B4
  generalize s2.length = c3' at *
  generalize s3.length = c4' at *
  generalize s4.length = c5' at *
  have r1 : fi.length ≤ 2 := by rw [h1]; simp; omega
  have r2 : se.length ≤ 2 := by rw [h2]; simp; omega
  have r3 : ro.length ≤ 3 := by rw [h3]; simp; omega
  have r4 : mo.length ≤ 2 := by rw [h4]; simp; omega
  have fin : ∀ {se' ro' mo' tw s x7} {K' : Int}, Way fi se ro mo se' ro' mo' tw → K' ≤ K + 6 → FD s b K' → C3 s b c3' c4' c5' se' ro' mo' → Old b st s → Z (restM n [some (.loc b), some (.str w), some (.lst (fi.map .str)), some (.loc c3'), some (.loc c4'), some (.loc c5'), some (.bl tw), x7, none, none, none, none, none, none, none] s) (runQ Q E) MP.E0 := fun hw hk' B C O =>
    rest_go h1 h2 h3 h4 hw B (by omega) C O fun f s2 a b c d e => hq f _ s2 a b c (d.mono (by omega)) e
  have hne : ∀ (s : Sto) (Q : PV → Sto → Prop) (E : Exn → Sto → Prop), s[c4']? = some (.lst (ro.map .str)) → Z (neM (.loc c4') (.lst []) s) Q E = Q (.bl (!decide (ro = []))) s := fun s Q E h => by
    have e : okP (.lst (ro.map .str)) = true := by rw [h3]; exact okRo _
    have hs : shal (.loc c4') s = .lst (ro.map .str) := by unfold shal; dsimp only; rw [h]
    have e2 := e
    simp [okP] at e2
    have k1 := lay_pl _ e2.1
    have k2 := e2.2
    simp [layP] at k1
    simp [depP] at k2
    rw [Z_ne (by unfold cmpOk; rw [hs]; simp [shal, layP, layPs, depP, depPs, k1, k2]), hs, show shal (.lst []) s = .lst [] from rfl, eqb_pl _ _ e2.1 (by simp [plP, plPs])]
    simp
  simp
  have hw7 : w7 = 0 ∨ w7 = 1 ∨ w7 = 2 ∨ w7 = 3 ∨ w7 = 4 ∨ w7 = 5 ∨ w7 = 6 ∨ w7 = 7 := by omega
  rcases hw7 with rfl | rfl | rfl | rfl | rfl | rfl | rfl | rfl
  · simp
    exact fin .none (by omega) B6 C6 O6
  · simp [hne _ _ _ C6.s4]
    by_cases hro : ro = []
    · simp [hro]
      simp only [hro] at fin C6
      exact fin .none (by omega) B6 C6 O6
    · obtain ⟨x, r, hxr⟩ := List.exists_cons_of_ne_nil hro
      have hlen := fun Q E => Z_lenG (QP := Q) (E := E) (seqOf_loc C6.s4)
      have hty := fun Q E => Z_tyL (QU := Q) (E := E) C6.s4
      simp only [List.length_map] at hlen
      simp [hro, hlen, hty]
      refine draw_spec B6 (fun k s7 k0 k1 B7 S7 => ?_) (by omega) (by omega) (log2_small (by omega))
      have C7 := C6.sb S7
      have hix := fun Q E => Z_ixG (i := 0) (QP := Q) (E := E) (seqOf_loc C7.s4)
      have hat : L2.atI (ro.map PV.str) 0 = some (.str x) := by rw [hxr]; simp [L2.atI, L2.ixN]
      have hins := fun Q E => Z_insert (x := .str x) (Q := Q) (E := E) C7.s4 (by simp; omega) k0 (by omega)
      rw [take_map] at hins
      simp [hix, hat, hins]
      have := fin (x7 := some (.int 1)) (.one k.toNat x (by simp [hxr])) (by omega) (B7.setN C7.n4) (C7.set4 _) ((O6.sb S7).set l4)
      simpa using this
  · simp [hne _ _ _ C6.s4]
    by_cases hro : ro = []
    · simp [hro]
      simp only [hro] at fin C6
      exact fin .none (by omega) B6 C6 O6
    · have hxr := List.dropLast_concat_getLast hro
      have hlen := fun Q E => Z_lenG (QP := Q) (E := E) (seqOf_loc C6.s5)
      have hty := fun Q E => Z_tyL (QU := Q) (E := E) C6.s5
      simp only [List.length_map] at hlen
      simp [hro, hlen, hty]
      refine draw_spec B6 (fun k s7 k0 k1 B7 S7 => ?_) (by omega) (by omega) (log2_small (by omega))
      have C7 := C6.sb S7
      have hix := fun Q E => Z_ixG (i := -1) (QP := Q) (E := E) (seqOf_loc C7.s4)
      have hat : L2.atI (ro.map PV.str) (-1) = some (.str (ro.getLast hro)) := by
        have hp := List.length_pos_iff.mpr hro
        have k1 : (1 : Int) ≤ ro.length := by omega
        have k2 : (-1 + (ro.length : Int)).toNat = ro.length - 1 := by omega
        unfold L2.atI L2.ixN
        simp [k1, k2, List.getLast_eq_getElem]
      have hins := fun Q E => Z_insert (x := .str (ro.getLast hro)) (Q := Q) (E := E) C7.s5 (by simp; omega) k0 (by omega)
      rw [take_map] at hins
      simp [hix, hat, hins]
      have := fin (x7 := some (.int 2)) (.two k.toNat (ro.getLast hro) (List.getLast_mem hro)) (by omega) (B7.setN C7.n5) (C7.set5 _) ((O6.sb S7).set l5)
      simpa using this
  · by_cases hfi : fi = []
    · simp [hfi]
      simp only [hfi, List.map_nil] at fin
      exact fin .none (by omega) B6 C6 O6
    · have hp := List.length_pos_iff.mpr hfi
      have hty := fun Q E => Z_tyL (QU := Q) (E := E) C6.s5
      have happ := fun Q E => Z_append (x := PV.str [110, 48]) (QP := Q) (E := E) C6.s5 (by simp; omega)
      have hz : fi.length ≤ 16777216 := by omega
      have hm : N0 ∈ fi := by rw [h1] at hfi ⊢; cases a1 <;> simp at hfi ⊢
      rw [show mo.map PV.str ++ [PV.str [110, 48]] = (mo ++ [N0]).map .str by simp] at happ
      simp [hp, hty, happ]
      have := fin (x7 := some (.int 3)) (.three hm) (by omega) (B6.setN C6.n5) (C6.set5 _) (O6.set l5)
      simpa using this
  · by_cases hfi : fi = []
    · simp [hfi]
      simp only [hfi, List.map_nil] at fin
      exact fin .none (by omega) B6 C6 O6
    · have hp := List.length_pos_iff.mpr hfi
      have hty := fun Q E => Z_tyL (QU := Q) (E := E) C6.s3
      have hins := fun Q E => Z_insert (x := .str [110, 48]) (i := 0) (Q := Q) (E := E) C6.s3 (by simp; omega) (by omega) (by omega)
      have hm : N0 ∈ fi := by rw [h1] at hfi ⊢; cases a1 <;> simp at hfi ⊢
      rw [show List.take (Int.toNat 0) (se.map PV.str) ++ [PV.str [110, 48]] ++ List.drop (Int.toNat 0) (se.map PV.str) = (N0 :: se).map .str by simp] at hins
      simp [hp, hty, hins]
      have := fin (x7 := some (.int 4)) (.four hm) (by omega) (B6.setN C6.n3) (C6.set3 _) (O6.set l3)
      simpa using this
  · have hlen := fun Q E => Z_lenG (QP := Q) (E := E) (seqOf_loc C6.s3)
    simp only [List.length_map] at hlen
    by_cases hse : se = []
    · simp [hse, hlen]
      simp only [hse, List.map_nil] at fin C6
      exact fin .none (by omega) B6 C6 O6
    · have hp := List.length_pos_iff.mpr hse
      have hty := fun Q E => Z_tyL (QU := Q) (E := E) C6.s4
      have happ := fun Q E => Z_append (x := PV.str [110, 49]) (QP := Q) (E := E) C6.s4 (by simp; omega)
      have hm : N1 ∈ se := by rw [h2] at hse ⊢; cases a2 <;> simp at hse ⊢
      rw [show ro.map PV.str ++ [PV.str [110, 49]] = (ro ++ [N1]).map .str by simp] at happ
      simp [hlen, hp, hty, happ]
      have := fin (x7 := some (.int 5)) (.five hm) (by omega) (B6.setN C6.n4) (C6.set4 _) (O6.set l4)
      simpa using this
  · simp
    exact fin .none (by omega) B6 C6 O6
  · simp
    exact fin .none (by omega) B6 C6 O6
theorem L0_spec {n b c k : Nat} {st : Sto} {K : Int} {x0 x5 x6 x7 : Option PV} {fs : List Fn} {due : Bool} {QF : Fl → Sto → Prop} {E : Exn → Sto → Prop} (hk : k < 3) (B : FD st b K) (hK : K < 1000) (hc : st[c]? = some (.lst (fs.map fnP))) (hcb : c ≠ b) (hl : fs.length ≤ 5) (hd : due = fs.all okF) (hf : ∀ f ∈ fs, (fnames f.2).length ≤ 900 ∧ Plain (fnames f.2))
    (hq : ∀ x5 x6 x7 f s, FD s b (K + 10) → s[c]? = some (.lst ((fs ++ [f]).map fnP)) → (fnames f.2).length ≤ 900 → Plain (fnames f.2) → QF (.next [x0, some (.loc b), some (.loc c), some (.bl ((fs ++ [f]).all okF)), some (.int k), x5, x6, x7]) s) :
    Z (L0_law n [x0, some (.loc b), some (.loc c), some (.bl due), some (.int k), x5, x6, x7] st) QF E := by
  rw [zL0_law]
  obtain ⟨x, hx, w, rfl⟩ := atI_all (P := fun x => ∃ z, x = .str z) (xs := [PV.str [97], PV.str [98], PV.str [99]]) (i := (k : Int)) (by omega) (by simp; omega) (by simp)
  simp [hx]
  refine function_spec B (by omega) fun f tw s ho h1 h2 B1 O1 => ?_
  have hs : s[c]? = some (.lst (fs.map fnP)) := by rw [O1.2 c (getN hc) hcb]; exact hc
  have hcl := getN hs
  have hfl : fs.length < 16777216 := by omega
  have happ := fun Q E => Z_append (x := fnP f) (QP := Q) (E := E) hs (by simp; omega)
  rw [show fs.map fnP ++ [fnP f] = (fs ++ [f]).map fnP by simp] at happ
  have hty := fun Q E => Z_tyL (QU := Q) (E := E) hs
  have hs2 : (s.set c (.lst ((fs ++ [f]).map fnP)))[c]? = some (.lst ((fs ++ [f]).map fnP)) := List.getElem?_set_self hcl
  have htu := fun Q E => Z_tupleM (QP := Q) (E := E) (seqOf_loc hs2)
  have B2 := B1.setN (x := .lst ((fs ++ [f]).map fnP)) hcb
  generalize s.set c (.lst ((fs ++ [f]).map fnP)) = s3 at *
  have he : (fs ++ [f]).all okF = (due && !tw) := by rw [List.all_append, hd]; simp [ho]
  have hon := fun Q E (hq : Q (.bl ((fs ++ [f]).all okF)) s3) => z_once (n := n) (st := s3) (fs := fs ++ [f]) (Q := Q) (E := E) (fun g hg => by
    rcases List.mem_append.mp hg with hg | hg
    · exact hf g hg
    · rw [List.mem_singleton.mp hg]; exact ⟨h1, h2⟩) hq
  have hnb : ∀ (k : Bool) (Q : PV → Sto → Prop) (E : Exn → Sto → Prop), Z (neM (.bl k) (.bl k) s3) Q E = Q (.bl false) s3 := fun k Q E => by rw [Z_ne (by cases k <;> rfl)]; cases k <;> rfl
  simp only [List.map_append, List.map_cons, List.map_nil] at hon
  cases due
  · simp [hty, happ, htu]
    refine hon _ _ ?_
    rw [he]
    simp [hnb]
    have := hq (some (fnP f)) (some (.bl tw)) (some (.bl ((fs ++ [f]).all okF))) f s3 B2 hs2 h1 h2
    rw [he] at this
    simpa using this
  · simp [hty, happ, htu]
    refine hon _ _ ?_
    rw [he]
    simp [hnb]
    have := hq (some (fnP f)) (some (.bl tw)) (some (.bl ((fs ++ [f]).all okF))) f s3 B2 hs2 h1 h2
    rw [he] at this
    simpa using this
theorem law_spec {n : Nat} {ns : List Int} : Z (F_law n [.frz (ns.map .int)] []) (fun v _ => v = .bl true) E0 := by
  rw [z_law]; unfold b_law
  simp
  refine feed_spec fun s B hs => ?_
  simp
  have hcb : s.length ≠ 0 := by omega
  refine draw_spec (B.app [.lst []]) fun i s1 i0 i1 B1 S1 => ?_
  have hc : s1[s.length]? = some (.lst (([] : List Fn).map fnP)) := by rw [S1.2 _ hcb]; simp
  obtain ⟨m, hm⟩ := Int.eq_ofNat_of_zero_le (show 0 ≤ 1 + i by omega)
  simp [hm]
  rw [Z_rangeN (by omega)]
  simp
  generalize s.length = c at *
  refine for_inv (fun ps ρ s => (∀ p ∈ ps, ∃ j : Nat, j < 3 ∧ p = .int j) ∧ ∃ (x4 x5 x6 x7 : Option PV) (fs : List Fn), ρ = [some (.frz (ns.map .int)), some (.loc 0), some (.loc c), some (.bl (fs.all okF)), x4, x5, x6, x7] ∧ fs.length + ps.length ≤ 3 ∧ FD s 0 (1 + 10 * fs.length) ∧ s[c]? = some (.lst (fs.map fnP)) ∧ ∀ f ∈ fs, (fnames f.2).length ≤ 900 ∧ Plain (fnames f.2)) _ _ _ ⟨?_, _, _, _, _, [], rfl, by simp; omega, B1.mono (by simp), hc, by simp⟩ ?_ ?_
  · intro p hp; simp at hp; obtain ⟨j, hj, rfl⟩ := hp; exact ⟨j, by omega, rfl⟩
  · rintro p ps ρ s ⟨hp, x4, x5, x6, x7, fs, rfl, hl, B2, hc2, hf⟩
    obtain ⟨j, hj, rfl⟩ := hp p (by simp)
    simp at hl
    rw [Z_gN]
    refine L0_spec hj B2 (by omega) hc2 hcb (by omega) rfl hf fun x5 x6 x7 f s2 B3 hc3 h1 h2 => .inl ⟨_, .inl rfl, fun p hp' => hp p (by simp [hp']), _, _, _, _, fs ++ [f], rfl, by simp; omega, B3.mono (by simp; omega), hc3, fun g hg => ?_⟩
    rcases List.mem_append.mp hg with hg | hg
    · exact hf g hg
    · rw [List.mem_singleton.mp hg]; exact ⟨h1, h2⟩
  · rintro ρ s ⟨hp, x4, x5, x6, x7, fs, rfl, hl, B2, hc2, hf⟩
    simp
theorem pure_law (ns : List Int) (_ : ns.length ≤ 63) : ∃ n st, F_law n [.frz (ns.map .int)] [] = .ok (.bl true) st := by
  have h := law_spec (n := 0) (ns := ns)
  cases q : F_law 0 [.frz (ns.map .int)] [] with
  | ok v st => rw [q] at h; exact ⟨0, st, by rw [q]; rw [show v = .bl true from h]⟩
  | err x st => rw [q] at h; exact h.elim
  | bad => rw [q] at h; exact h.elim
end K29

set_option maxRecDepth 100000
open PySem PySem.W PyProof.Rows
set_option maxRecDepth 100000 in
set_option maxHeartbeats 0 in
theorem PySem.Challenge.cw_samepaper_k29_is_once_holds : PySem.Challenge.rw_samepaper_k29_is_once.Holds := by
  w_on; o_law; k_head; (case hw => w_witness2)
  k_fill
  refine K29.walk (l := PySem.Challenge.rw_samepaper_k29_is_once) rfl rfl (fun w h Y => PySem.W.kIn_of Y) K29.pure_law ?F
  case F =>
    intro w mg fa h KX G hmg
    refine' K29.all_mk KX G hmg ?a_row_gives ?l_row_gives ?c_row_gives ?k_row_gives ?a_is_once ?l_is_once ?c_is_once ?k_is_once ?a__law_feed ?l__law_feed ?c__law_feed ?k__law_feed ?a__law_draw ?l__law_draw ?c__law_draw ?k__law_draw ?a__law_function ?l__law_function ?c__law_function ?k__law_function ?a_law ?l_law ?c_law ?k_law ?z_list ?z_len ?z_set ?z_tuple ?z_enumerate ?z_int ?z_range ?z_isinstance ?z_bool
    (case a_row_gives => k_is)
    (case l_row_gives => k_is)
    (case c_row_gives => k_is)
    (case k_row_gives => k_is)
    (case a_is_once => k_is)
    (case l_is_once => k_is)
    (case c_is_once => k_is)
    (case k_is_once => k_is)
    (case a__law_feed => k_is)
    (case l__law_feed => k_is)
    (case c__law_feed => k_is)
    (case k__law_feed => k_is)
    (case a__law_draw => k_is)
    (case l__law_draw => k_is)
    (case c__law_draw => k_is)
    (case k__law_draw => k_is)
    (case a__law_function => k_is)
    (case l__law_function => k_is)
    (case c__law_function => k_is)
    (case k__law_function => k_is)
    (case a_law => k_is)
    (case l_law => k_is)
    (case c_law => k_is)
    (case k_law => k_is)
    (case z_list => k_is)
    (case z_len => k_is)
    (case z_set => k_is)
    (case z_tuple => k_is)
    (case z_enumerate => k_is)
    (case z_int => k_is)
    (case z_range => k_is)
    (case z_isinstance => k_is)
    (case z_bool => k_is)
