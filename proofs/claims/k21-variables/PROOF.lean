import PyProof.Rows.All
import Wide.All
import OpenK.AllK
import Wide.FinOn
import HandS.ForMost
import HandS.ForExc
import HandS.CallSlots
import HandS.Wide
import HandS.Flow
import HandS.TupAny
import HandS.TupMul
import HandS.IsInst
import HandS.EndBits
import HandS.Zip
import PyProof.ListMulRoad
import PyProof.FactsAll.tuple_2
import PyProof.EqAt
import PyProof.NeKinds
import HandS.Text
import HandS.Codes
import HandS.More
import HandS.Replace
import HandS.RaiseMore
import KE.GoesZip
import PyProof.Rows.SetFrom
import HandS.SetKeys
import PySem.Challenge.RW_samepaper_k21_variables
set_option Elab.async false
set_option linter.all false
set_option maxRecDepth 100000
namespace MP
open PySem L2

inductive PV where
  | non
  | bl (b : Bool)
  | int (i : Int)
  | str (x : List Nat)
  | ty (n : String)
  | gl (a : Addr)
  | tup (xs : List PV)
  | lst (xs : List PV)
  | frz (xs : List PV)
  | loc (n : Nat)
mutual
def PV.beq : PV → PV → Bool
  | .non, .non => true
  | .bl a, .bl b => a == b
  | .int a, .int b => a == b
  | .str a, .str b => a == b
  | .ty a, .ty b => a == b
  | .gl a, .gl b => a == b
  | .tup a, .tup b => PV.beqs a b
  | .lst a, .lst b => PV.beqs a b
  | .frz a, .frz b => PV.beqs a b
  | .loc a, .loc b => a == b
  | _, _ => false
def PV.beqs : List PV → List PV → Bool
  | [], [] => true
  | a :: r, b :: t => PV.beq a b && PV.beqs r t
  | _, _ => false
end
mutual
theorem PV.beq_iff : ∀ (a b : PV), PV.beq a b = true ↔ a = b
  | .non, b => by cases b <;> simp [PV.beq]
  | .bl x, b => by cases b <;> simp [PV.beq]
  | .int x, b => by cases b <;> simp [PV.beq]
  | .str x, b => by cases b <;> simp [PV.beq]
  | .ty x, b => by cases b <;> simp [PV.beq]
  | .gl x, b => by cases b <;> simp [PV.beq]
  | .tup x, b => by cases b <;> simp [PV.beq, PV.beqs_iff x]
  | .lst x, b => by cases b <;> simp [PV.beq, PV.beqs_iff x]
  | .frz x, b => by cases b <;> simp [PV.beq, PV.beqs_iff x]
  | .loc x, b => by cases b <;> simp [PV.beq]
theorem PV.beqs_iff : ∀ (a b : List PV), PV.beqs a b = true ↔ a = b
  | [], b => by cases b <;> simp [PV.beqs]
  | x :: r, b => by
    cases b with
    | nil => simp [PV.beqs]
    | cons y t => simp [PV.beqs, PV.beq_iff x y, PV.beqs_iff r t]
end
instance : DecidableEq PV := fun a b => decidable_of_iff (PV.beq a b = true) (PV.beq_iff a b)
instance : Inhabited PV := ⟨.non⟩

inductive Cell where
  | lst (xs : List PV)
  | dct (kvs : List (PV × PV))
  | ins (C : String) (fs : List (String × PV))
abbrev Sto := List Cell
structure Exn where
  C : String
  fs : List (String × PV)
inductive Res (α : Type) where
  | ok (a : α) (st : Sto)
  | err (x : Exn) (st : Sto)
  | bad
abbrev M (α : Type) : Type := Sto → Res α
namespace M
variable {α β : Type}
def ret (a : α) : M α := fun st => .ok a st
def bind (m : M α) (f : α → M β) : M β := fun st => match m st with
  | .ok a st' => f a st'
  | .err x st' => .err x st'
  | .bad => .bad
def fail : M α := fun _ => .bad
def calm (m : M α) : M α := fun st => match m st with
  | .err _ _ => .bad
  | r => r
end M
theorem M.bind_ok {α β : Type} {m : M α} {f : α → M β} {st st' : Sto} {a : α} (h : m st = .ok a st') : M.bind m f st = f a st' := by
  unfold M.bind
  rw [h]
abbrev Rho := List (Option PV)
inductive Fl where
  | next (ρ : Rho)
  | ret (v : PV)
  | brk (ρ : Rho)
  | cont (ρ : Rho)
  | exc (x : Exn) (ρ : Rho)

structure Mu where
  l : List Addr
  b : List Addr
instance : Membership Addr Mu := ⟨fun μ a => a ∈ μ.l ∨ a ∈ μ.b⟩
theorem Mu.mem {μ : Mu} {a : Addr} : a ∈ μ ↔ a ∈ μ.l ∨ a ∈ μ.b := Iff.rfl
def Mu.add (μ : Mu) (p : Addr) : Mu := ⟨μ.l ++ [p], μ.b⟩
def KT (K : PySem.W.Frag) (a : Addr) (xs : List V) : Prop :=
  ∃ (o : Obj) (its : Array Value) (n : Nat), K.lookup a = some o ∧ o.cls = .type "tuple" ∧ o.data = .seq its n ∧ its.size ≤ sizeLine ∧ Vals xs its.toList
def KL (K : PySem.W.Frag) (a : Addr) (xs : List V) : Prop :=
  ∃ (o : Obj) (its : Array Value) (n : Nat), K.lookup a = some o ∧ o.cls = .type "list" ∧ o.dict = none ∧ o.data = .seq its n ∧ its.size ≤ sizeLine ∧ Vals xs its.toList
def TupAt (K : PySem.W.Frag) (H : Hp) (μ : Mu) (a : Addr) (vs : List V) : Prop := (H a = some (.tup vs) ∧ a ∉ μ) ∨ KT K a vs
def LstAt (H : Hp) (μ : Mu) (a : Addr) (vs : List V) : Prop := H a = some (.lst vs) ∧ a ∉ μ
def FrzAt (K : PySem.W.Frag) (H : Hp) (μ : Mu) (a : Addr) (vs : List V) : Prop := (Rd H a (.lst vs) ∧ a ∉ μ) ∨ KL K a vs
theorem TupAt.sq {K : PySem.W.Frag} {H : Hp} {μ : Mu} {a : Addr} {vs : List V} (h : TupAt K H μ a vs) : SqT K H a vs := by
  rcases h with ⟨h, _⟩ | h
  · exact .inl (.inl h)
  · exact .inr h
theorem LstAt.sq {K : PySem.W.Frag} {H : Hp} {μ : Mu} {a : Addr} {vs : List V} (h : LstAt H μ a vs) : SqL K H a vs := .inl (.inl h.1)
theorem FrzAt.sq {K : PySem.W.Frag} {H : Hp} {μ : Mu} {a : Addr} {vs : List V} (h : FrzAt K H μ a vs) : SqL K H a vs := by
  rcases h with ⟨h, _⟩ | h
  · exact .inl h
  · exact .inr h
mutual
def VR (K : PySem.W.Frag) (H : Hp) (μ : Mu) : PV → V → Prop
  | .non, v => v = .non
  | .bl b, v => v = .bl b
  | .int i, v => v = .int i
  | .str x, v => v = .str ⟨x.toArray⟩
  | .ty n, v => v = .ty n
  | .gl a, v => v = .ref a
  | .tup ps, v => ∃ a vs, v = .ref a ∧ TupAt K H μ a vs ∧ VRs K H μ ps vs
  | .lst ps, v => ∃ a vs, v = .ref a ∧ LstAt H μ a vs ∧ VRs K H μ ps vs
  | .frz ps, v => ∃ a vs, v = .ref a ∧ FrzAt K H μ a vs ∧ VRs K H μ ps vs
  | .loc n, v => ∃ a, v = .ref a ∧ μ.l[n]? = some a
def VRs (K : PySem.W.Frag) (H : Hp) (μ : Mu) : List PV → List V → Prop
  | [], vs => vs = []
  | p :: ps, vs => ∃ v r, vs = v :: r ∧ VR K H μ p v ∧ VRs K H μ ps r
end
structure Gr (μ : Mu) (H : Hp) (μ' : Mu) (H' : Hp) : Prop where
  pre : ∃ t, μ'.l = μ.l ++ t
  ban : ∀ a, a ∈ μ.b → a ∈ μ'.b
  bnew : ∀ a, a ∈ μ'.b → a ∈ μ.b ∨ H a = none
  new : ∀ a, a ∈ μ'.l → a ∈ μ.l ∨ H a = none
  keep : ∀ a o, H a = some o → a ∉ μ.l → H' a = some o
theorem Gr.refl (μ : Mu) (H : Hp) : Gr μ H μ H := ⟨⟨[], by simp⟩, fun _ h => h, fun _ h => .inl h, fun _ h => .inl h, fun _ _ h _ => h⟩
theorem Gr.outl {μ μ' : Mu} {H H' : Hp} (g : Gr μ H μ' H') {a : Addr} {o : HO} (h : H a = some o) (n : a ∉ μ.l) : a ∉ μ'.l := fun m => by
  rcases g.new a m with z | z
  · exact n z
  · rw [h] at z; cases z
theorem Gr.out {μ μ' : Mu} {H H' : Hp} (g : Gr μ H μ' H') {a : Addr} {o : HO} (h : H a = some o) (n : a ∉ μ) : a ∉ μ' := fun m => by
  rcases m with m | m
  · exact g.outl h (fun z => n (.inl z)) m
  · rcases g.bnew a m with z | z
    · exact n (.inr z)
    · rw [h] at z; cases z
theorem Gr.back {μ μ' : Mu} {H H' : Hp} (g : Gr μ H μ' H') {a : Addr} (h : H' a = none) : a ∈ μ.l ∨ H a = none := by
  cases q : H a with
  | none => exact .inr rfl
  | some o =>
    by_cases n : a ∈ μ.l
    · exact .inl n
    · rw [g.keep a o q n] at h; cases h
theorem Gr.trans {μ μ1 μ2 : Mu} {H H1 H2 : Hp} (g : Gr μ H μ1 H1) (g' : Gr μ1 H1 μ2 H2) (hb : ∀ a, a ∈ μ2.b → a ∉ μ2.l) : Gr μ H μ2 H2 := by
  have sub : ∀ a, a ∈ μ.l → a ∈ μ2.l := fun a m => by
    obtain ⟨t, e⟩ := g.pre
    obtain ⟨u, e'⟩ := g'.pre
    rw [e', e]
    exact List.mem_append_left _ (List.mem_append_left _ m)
  refine ⟨?_, fun a m => g'.ban a (g.ban a m), fun a m => ?_, fun a m => ?_, fun a o h n => g'.keep a o (g.keep a o h n) (g.outl h n)⟩
  · obtain ⟨t, e⟩ := g.pre
    obtain ⟨u, e'⟩ := g'.pre
    exact ⟨t ++ u, by rw [e', e, List.append_assoc]⟩
  · rcases g'.bnew a m with z | z
    · exact g.bnew a z
    · rcases g.back z with z | z
      · exact absurd (sub a z) (hb a m)
      · exact .inr z
  · rcases g'.new a m with z | z
    · exact g.new a z
    · exact g.back z
theorem Gr.get {μ μ' : Mu} {H H' : Hp} (g : Gr μ H μ' H') {n : Nat} {a : Addr} (h : μ.l[n]? = some a) : μ'.l[n]? = some a := by
  obtain ⟨t, e⟩ := g.pre
  rw [e]
  exact (List.getElem?_append_left (List.getElem?_eq_some_iff.mp h).1).trans h
def seqO : HO → Bool
  | .tup _ => true
  | .lst _ => true
  | .frz _ _ => true
  | _ => false
structure Gv (μ : Mu) (H : Hp) (μ' : Mu) (H' : Hp) : Prop where
  pre : ∃ t, μ'.l = μ.l ++ t
  keep : ∀ a o, H a = some o → seqO o = true → a ∉ μ → H' a = some o ∧ a ∉ μ'
theorem Gr.v {μ μ' : Mu} {H H' : Hp} (g : Gr μ H μ' H') : Gv μ H μ' H' := ⟨g.pre, fun a o h _ n => ⟨g.keep a o h (fun z => n (.inl z)), g.out h n⟩⟩
theorem Gv.get {μ μ' : Mu} {H H' : Hp} (g : Gv μ H μ' H') {n : Nat} {a : Addr} (h : μ.l[n]? = some a) : μ'.l[n]? = some a := by
  obtain ⟨t, e⟩ := g.pre
  rw [e]
  exact (List.getElem?_append_left (List.getElem?_eq_some_iff.mp h).1).trans h
mutual
theorem VR.monov {K : PySem.W.Frag} {H H' : Hp} {μ μ' : Mu} (g : Gv μ H μ' H') : ∀ (p : PV) (v : V), VR K H μ p v → VR K H' μ' p v
  | .non, _, h => h
  | .bl _, _, h => h
  | .int _, _, h => h
  | .str _, _, h => h
  | .ty _, _, h => h
  | .gl _, _, h => h
  | .tup ps, v, h => by
    obtain ⟨a, vs, e, t, r⟩ := (show ∃ a vs, v = .ref a ∧ TupAt K H μ a vs ∧ VRs K H μ ps vs from h)
    refine (show ∃ a vs, v = .ref a ∧ TupAt K H' μ' a vs ∧ VRs K H' μ' ps vs from ⟨a, vs, e, ?_, VRs.monov g ps vs r⟩)
    rcases t with ⟨t, n⟩ | t
    · exact .inl (g.keep a _ t rfl n)
    · exact .inr t
  | .lst ps, v, h => by
    obtain ⟨a, vs, e, t, r⟩ := (show ∃ a vs, v = .ref a ∧ LstAt H μ a vs ∧ VRs K H μ ps vs from h)
    exact (show ∃ a vs, v = .ref a ∧ LstAt H' μ' a vs ∧ VRs K H' μ' ps vs from ⟨a, vs, e, g.keep a _ t.1 rfl t.2, VRs.monov g ps vs r⟩)
  | .frz ps, v, h => by
    obtain ⟨a, vs, e, t, r⟩ := (show ∃ a vs, v = .ref a ∧ FrzAt K H μ a vs ∧ VRs K H μ ps vs from h)
    refine (show ∃ a vs, v = .ref a ∧ FrzAt K H' μ' a vs ∧ VRs K H' μ' ps vs from ⟨a, vs, e, ?_, VRs.monov g ps vs r⟩)
    rcases t with ⟨t | ⟨o, t⟩, n⟩ | t
    · exact .inl ⟨.inl (g.keep a _ t rfl n).1, (g.keep a _ t rfl n).2⟩
    · exact .inl ⟨.inr ⟨o, (g.keep a _ t rfl n).1⟩, (g.keep a _ t rfl n).2⟩
    · exact .inr t
  | .loc n, v, h => by
    obtain ⟨a, e, t⟩ := (show ∃ a, v = .ref a ∧ μ.l[n]? = some a from h)
    exact (show ∃ a, v = .ref a ∧ μ'.l[n]? = some a from ⟨a, e, g.get t⟩)
theorem VRs.monov {K : PySem.W.Frag} {H H' : Hp} {μ μ' : Mu} (g : Gv μ H μ' H') : ∀ (ps : List PV) (vs : List V), VRs K H μ ps vs → VRs K H' μ' ps vs
  | [], _, h => h
  | p :: ps, vs, h => by
    obtain ⟨v, r, e, h1, h2⟩ := (show ∃ v r, vs = v :: r ∧ VR K H μ p v ∧ VRs K H μ ps r from h)
    exact (show ∃ v r, vs = v :: r ∧ VR K H' μ' p v ∧ VRs K H' μ' ps r from ⟨v, r, e, VR.monov g p v h1, VRs.monov g ps r h2⟩)
end
theorem VR.mono {K : PySem.W.Frag} {H H' : Hp} {μ μ' : Mu} (g : Gr μ H μ' H') (p : PV) (v : V) (h : VR K H μ p v) : VR K H' μ' p v := VR.monov g.v p v h
theorem VRs.mono {K : PySem.W.Frag} {H H' : Hp} {μ μ' : Mu} (g : Gr μ H μ' H') (p : List PV) (v : List V) (h : VRs K H μ p v) : VRs K H' μ' p v := VRs.monov g.v p v h
section
variable {K : PySem.W.Frag} {H : Hp} {μ : Mu}
theorem VRs.length : ∀ {ps : List PV} {vs : List V}, VRs K H μ ps vs → ps.length = vs.length
  | [], vs, h => by have e : vs = [] := h; rw [e]; rfl
  | p :: ps, vs, h => by
    obtain ⟨v, r, e, _, h2⟩ := (show ∃ v r, vs = v :: r ∧ VR K H μ p v ∧ VRs K H μ ps r from h)
    rw [e, List.length_cons, List.length_cons, VRs.length h2]
theorem VRs.cons {p : PV} {ps : List PV} {v : V} {vs : List V} (h : VR K H μ p v) (t : VRs K H μ ps vs) : VRs K H μ (p :: ps) (v :: vs) :=
  (show ∃ w r, v :: vs = w :: r ∧ VR K H μ p w ∧ VRs K H μ ps r from ⟨v, vs, rfl, h, t⟩)
theorem VRs.nil : VRs K H μ [] [] := rfl
theorem VRs.append : ∀ {ps qs : List PV} {vs ws : List V}, VRs K H μ ps vs → VRs K H μ qs ws → VRs K H μ (ps ++ qs) (vs ++ ws)
  | [], _, vs, _, h, t => by have e : vs = [] := h; rw [e]; exact t
  | p :: ps, qs, vs, ws, h, t => by
    obtain ⟨v, r, e, h1, h2⟩ := (show ∃ v r, vs = v :: r ∧ VR K H μ p v ∧ VRs K H μ ps r from h)
    rw [e]
    exact VRs.cons h1 (VRs.append h2 t)
theorem VRs.get : ∀ {ps : List PV} {vs : List V} {i : Nat} {p : PV}, VRs K H μ ps vs → ps[i]? = some p → ∃ v, vs[i]? = some v ∧ VR K H μ p v
  | [], _, _, _, _, e => by simp at e
  | q :: ps, vs, 0, p, h, e => by
    obtain ⟨v, r, ev, h1, _⟩ := (show ∃ v r, vs = v :: r ∧ VR K H μ q v ∧ VRs K H μ ps r from h)
    simp at e
    subst e
    exact ⟨v, by rw [ev]; rfl, h1⟩
  | q :: ps, vs, i + 1, p, h, e => by
    obtain ⟨v, r, ev, _, h2⟩ := (show ∃ v r, vs = v :: r ∧ VR K H μ q v ∧ VRs K H μ ps r from h)
    obtain ⟨w, e1, e2⟩ := VRs.get (i := i) (p := p) h2 (by simpa using e)
    exact ⟨w, by rw [ev]; simpa using e1, e2⟩
theorem VRs.set {p : PV} {v : V} (r : VR K H μ p v) : ∀ {ps : List PV} {vs : List V} (i : Nat), VRs K H μ ps vs → VRs K H μ (ps.set i p) (vs.set i v)
  | [], vs, _, h => by have e : vs = [] := h; rw [e]; exact rfl
  | q :: ps, vs, 0, h => by
    obtain ⟨w, t, ev, _, h2⟩ := (show ∃ v r, vs = v :: r ∧ VR K H μ q v ∧ VRs K H μ ps r from h)
    rw [ev]
    exact VRs.cons r h2
  | q :: ps, vs, i + 1, h => by
    obtain ⟨w, t, ev, h1, h2⟩ := (show ∃ v r, vs = v :: r ∧ VR K H μ q v ∧ VRs K H μ ps r from h)
    rw [ev]
    exact VRs.cons h1 (VRs.set r i h2)
theorem VRs.take : ∀ {ps : List PV} {vs : List V} (n : Nat), VRs K H μ ps vs → VRs K H μ (ps.take n) (vs.take n)
  | _, _, 0, _ => rfl
  | [], vs, n + 1, h => by have e : vs = [] := h; rw [e]; exact rfl
  | q :: ps, vs, n + 1, h => by
    obtain ⟨w, t, ev, h1, h2⟩ := (show ∃ v r, vs = v :: r ∧ VR K H μ q v ∧ VRs K H μ ps r from h)
    rw [ev]
    exact VRs.cons h1 (VRs.take n h2)
theorem VRs.drop : ∀ {ps : List PV} {vs : List V} (n : Nat), VRs K H μ ps vs → VRs K H μ (ps.drop n) (vs.drop n)
  | _, _, 0, h => h
  | [], vs, n + 1, h => by have e : vs = [] := h; rw [e]; exact rfl
  | q :: ps, vs, n + 1, h => by
    obtain ⟨w, t, ev, h1, h2⟩ := (show ∃ v r, vs = v :: r ∧ VR K H μ q v ∧ VRs K H μ ps r from h)
    rw [ev]
    exact VRs.drop n h2
theorem VRs.nil_iff {ps : List PV} {vs : List V} (h : VRs K H μ ps vs) : vs = [] ↔ ps = [] := by
  have e := VRs.length h
  constructor
  · intro z; rw [z] at e; exact List.eq_nil_of_length_eq_zero e
  · intro z; rw [z] at e; exact List.eq_nil_of_length_eq_zero e.symm
theorem VRs.ints : ∀ {ns : List Int}, VRs K H μ (ns.map PV.int) (ns.map V.int)
  | [] => rfl
  | n :: ns => VRs.cons rfl (VRs.ints (ns := ns))
end

def keyOf : PV → Option Key
  | .int i => some (.inl i)
  | .str x => some (.inr ⟨x.toArray⟩)
  | _ => none
theorem keyOf_inj {p q : PV} {k : Key} (h : keyOf p = some k) (h' : keyOf q = some k) : p = q := by
  cases p <;> cases q <;> simp [keyOf] at h h' <;> subst h <;> simp_all
def KRs (K : PySem.W.Frag) (H : Hp) (μ : Mu) : List (PV × PV) → List (Key × V) → Prop
  | [], kv => kv = []
  | p :: r, kv => ∃ k v t, kv = (k, v) :: t ∧ keyOf p.1 = some k ∧ VR K H μ p.2 v ∧ KRs K H μ r t
def ClsIn (K : PySem.W.Frag) (c : String) (C : Addr) : Prop := PySem.W.nsIn K mainGlobals (Str.ofString c) = some (some (.ref C))
theorem ClsIn.one {K : PySem.W.Frag} {c : String} {C C' : Addr} (h : ClsIn K c C) (h' : ClsIn K c C') : C = C' := by
  have e := h.symm.trans h'
  injection e with e; injection e with e; injection e
def FRs (K : PySem.W.Frag) (H : Hp) (μ : Mu) : List (String × PV) → List (Str × V) → Prop
  | [], fv => fv = []
  | p :: r, fv => ∃ v t, fv = (Str.ofString p.1, v) :: t ∧ VR K H μ p.2 v ∧ FRs K H μ r t
def CR (K : PySem.W.Frag) (H : Hp) (μ : Mu) (a : Addr) : Cell → Prop
  | .lst xs => ∃ vs, H a = some (.lst vs) ∧ VRs K H μ xs vs
  | .dct kvs => ∃ kv, H a = some (.dK kv) ∧ KRs K H μ kvs kv
  | .ins c fs => ∃ C dx fv, ClsIn K c C ∧ H a = some (.ins C dx fv) ∧ FRs K H μ fs fv
structure SR (K : PySem.W.Frag) (μ : Mu) (st : Sto) (H : Hp) : Prop where
  len : μ.l.length = st.length
  nd : μ.l.Nodup
  ban : ∀ a, a ∈ μ.b → a ∉ μ.l ∧ ∃ o, H a = some o
  cell : ∀ (n : Nat) (c : Cell) (a : Addr), st[n]? = some c → μ.l[n]? = some a → CR K H μ a c
theorem KRs.mono {K : PySem.W.Frag} {H H' : Hp} {μ μ' : Mu} (g : Gv μ H μ' H') : ∀ (ps : List (PV × PV)) (kv : List (Key × V)), KRs K H μ ps kv → KRs K H' μ' ps kv
  | [], _, h => h
  | p :: ps, kv, h => by
    obtain ⟨k, v, t, e, hk, h1, h2⟩ := h
    exact ⟨k, v, t, e, hk, VR.monov g _ _ h1, KRs.mono g ps t h2⟩
theorem FRs.mono {K : PySem.W.Frag} {H H' : Hp} {μ μ' : Mu} (g : Gv μ H μ' H') : ∀ (ps : List (String × PV)) (fv : List (Str × V)), FRs K H μ ps fv → FRs K H' μ' ps fv
  | [], _, h => h
  | p :: ps, fv, h => by
    obtain ⟨v, t, e, h1, h2⟩ := h
    exact ⟨v, t, e, VR.monov g _ _ h1, FRs.mono g ps t h2⟩
theorem CR.monov {K : PySem.W.Frag} {H H' : Hp} {μ μ' : Mu} (g : Gv μ H μ' H') {a : Addr} (ha : H' a = H a) : ∀ {c : Cell}, CR K H μ a c → CR K H' μ' a c
  | .lst xs, h => by
    obtain ⟨vs, e, r⟩ := h
    exact ⟨vs, by rw [ha]; exact e, VRs.monov g _ _ r⟩
  | .dct kvs, h => by
    obtain ⟨kv, e, r⟩ := h
    exact ⟨kv, by rw [ha]; exact e, KRs.mono g _ _ r⟩
  | .ins c fs, h => by
    obtain ⟨C, dx, fv, hc, e, r⟩ := h
    exact ⟨C, dx, fv, hc, by rw [ha]; exact e, FRs.mono g _ _ r⟩
theorem CR.mono {K : PySem.W.Frag} {H H' : Hp} {μ μ' : Mu} (g : Gr μ H μ' H') {a : Addr} (ha : H' a = H a) {c : Cell} (h : CR K H μ a c) : CR K H' μ' a c := CR.monov g.v ha h
theorem CR.has {K : PySem.W.Frag} {H : Hp} {μ : Mu} {a : Addr} : ∀ {c : Cell}, CR K H μ a c → ∃ o, H a = some o
  | .lst xs, ⟨vs, e, _⟩ => ⟨_, e⟩
  | .dct kvs, ⟨kv, e, _⟩ => ⟨_, e⟩
  | .ins c fs, ⟨C, dx, fv, _, e, _⟩ => ⟨_, e⟩
section
variable {K : PySem.W.Frag} {H : Hp} {μ : Mu} {st : Sto}
theorem SR.has (s : SR K μ st H) {a : Addr} (h : a ∈ μ.l) : ∃ o, H a = some o := by
  obtain ⟨n, hn, e⟩ := List.getElem_of_mem h
  have h1 : μ.l[n]? = some a := List.getElem?_eq_some_iff.mpr ⟨hn, e⟩
  have h2 : n < st.length := by rw [← s.len]; exact hn
  exact (s.cell n st[n] a (List.getElem?_eq_some_iff.mpr ⟨h2, rfl⟩) h1).has
theorem SR.free (s : SR K μ st H) {p : Addr} (h : H p = none) : p ∉ μ := fun m => by
  rcases m with m | m
  · obtain ⟨o, e⟩ := s.has m
    rw [h] at e; cases e
  · obtain ⟨o, e⟩ := (s.ban p m).2
    rw [h] at e; cases e
theorem gr_new {p : Addr} {o : HO} (h : H p = none) : Gr μ H μ (upd H p o) := ⟨⟨[], by simp⟩, fun _ m => m, fun _ m => .inl m, fun _ m => .inl m, fun a u e _ => by rw [upd_ne (ne_of_none e h)]; exact e⟩
theorem SR.new (s : SR K μ st H) {p : Addr} {o : HO} (h : H p = none) : SR K μ st (upd H p o) :=
  ⟨s.len, s.nd, fun a m => ⟨(s.ban a m).1, let ⟨u, e⟩ := (s.ban a m).2; ⟨u, by rw [upd_ne (ne_of_none e h)]; exact e⟩⟩, fun n c a e1 e2 => (s.cell n c a e1 e2).mono (gr_new h) (upd_ne (fun z => by
    obtain ⟨u, e⟩ := (s.cell n c a e1 e2).has
    rw [z, h] at e; cases e))⟩
theorem gr_alloc {p : Addr} {o : HO} (h : H p = none) : Gr μ H (μ.add p) (upd H p o) := ⟨⟨[p], rfl⟩, fun _ m => m, fun _ m => .inl m, fun a m => by
    rcases List.mem_append.mp m with z | z
    · exact .inl z
    · rw [List.mem_singleton.mp z]; exact .inr h, fun a u e _ => by rw [upd_ne (ne_of_none e h)]; exact e⟩
theorem gv_alloc {p : Addr} {o : HO} (h : ∀ u, H p = some u → seqO u = false) : Gv μ H (μ.add p) (upd H p o) := ⟨⟨[p], rfl⟩, fun a u e hu n => by
  have ne : a ≠ p := fun z => by
    subst z
    rw [h u e] at hu
    cases hu
  refine ⟨by rw [upd_ne ne]; exact e, fun m => ?_⟩
  rcases m with m | m
  · rcases List.mem_append.mp m with z | z
    · exact n (.inl z)
    · exact ne (List.mem_singleton.mp z)
  · exact n (.inr m)⟩
theorem SR.track (s : SR K μ st H) {p : Addr} {o : HO} {c : Cell} (np : p ∉ μ) (h : ∀ u, H p = some u → seqO u = false) (hc : CR K (upd H p o) (μ.add p) p c) : SR K (μ.add p) (st ++ [c]) (upd H p o) := by
  refine ⟨by simp [Mu.add, s.len], ?_, fun a m => ?_, fun n d a e1 e2 => ?_⟩
  · refine List.nodup_append.mpr ⟨s.nd, by simp, fun a ha b hb => ?_⟩
    rw [List.mem_singleton.mp hb]
    rintro rfl
    exact np (.inl ha)
  · have ne : a ≠ p := fun z => np (.inr (by rw [← z]; exact m))
    obtain ⟨n1, u, e⟩ := s.ban a m
    refine ⟨fun z => ?_, u, by rw [upd_ne ne]; exact e⟩
    rcases List.mem_append.mp z with z | z
    · exact n1 z
    · exact ne (List.mem_singleton.mp z)
  · have e2 : (μ.l ++ [p])[n]? = some a := e2
    by_cases hn : n < st.length
    · rw [List.getElem?_append_left hn] at e1
      rw [List.getElem?_append_left (by rw [s.len]; exact hn)] at e2
      exact (s.cell n d a e1 e2).monov (gv_alloc h) (upd_ne (fun z => by
        rw [z] at e2
        exact np (.inl (List.mem_of_getElem? e2))))
    · rw [List.getElem?_append_right (by omega)] at e1
      rw [List.getElem?_append_right (by rw [s.len]; omega), s.len] at e2
      have e0 : n - st.length = 0 := by
        have := (List.getElem?_eq_some_iff.mp e1).1
        simp at this
        omega
      rw [e0] at e1 e2
      simp at e1 e2
      subst e1 e2
      exact hc
theorem SR.alloc (s : SR K μ st H) {p : Addr} {o : HO} {c : Cell} (h : H p = none) (hc : CR K (upd H p o) (μ.add p) p c) : SR K (μ.add p) (st ++ [c]) (upd H p o) :=
  s.track (s.free h) (fun u e => by rw [h] at e; cases e) hc
theorem SR.addr (s : SR K μ st H) {n : Nat} {c : Cell} (h : st[n]? = some c) : ∃ a, μ.l[n]? = some a ∧ CR K H μ a c := by
  have hn : n < μ.l.length := by rw [s.len]; exact (List.getElem?_eq_some_iff.mp h).1
  exact ⟨μ.l[n], List.getElem?_eq_some_iff.mpr ⟨hn, rfl⟩, s.cell n c _ h (List.getElem?_eq_some_iff.mpr ⟨hn, rfl⟩)⟩
theorem gr_put {a : Addr} {o : HO} {n : Nat} (h : μ.l[n]? = some a) : Gr μ H μ (upd H a o) := ⟨⟨[], by simp⟩, fun _ m => m, fun _ m => .inl m, fun _ m => .inl m, fun b u e nb => by
  rw [upd_ne (fun z => nb (by rw [z]; exact List.mem_of_getElem? h))]; exact e⟩
theorem SR.put (s : SR K μ st H) {a : Addr} {o : HO} {n : Nat} {c : Cell} (h : μ.l[n]? = some a) (hc : CR K (upd H a o) μ a c) : SR K μ (st.set n c) (upd H a o) := by
  refine ⟨by simp [s.len], s.nd, fun b m => ?_, fun m d b e1 e2 => ?_⟩
  · obtain ⟨n1, u, e⟩ := s.ban b m
    exact ⟨n1, u, by rw [upd_ne (fun z => n1 (by rw [z]; exact List.mem_of_getElem? h))]; exact e⟩
  · by_cases hm : n = m
    · subst hm
      rw [h] at e2
      cases e2
      have hn : n < st.length := by rw [← s.len]; exact (List.getElem?_eq_some_iff.mp h).1
      rw [List.getElem?_set_self hn] at e1
      cases e1
      exact hc
    · rw [List.getElem?_set_ne hm] at e1
      refine (s.cell m d b e1 e2).mono (gr_put h) (upd_ne fun z => hm ?_)
      subst z
      obtain ⟨h1, e1'⟩ := List.getElem?_eq_some_iff.mp h
      obtain ⟨h2, e2'⟩ := List.getElem?_eq_some_iff.mp e2
      exact (List.getElem_inj s.nd).mp (e1'.trans e2'.symm)
end

def XR (K : PySem.W.Frag) (H : Hp) (μ : Mu) (x : Exn) (d : Addr) : Prop := ∃ fv, H d = some (.xd fv) ∧ FRs K H μ x.fs fv
def PostG {α β : Type} (K : PySem.W.Frag) (E : XK) (R : Hp → Mu → α → β → Prop) (Q : β → Hp → Prop) (μ : Mu) (H : Hp) : Res α → Prop
  | .ok a st => ∀ μ' H' b, Gr μ H μ' H' → SR K μ' st H' → R H' μ' a b → Q b H'
  | .err x st => ∀ μ' H' d, Gr μ H μ' H' → SR K μ' st H' → XR K H' μ' x d → ∀ C, ClsIn K x.C C → E (.ref C) (some d) H'
  | .bad => False
section
variable {K : PySem.W.Frag} {E : XK} {α β γ δ : Type} {R : Hp → Mu → α → β → Prop} {R' : Hp → Mu → γ → δ → Prop} {Q Q' : β → Hp → Prop} {μ μ' : Mu} {H H' : Hp} {st : Sto}
theorem PostG.mono {r : Res α} (h : PostG K E R Q μ H r) (i : ∀ b H', Q b H' → Q' b H') : PostG K E R Q' μ H r := by
  cases r with
  | ok a st => exact fun μ' H' b g s x => i _ _ (h μ' H' b g s x)
  | err x st => exact h
  | bad => exact h
theorem PostG.grow {r : Res α} (h : PostG K E R Q μ H r) (g : Gr μ H μ' H') : PostG K E R Q μ' H' r := by
  cases r with
  | ok a st => exact fun μ2 H2 b g2 s x => h μ2 H2 b (g.trans g2 fun a m => (s.ban a m).1) s x
  | err x st => exact fun μ2 H2 d g2 s x => h μ2 H2 d (g.trans g2 fun a m => (s.ban a m).1) s x
  | bad => exact h
theorem PostG.bind {m : M γ} {f : γ → M α} (h : PostG K E R Q μ H (M.bind m f st)) :
    PostG K E R' (fun b H' => ∃ μ' st' a, Gr μ H μ' H' ∧ SR K μ' st' H' ∧ R' H' μ' a b ∧ PostG K E R Q μ' H' (f a st')) μ H (m st) := by
  unfold M.bind at h
  cases e : m st with
  | ok a st' =>
    rw [e] at h
    exact fun μ' H' b g s r => ⟨μ', st', a, g, s, r, h.grow g⟩
  | err x st' =>
    rw [e] at h
    exact h
  | bad =>
    rw [e] at h
    exact h.elim
theorem PostG.bindAt {m : M γ} {f : γ → M α} (h : PostG K E R Q μ H (M.bind m f st)) (g0 : Gr μ H μ' H') :
    PostG K E R' (fun b H2 => ∃ μ2 st' a, Gr μ' H' μ2 H2 ∧ SR K μ2 st' H2 ∧ R' H2 μ2 a b ∧ PostG K E R Q μ H (f a st')) μ' H' (m st) := by
  unfold M.bind at h
  cases e : m st with
  | ok a st' =>
    rw [e] at h
    exact fun μ2 H2 b g s r => ⟨μ2, st', a, g, s, r, h⟩
  | err x st' =>
    rw [e] at h
    exact PostG.grow (r := .err x st') h g0
  | bad =>
    rw [e] at h
    exact h.elim
theorem PostG.calm {m : M α} (h : PostG K E R Q μ H (M.calm m st)) {E' : XK} : PostG K E' R Q μ H (m st) := by
  unfold M.calm at h
  cases e : m st with
  | ok a st' => rw [e] at h; exact h
  | err x st' => rw [e] at h; exact h.elim
  | bad => rw [e] at h; exact h.elim
end
structure ER (K : PySem.W.Frag) (H : Hp) (μ : Mu) (ρ : Rho) (σ : St) : Prop where
  len : ρ.length = σ.length
  get : ∀ (i : Nat) (p : PV), ρ[i]? = some (some p) → ∃ v, σ[i]? = some (some v) ∧ VR K H μ p v
theorem ER.mono {K : PySem.W.Frag} {H H' : Hp} {μ μ' : Mu} {ρ : Rho} {σ : St} (g : Gr μ H μ' H') (e : ER K H μ ρ σ) : ER K H' μ' ρ σ :=
  ⟨e.len, fun i p h => let ⟨v, h1, h2⟩ := e.get i p h; ⟨v, h1, VR.mono g p v h2⟩⟩
theorem ER.set {K : PySem.W.Frag} {H : Hp} {μ : Mu} {ρ : Rho} {σ : St} (e : ER K H μ ρ σ) {p : PV} {v : V} (r : VR K H μ p v) (i : Nat) : ER K H μ (ρ.set i (some p)) (σ.set i (some v)) := by
  refine ⟨by simp [e.len], fun j q h => ?_⟩
  by_cases hj : i = j
  · subst hj
    by_cases hi : i < ρ.length
    · rw [List.getElem?_set_self hi] at h
      cases h
      exact ⟨v, List.getElem?_set_self (by rw [← e.len]; exact hi), r⟩
    · rw [List.getElem?_eq_none (by simpa using hi)] at h
      cases h
  · rw [List.getElem?_set_ne hj] at h
    obtain ⟨w, h1, h2⟩ := e.get j q h
    exact ⟨w, by rw [List.getElem?_set_ne hj]; exact h1, h2⟩
theorem ER.unset {K : PySem.W.Frag} {H : Hp} {μ : Mu} {ρ : Rho} {σ : St} (e : ER K H μ ρ σ) (i : Nat) : ER K H μ (ρ.set i none) (σ.set i none) := by
  refine ⟨by simp [e.len], fun j q h => ?_⟩
  by_cases hj : i = j
  · subst hj
    by_cases hi : i < ρ.length
    · rw [List.getElem?_set_self hi] at h
      cases h
    · rw [List.getElem?_eq_none (by simpa using hi)] at h
      cases h
  · rw [List.getElem?_set_ne hj] at h
    obtain ⟨w, h1, h2⟩ := e.get j q h
    exact ⟨w, by rw [List.getElem?_set_ne hj]; exact h1, h2⟩
def PostS (K : PySem.W.Frag) (W : WX) (D : Ends) (μ : Mu) (H : Hp) : Res Fl → Prop
  | .ok (.next ρ) st => ∀ μ' H' σ', Gr μ H μ' H' → SR K μ' st H' → ER K H' μ' ρ σ' → D.nx σ' H'
  | .ok (.ret p) st => ∀ μ' H' v, Gr μ H μ' H' → SR K μ' st H' → VR K H' μ' p v → D.rt v H'
  | .ok (.brk ρ) st => ∀ μ' H' σ', Gr μ H μ' H' → SR K μ' st H' → ER K H' μ' ρ σ' → D.bk σ' H'
  | .ok (.cont ρ) st => ∀ μ' H' σ', Gr μ H μ' H' → SR K μ' st H' → ER K H' μ' ρ σ' → D.ct σ' H'
  | .ok (.exc x ρ) st => ∀ μ' H' σ' d, Gr μ H μ' H' → SR K μ' st H' → ER K H' μ' ρ σ' → XR K H' μ' x d → ∀ C, ClsIn K x.C C → W (.ref C) (some d) σ' H'
  | .err _ _ => False
  | .bad => False
theorem PostS.grow {K : PySem.W.Frag} {W : WX} {D : Ends} {μ μ' : Mu} {H H' : Hp} {r : Res Fl} (h : PostS K W D μ H r) (g : Gr μ H μ' H') : PostS K W D μ' H' r := by
  cases r with
  | ok f st =>
    cases f with
    | next ρ => exact fun μ2 H2 σ g2 s e => h μ2 H2 σ (g.trans g2 fun a m => (s.ban a m).1) s e
    | ret p => exact fun μ2 H2 v g2 s e => h μ2 H2 v (g.trans g2 fun a m => (s.ban a m).1) s e
    | brk ρ => exact fun μ2 H2 σ g2 s e => h μ2 H2 σ (g.trans g2 fun a m => (s.ban a m).1) s e
    | cont ρ => exact fun μ2 H2 σ g2 s e => h μ2 H2 σ (g.trans g2 fun a m => (s.ban a m).1) s e
    | exc x ρ => exact fun μ2 H2 σ d g2 s e z => h μ2 H2 σ d (g.trans g2 fun a m => (s.ban a m).1) s e z
  | err x st => exact h
  | bad => exact h

def tM (K : PySem.W.Frag) (W : WX) (m : Rho → M PV) : TE := fun σ H Q => ∃ μ st ρ, ER K H μ ρ σ ∧ SR K μ st H ∧ PostG K (fun c d H' => W c d σ H') (VR K) Q μ H (m ρ st)
def tMT (K : PySem.W.Frag) (W : WX) (m : Rho → M Bool) : TT := fun σ H Q => ∃ μ st ρ, ER K H μ ρ σ ∧ SR K μ st H ∧ PostG K (fun c d H' => W c d σ H') (fun _ _ a b => a = b) Q μ H (m ρ st)
def tMA (K : PySem.W.Frag) (W : WX) (m : Rho → M (List PV)) : TA := fun σ H Q => ∃ μ st ρ, ER K H μ ρ σ ∧ SR K μ st H ∧ PostG K (fun c d H' => W c d σ H') (VRs K) Q μ H (m ρ st)
def RF (K : PySem.W.Frag) (H : Hp) (μ : Mu) (ps : List PV) (v : V) : Prop := VR K H μ (.lst ps) v
def tMS (K : PySem.W.Frag) (W : WX) (m : Rho → M Fl) : TS := fun D σ H => ∃ μ st ρ, ER K H μ ρ σ ∧ SR K μ st H ∧ PostS K W D μ H (m ρ st)
def ME (X : Cx) (W : WX) (e : Expr) (m : Rho → M PV) : Prop := PE X e (tM X.K W m)
def MT (X : Cx) (W : WX) (e : Expr) (m : Rho → M Bool) : Prop := PT X e (tMT X.K W m)
def MW (X : Cx) (W : WX) (e : Expr) (m : Rho → M Bool) : Prop := PW X e (tMT X.K W m)
def MA (X : Cx) (W : WX) (es : List Expr) (m : Rho → M (List PV)) : Prop := PA X es (tMA X.K W m)
def MS (X : Cx) (W : WX) (s : Stmt) (m : Rho → M Fl) : Prop := PS X s (tMS X.K W m)
def MSs (X : Cx) (W : WX) (s : List Stmt) (m : Rho → M Fl) : Prop := PSs X s (tMS X.K W m)
section
variable {X : Cx}
theorem PE.imp {e : Expr} {t t' : TE} (h : PE X e t) (i : ∀ σ H Q, t' σ H Q → t σ H Q) : PE X e t' := ⟨fun pins s σ H Q I q => h.run pins s σ H Q I (i σ H Q q)⟩
theorem PT.imp {e : Expr} {t t' : TT} (h : PT X e t) (i : ∀ σ H Q, t' σ H Q → t σ H Q) : PT X e t' := ⟨fun pins s σ H Q I q => h.run pins s σ H Q I (i σ H Q q)⟩
theorem PW.imp {e : Expr} {t t' : TT} (h : PW X e t) (i : ∀ σ H Q, t' σ H Q → t σ H Q) : PW X e t' := ⟨fun wh pins s σ H Q I q => h.run wh pins s σ H Q I (i σ H Q q)⟩
theorem PA.imp {es : List Expr} {t t' : TA} (h : PA X es t) (i : ∀ σ H Q, t' σ H Q → t σ H Q) : PA X es t' := ⟨fun pos pins s σ H Q I q => h.run pos pins s σ H Q I (i σ H Q q)⟩
theorem PS.imp {st : Stmt} {t t' : TS} (h : PS X st t) (i : ∀ D σ H, t' D σ H → t D σ H) : PS X st t' := ⟨fun pins s σ H D I q => h.run pins s σ H D I (i D σ H q)⟩
theorem PSs.imp {st : List Stmt} {t t' : TS} (h : PSs X st t) (i : ∀ D σ H, t' D σ H → t D σ H) : PSs X st t' := ⟨fun pins s σ H D I q => h.run pins s σ H D I (i D σ H q)⟩
end
end MP

set_option maxRecDepth 100000
namespace MP
open PySem L2
section
variable {K : PySem.W.Frag} {W : WX} {α β : Type}
def onErr (ρ : Rho) (m : M α) (k : α → M Fl) : M Fl := fun st => match m st with
  | .ok a st' => k a st'
  | .err x st' => .ok (.exc x ρ) st'
  | .bad => .bad
theorem PostS.onErr {R : Hp → Mu → α → β → Prop} {D : Ends} {μ : Mu} {H : Hp} {ρ : Rho} {σ : St} {m : M α} {k : α → M Fl} {st : Sto} (h : PostS K W D μ H (onErr ρ m k st)) (er : ER K H μ ρ σ) :
    PostG K (fun c d H' => W c d σ H') R (fun b H' => ∃ μ' st' a, Gr μ H μ' H' ∧ SR K μ' st' H' ∧ R H' μ' a b ∧ PostS K W D μ' H' (k a st')) μ H (m st) := by
  unfold MP.onErr at h
  cases e : m st with
  | ok a st' =>
    rw [e] at h
    exact fun μ' H' b g s r => ⟨μ', st', a, g, s, r, h.grow g⟩
  | err x st' =>
    rw [e] at h
    exact fun μ' H' d g s r => h μ' H' σ d g s (er.mono g) r
  | bad =>
    rw [e] at h
    exact h.elim
end

section
variable {X : Cx} {W : WX} {e a b : Expr} {pos : Pos}
theorem gl_of {x : Str} (h : X.env.kindOf x = some .globalImplicit) : Gl X x := h
def eVar (i : Nat) : Rho → M PV := fun ρ => match ρ[i]? with
  | some (some p) => M.ret p
  | _ => M.fail
def eC (p : PV) : Rho → M PV := fun _ => M.ret p
theorem me_var (i : Nat) {x : Str} (hN : X.N[i]? = some x := by kernel_rfl) (hv : Vis X.env.scope x := by first | exact Or.inl rfl | exact Or.inr (Or.inl rfl) | exact Or.inr (Or.inr rfl)) (hd : (x == ("__debug__" : Str)) = false := by kernel_rfl)
    (hcd : (x == ("__classdict__" : Str)) = false := by kernel_rfl) : ME X W (.Name x pos) (eVar i) := PE.imp (pv (X := X) (pos := pos) i hN hv hd hcd) fun σ H Q ⟨μ, st, ρ, er, sr, h⟩ => by
  unfold eVar at h
  cases e : ρ[i]? with
  | none => rw [e] at h; exact h.elim
  | some o =>
    rw [e] at h
    cases o with
    | none => exact h.elim
    | some p =>
      obtain ⟨v, h1, h2⟩ := er.get i p e
      exact ⟨v, h1, h μ H v (Gr.refl _ _) sr h2⟩
theorem me_c {p : PV} {v : V} (h : PE X e (tC v)) (r : ∀ H μ, VR X.K H μ p v) : ME X W e (eC p) := PE.imp h fun σ H Q ⟨μ, st, ρ, er, sr, q⟩ => q μ H v (Gr.refl _ _) sr (r H μ)
theorem me_int {i : Int} {j : Nat} : ME X W (.Constant (.int i) j pos) (eC (.int i)) := me_c pe_int fun _ _ => rfl
theorem me_bl {b : Bool} {j : Nat} : ME X W (.Constant (.bool b) j pos) (eC (.bl b)) := me_c pe_bl fun _ _ => rfl
theorem me_non {j : Nat} : ME X W (.Constant .none j pos) (eC .non) := me_c pe_non fun _ _ => rfl
theorem me_str {x : Str} {j : Nat} (l : List Nat) (h : x = ⟨l.toArray⟩) : ME X W (.Constant (.str x) j pos) (eC (.str l)) := me_c pe_str fun _ _ => by rw [h]; exact rfl
theorem me_globI {x : Str} {i : Int} {t : Tok} (hg : Gl X x) (hm : X.mg x = some (.int i t)) (hd : (x == ("__debug__" : Str)) = false := by kernel_rfl) : ME X W (.Name x pos) (eC (.int i)) :=
  me_c (pe_glob (v := .int i) hg hm ⟨t, rfl⟩ hd) fun _ _ => rfl
theorem me_globS {x : Str} {l : List Nat} {t : Tok} (hg : Gl X x) (hm : X.mg x = some (.str ⟨l.toArray⟩ t)) (hd : (x == ("__debug__" : Str)) = false := by kernel_rfl) : ME X W (.Name x pos) (eC (.str l)) :=
  me_c (pe_glob (v := .str ⟨l.toArray⟩) hg hm ⟨t, rfl⟩ hd) fun _ _ => rfl
theorem me_globR {x : Str} {a : Addr} (hg : Gl X x) (hm : X.mg x = some (.ref a)) (hd : (x == ("__debug__" : Str)) = false := by kernel_rfl) : ME X W (.Name x pos) (eC (.gl a)) :=
  me_c (pe_glob (v := .ref a) hg hm rfl hd) fun _ _ => rfl
theorem me_globT {x : Str} {a : Addr} {ps : List PV} {vs : List V} (hg : Gl X x) (hm : X.mg x = some (.ref a)) (hk : KT X.K a vs) (r : ∀ H μ, VRs X.K H μ ps vs) (hd : (x == ("__debug__" : Str)) = false := by kernel_rfl) : ME X W (.Name x pos) (eC (.tup ps)) :=
  me_c (pe_glob (v := .ref a) hg hm rfl hd) fun H μ => (show ∃ a' vs', V.ref a = .ref a' ∧ TupAt X.K H μ a' vs' ∧ VRs X.K H μ ps vs' from ⟨a, vs, rfl, .inr hk, r H μ⟩)
theorem me_ty {x : Str} {T : String} (hg : Gl X x) (hm : X.mg x = none) (hv : bootBuiltins x = some (.type T)) (hn : x ≠ "__name__" := by decide +kernel) (hd : (x == ("__debug__" : Str)) = false := by kernel_rfl) : ME X W (.Name x pos) (eC (.ty T)) :=
  me_c (pe_bltn (v := .ty T) hg hm hv rfl hn hd) fun _ _ => rfl

def T2 (K : PySem.W.Frag) (r : R2) (g : PV → PV → M PV) : Prop :=
  ∀ (μ : Mu) (st : Sto) (H : Hp) (x y : PV) (u v : V) (E : XK) (Q : VK), SR K μ st H → VR K H μ x u → VR K H μ y v → PostG K E (VR K) Q μ H (g x y st) → r u v H Q
def T1 (K : PySem.W.Frag) (r : V → Hp → VK → Prop) (g : PV → M PV) : Prop :=
  ∀ (μ : Mu) (st : Sto) (H : Hp) (x : PV) (u : V) (E : XK) (Q : VK), SR K μ st H → VR K H μ x u → PostG K E (VR K) Q μ H (g x st) → r u H Q
def TL (K : PySem.W.Frag) (r : List V → Hp → VK → Prop) (g : List PV → M PV) : Prop :=
  ∀ (μ : Mu) (st : Sto) (H : Hp) (xs : List PV) (us : List V) (E : XK) (Q : VK), SR K μ st H → VRs K H μ xs us → PostG K E (VR K) Q μ H (g xs st) → r us H Q
def eBin (g : PV → PV → M PV) (ma mb : Rho → M PV) : Rho → M PV := fun ρ => M.bind (ma ρ) fun x => M.bind (mb ρ) fun y => g x y
def eUn (g : PV → M PV) (ma : Rho → M PV) : Rho → M PV := fun ρ => M.bind (ma ρ) g
theorem two_imp {ma mb : Rho → M PV} {g : PV → PV → M PV} {r : R2} (t : T2 X.K r g) : ∀ σ H Q, tM X.K W (eBin g ma mb) σ H Q → tOp r (tM X.K W ma) (tM X.K W mb) σ H Q := fun σ H Q ⟨μ, st, ρ, er, sr, h⟩ =>
  ⟨μ, st, ρ, er, sr, (PostG.bind h).mono fun u H1 ⟨μ1, st1, x, g1, s1, rx, h1⟩ => ⟨μ1, st1, ρ, er.mono g1, s1, (PostG.bind h1).mono fun v H2 ⟨μ2, st2, y, g2, s2, ry, h2⟩ => t μ2 st2 H2 x y u v _ Q s2 (VR.mono g2 x u rx) ry h2⟩⟩
theorem me_bin {op : Operator} {r : R2} {g : PV → PV → M PV} {ma mb : Rho → M PV} (ho : OpR X (binaryOp op) r) (t : T2 X.K r g) (ha : ME X W a ma) (hb : ME X W b mb) : ME X W (.BinOp a op b pos) (eBin g ma mb) :=
  PE.imp (pe_op ho ha hb) (two_imp t)
theorem me_cmp {op : CmpOp} {r : R2} {g : PV → PV → M PV} {ma mb : Rho → M PV} (ho : OpR X (compareOp op) r) (t : T2 X.K r g) (ha : ME X W a ma) (hb : ME X W b mb) (hm : behindInMarks op b = false) : ME X W (.Compare a [op] [b] pos) (eBin g ma mb) :=
  PE.imp (pe_cmpR ho ha hb hm) (two_imp t)
theorem me_un {op : UnaryOp} {r : V → Hp → VK → Prop} {g : PV → M PV} {ma : Rho → M PV} (ho : UnR X (unaryOp op) r) (t : T1 X.K r g) (ha : ME X W a ma) : ME X W (.UnaryOp op a pos) (eUn g ma) :=
  PE.imp (pe_un ho ha) fun σ H Q ⟨μ, st, ρ, er, sr, h⟩ => ⟨μ, st, ρ, er, sr, (PostG.bind h).mono fun u H1 ⟨μ1, st1, x, g1, s1, rx, h1⟩ => t μ1 st1 H1 x u _ Q s1 rx h1⟩
theorem me_ix {r : R2} {g : PV → PV → M PV} {ma mb : Rho → M PV} (ho : IxR X r) (t : T2 X.K r g) (ha : ME X W a ma) (hb : ME X W b mb) (hs : PlainIx b) : ME X W (.Subscript a b pos) (eBin g ma mb) :=
  PE.imp (pe_ix ho ha hb hs) (two_imp t)

def asB : PV → M Bool
  | .bl b => M.ret b
  | _ => M.fail
def eB (m : Rho → M PV) : Rho → M Bool := fun ρ => M.bind (m ρ) asB
theorem asB_post {K : PySem.W.Frag} {E : XK} {Q : Bool → Hp → Prop} {μ : Mu} {H : Hp} {st : Sto} {p : PV} {v : V} (sr : SR K μ st H) (r : VR K H μ p v) (h : PostG K E (fun _ _ (a : Bool) b => a = b) Q μ H (asB p st)) : ∃ k, v = .bl k ∧ Q k H := by
  cases p with
  | bl b => exact ⟨b, r, h μ H b (Gr.refl _ _) sr rfl⟩
  | _ => exact h.elim
theorem test_imp {m : Rho → M PV} : ∀ σ H Q, tMT X.K W (eB m) σ H Q → tTest (tM X.K W m) σ H Q := fun σ H Q ⟨μ, st, ρ, er, sr, h⟩ =>
  ⟨μ, st, ρ, er, sr, (PostG.bind h).mono fun u H1 ⟨μ1, st1, x, g1, s1, rx, h1⟩ => asB_post s1 rx h1⟩
theorem mt_cmp {op : CmpOp} {r : R2} {g : PV → PV → M PV} {ma mb : Rho → M PV} (ho : OpR X (compareOp op) r) (t : T2 X.K r g) (ha : ME X W a ma) (hb : ME X W b mb) (hm : behindInMarks op b = false) : MT X W (.Compare a [op] [b] pos) (eB (eBin g ma mb)) :=
  PT.imp (pt_cmpR ho ha hb hm) fun σ H Q h => by
    have q := test_imp (X := X) (W := W) (m := eBin g ma mb) σ H Q h
    exact two_imp t σ H _ q
theorem mt_val {m : Rho → M PV} (h : ME X W e m) (he : ∀ whole, isTrue e X.env whole = (do let v ← whole; standAt e.pos; holding [v] (truthy v)) := by intro _; rfl) : MT X W e (eB m) :=
  PT.imp (pt_val h he) fun σ H Q h => test_imp (X := X) (W := W) (m := m) σ H Q h
variable {tA tB' : Rho → M Bool} {rest : List Expr}
def tAndM (t u : Rho → M Bool) : Rho → M Bool := fun ρ => M.bind (t ρ) fun c => if c = true then u ρ else M.ret false
def tOrM (t u : Rho → M Bool) : Rho → M Bool := fun ρ => M.bind (t ρ) fun c => if c = true then M.ret true else u ρ
def tNotM (t : Rho → M Bool) : Rho → M Bool := fun ρ => M.bind (t ρ) fun c => M.ret (!c)
theorem mw_and1 (ha : MT X W a tA) : MW X W (.BoolOp .And [a] pos) tA := pw_and1 ha
theorem mw_or1 (ha : MT X W a tA) : MW X W (.BoolOp .Or [a] pos) tA := pw_or1 ha
theorem mw_and (ha : MT X W a tA) (hb : MW X W (.BoolOp .And (b :: rest) pos) tB') : MW X W (.BoolOp .And (a :: b :: rest) pos) (tAndM tA tB') :=
  PW.imp (pw_and ha hb) fun σ H Q ⟨μ, st, ρ, er, sr, h⟩ => ⟨μ, st, ρ, er, sr, (PostG.bind h).mono fun c H1 ⟨μ1, st1, c', g1, s1, ec, h1⟩ => by
    subst ec
    cases c' with
    | true => rw [if_pos rfl] at h1 ⊢; exact ⟨μ1, st1, ρ, er.mono g1, s1, h1⟩
    | false => rw [if_neg Bool.false_ne_true] at h1 ⊢; exact h1 μ1 H1 false (Gr.refl _ _) s1 rfl⟩
theorem mw_or (ha : MT X W a tA) (hb : MW X W (.BoolOp .Or (b :: rest) pos) tB') : MW X W (.BoolOp .Or (a :: b :: rest) pos) (tOrM tA tB') :=
  PW.imp (pw_or ha hb) fun σ H Q ⟨μ, st, ρ, er, sr, h⟩ => ⟨μ, st, ρ, er, sr, (PostG.bind h).mono fun c H1 ⟨μ1, st1, c', g1, s1, ec, h1⟩ => by
    subst ec
    cases c' with
    | true => rw [if_pos rfl] at h1 ⊢; exact h1 μ1 H1 true (Gr.refl _ _) s1 rfl
    | false => rw [if_neg Bool.false_ne_true] at h1 ⊢; exact ⟨μ1, st1, ρ, er.mono g1, s1, h1⟩⟩
theorem mt_of (h : MW X W e tA) : MT X W e tA := PW.pt h
theorem mt_not (ha : MT X W a tA) : MT X W (.UnaryOp .Not a pos) (tNotM tA) :=
  PT.imp (pt_not ha) fun σ H Q ⟨μ, st, ρ, er, sr, h⟩ => ⟨μ, st, ρ, er, sr, (PostG.bind h).mono fun c H1 ⟨μ1, st1, c', g1, s1, ec, h1⟩ => by
    subst ec
    exact h1 μ1 H1 _ (Gr.refl _ _) s1 rfl⟩
def eAndV (ma mb : Rho → M PV) : Rho → M PV := fun ρ => M.bind (ma ρ) fun x => M.bind (asB x) fun c => if c = true then mb ρ else M.ret (.bl false)
def eOrV (ma mb : Rho → M PV) : Rho → M PV := fun ρ => M.bind (ma ρ) fun x => M.bind (asB x) fun c => if c = true then M.ret (.bl true) else mb ρ
def eNotV (ma : Rho → M PV) : Rho → M PV := fun ρ => M.bind (ma ρ) fun x => M.bind (asB x) fun c => M.ret (.bl (!c))
theorem asB_bind {α β : Type} {K : PySem.W.Frag} {E : XK} {R : Hp → Mu → α → β → Prop} {Q : β → Hp → Prop} {μ : Mu} {H : Hp} {st : Sto} {p : PV} {v : V} {f : Bool → M α} (r : VR K H μ p v) (h : PostG K E R Q μ H (M.bind (asB p) f st)) :
    ∃ k, v = .bl k ∧ PostG K E R Q μ H (f k st) := by
  cases p with
  | bl b => exact ⟨b, r, h⟩
  | _ => exact h.elim
theorem me_one {op : BoolOp} {m : Rho → M PV} (h : ME X W a m) : ME X W (.BoolOp op [a] pos) m := pe_one h
theorem me_and {ma mb : Rho → M PV} (ha : ME X W a ma) (hb : ME X W (.BoolOp .And (b :: rest) pos) mb) : ME X W (.BoolOp .And (a :: b :: rest) pos) (eAndV ma mb) :=
  PE.imp (pe_and ha hb) fun σ H Q ⟨μ, st, ρ, er, sr, h⟩ => ⟨μ, st, ρ, er, sr, (PostG.bind h).mono fun u H1 ⟨μ1, st1, x, g1, s1, rx, h1⟩ => by
    obtain ⟨k, e, h2⟩ := asB_bind rx h1
    refine ⟨k, e, ?_⟩
    cases k with
    | true => rw [if_pos rfl] at h2 ⊢; exact ⟨μ1, st1, ρ, er.mono g1, s1, h2⟩
    | false => rw [if_neg Bool.false_ne_true] at h2 ⊢; exact h2 μ1 H1 _ (Gr.refl _ _) s1 rfl⟩
theorem me_or {ma mb : Rho → M PV} (ha : ME X W a ma) (hb : ME X W (.BoolOp .Or (b :: rest) pos) mb) : ME X W (.BoolOp .Or (a :: b :: rest) pos) (eOrV ma mb) :=
  PE.imp (pe_or ha hb) fun σ H Q ⟨μ, st, ρ, er, sr, h⟩ => ⟨μ, st, ρ, er, sr, (PostG.bind h).mono fun u H1 ⟨μ1, st1, x, g1, s1, rx, h1⟩ => by
    obtain ⟨k, e, h2⟩ := asB_bind rx h1
    refine ⟨k, e, ?_⟩
    cases k with
    | true => rw [if_pos rfl] at h2 ⊢; exact h2 μ1 H1 _ (Gr.refl _ _) s1 rfl
    | false => rw [if_neg Bool.false_ne_true] at h2 ⊢; exact ⟨μ1, st1, ρ, er.mono g1, s1, h2⟩⟩
theorem me_not {ma : Rho → M PV} (ha : ME X W a ma) : ME X W (.UnaryOp .Not a pos) (eNotV ma) :=
  PE.imp (pe_not ha) fun σ H Q ⟨μ, st, ρ, er, sr, h⟩ => ⟨μ, st, ρ, er, sr, (PostG.bind h).mono fun u H1 ⟨μ1, st1, x, g1, s1, rx, h1⟩ => by
    obtain ⟨k, e, h2⟩ := asB_bind rx h1
    exact ⟨k, e, h2 μ1 H1 _ (Gr.refl _ _) s1 rfl⟩⟩
def eIf (t : Rho → M Bool) (ma mb : Rho → M PV) : Rho → M PV := fun ρ => M.bind (t ρ) fun c => if c = true then ma ρ else mb ρ
theorem me_ifExp {c : Expr} {t : Rho → M Bool} {ma mb : Rho → M PV} (hc : MT X W c t) (ha : ME X W a ma) (hb : ME X W b mb) : ME X W (.IfExp c a b pos) (eIf t ma mb) :=
  PE.imp (pe_ifExp hc ha hb) fun σ H Q ⟨μ, st, ρ, er, sr, h⟩ => ⟨μ, st, ρ, er, sr, (PostG.bind h).mono fun c H1 ⟨μ1, st1, c', g1, s1, ec, h1⟩ => by
    subst ec
    cases c' with
    | true => rw [if_pos rfl] at h1 ⊢; exact ⟨μ1, st1, ρ, er.mono g1, s1, h1⟩
    | false => rw [if_neg Bool.false_ne_true] at h1 ⊢; exact ⟨μ1, st1, ρ, er.mono g1, s1, h1⟩⟩

def aNil : Rho → M (List PV) := fun _ => M.ret []
def aCons (m : Rho → M PV) (r : Rho → M (List PV)) : Rho → M (List PV) := fun ρ => M.bind (m ρ) fun x => M.bind (r ρ) fun xs => M.ret (x :: xs)
theorem ma_nil : MA X W [] aNil := PA.imp pa_nil fun σ H Q ⟨μ, st, ρ, er, sr, h⟩ => h μ H [] (Gr.refl _ _) sr rfl
theorem ma_cons {es : List Expr} {m : Rho → M PV} {r : Rho → M (List PV)} (ha : ME X W e m) (hr : MA X W es r) (hs : starEach (e :: es) X.env = (false, eval e X.env) :: starEach es X.env := by kernel_rfl) : MA X W (e :: es) (aCons m r) :=
  PA.imp (pa_cons ha hr hs) fun σ H Q ⟨μ, st, ρ, er, sr, h⟩ => ⟨μ, st, ρ, er, sr, (PostG.bind h).mono fun u H1 ⟨μ1, st1, x, g1, s1, rx, h1⟩ =>
    ⟨μ1, st1, ρ, er.mono g1, s1, (PostG.bind h1).mono fun us H2 ⟨μ2, st2, xs, g2, s2, rxs, h2⟩ => h2 μ2 H2 _ (Gr.refl _ _) s2 (VRs.cons (VR.mono g2 x u rx) rxs)⟩⟩
def spM (K : PySem.W.Frag) (m : List PV → M PV) (n : Nat) : Sp := fun vs H Q E => ∃ μ st ps, SR K μ st H ∧ VRs K H μ ps vs ∧ ps.length = n ∧ PostG K E (VR K) Q μ H (m ps st)
def eCall (f : List PV → M PV) (m : Rho → M (List PV)) : Rho → M PV := fun ρ => M.bind (m ρ) f
def aLen (n : Nat) (m : Rho → M (List PV)) : Prop := ∀ ρ st xs st', m ρ st = .ok xs st' → xs.length = n
theorem aLen_nil : aLen 0 aNil := fun ρ st xs st' h => by cases h; rfl
theorem aLen_cons {n : Nat} {m : Rho → M PV} {r : Rho → M (List PV)} (h : aLen n r) : aLen (n + 1) (aCons m r) := fun ρ st xs st' e => by
  unfold aCons M.bind at e
  cases e1 : m ρ st with
  | ok a s1 =>
    rw [e1] at e
    dsimp only at e
    cases e2 : r ρ s1 with
    | ok b s2 =>
      rw [e2] at e
      cases e
      rw [List.length_cons, h ρ s1 b _ e2]
    | err x s2 => rw [e2] at e; cases e
    | bad => rw [e2] at e; cases e
  | err x s1 => rw [e1] at e; cases e
  | bad => rw [e1] at e; cases e
theorem PostG.lens {K : PySem.W.Frag} {E : XK} {Q : List V → Hp → Prop} {μ : Mu} {H : Hp} {n : Nat} {m : Rho → M (List PV)} {ρ : Rho} {st : Sto} (hl : aLen n m) (h : PostG K E (fun H μ (ps : List PV) vs => VRs K H μ ps vs ∧ ps.length = n) Q μ H (m ρ st)) :
    PostG K E (VRs K) Q μ H (m ρ st) := by
  cases e : m ρ st with
  | ok a s' => rw [e] at h; exact fun μ' H' b g s r => h μ' H' b g s ⟨r, hl ρ st a s' e⟩
  | err x s' => rw [e] at h; exact h
  | bad => rw [e] at h; exact h
theorem me_call {x : Str} {f : Addr} {fd : FuncData} {ps : List Str} {k n : Nat} {p : Pos} {es : List Expr} {ma : Rho → M (List PV)} {mf : List PV → M PV} (F : FnOk X.prog X.w X.K X.mg X.base (L2.CX X.prog X.w) k f fd ps (spM X.K mf n)) (hr : Room k X.A) (hg : Gl X x) (hm : X.mg x = some (.ref f))
    (hk : PySem.W.keepIn X.K (.ref f) = true) (hb : Binds X.K fd ps []) (tk : Takes X W) (ha : MA X W (e :: es) ma) (hl : aLen n ma) (hdb : (x == ("__debug__" : Str)) = false := by kernel_rfl)
    (he : starEach (e :: es) X.env = (false, eval e X.env) :: starEach es X.env := by kernel_rfl) (hpl : (backTo pos (starEach es X.env)).any (·.1) = false := by kernel_rfl) :
    ME X W (.Call (.Name x p) (e :: es) [] pos) (eCall mf ma) :=
  PE.imp (pe_callSD (dvs := []) (ds := []) (E := WE W) F hr hg hm hk hb .nil (fun σ => passAt tk σ) ha hdb he hpl) fun σ H Q ⟨μ, st, ρ, er, sr, h⟩ =>
    ⟨μ, st, ρ, er, sr, PostG.lens hl ((PostG.bind h).mono fun us H1 ⟨μ1, st1, xs, g1, s1, ⟨rxs, hn⟩, h1⟩ => ⟨μ1, st1, xs, s1, by rw [List.append_nil]; exact rxs, hn, h1⟩)⟩
theorem me_callB {x : Str} {id : String} {r : List V → Hp → VK → Prop} {g : List PV → M PV} {p : Pos} {es : List Expr} {ma : Rho → M (List PV)} (hc : CallR X (.builtin id) r) (t : TL X.K r g) (hg : Gl X x) (hm : X.mg x = none) (hv : bootBuiltins x = some (.builtin id)) (ha : MA X W (e :: es) ma)
    (hn : x ≠ "__name__" := by decide +kernel) (hdb : (x == ("__debug__" : Str)) = false := by kernel_rfl) (he : starEach (e :: es) X.env = (false, eval e X.env) :: starEach es X.env := by kernel_rfl) (hpl : (backTo pos (starEach es X.env)).any (·.1) = false := by kernel_rfl) :
    ME X W (.Call (.Name x p) (e :: es) [] pos) (eCall g ma) :=
  PE.imp (pe_callB hc hg hm hv ha hn hdb he hpl) fun σ H Q ⟨μ, st, ρ, er, sr, h⟩ =>
    ⟨μ, st, ρ, er, sr, (PostG.bind h).mono fun us H1 ⟨μ1, st1, xs, g1, s1, rxs, h1⟩ => t μ1 st1 H1 xs us _ Q s1 rxs h1⟩
theorem me_callTy {x : Str} {T : String} {r : List V → Hp → VK → Prop} {g : List PV → M PV} {p : Pos} {es : List Expr} {ma : Rho → M (List PV)} (hc : CallR X (.type T) r) (t : TL X.K r g) (hg : Gl X x) (hm : X.mg x = none) (hv : bootBuiltins x = some (.type T)) (ha : MA X W (e :: es) ma)
    (hn : x ≠ "__name__" := by decide +kernel) (hdb : (x == ("__debug__" : Str)) = false := by kernel_rfl) (he : starEach (e :: es) X.env = (false, eval e X.env) :: starEach es X.env := by kernel_rfl) (hpl : (backTo pos (starEach es X.env)).any (·.1) = false := by kernel_rfl) :
    ME X W (.Call (.Name x p) (e :: es) [] pos) (eCall g ma) :=
  PE.imp (pe_callTy hc hg hm hv ha hn hdb he hpl) fun σ H Q ⟨μ, st, ρ, er, sr, h⟩ =>
    ⟨μ, st, ρ, er, sr, (PostG.bind h).mono fun us H1 ⟨μ1, st1, xs, g1, s1, rxs, h1⟩ => t μ1 st1 H1 xs us _ Q s1 rxs h1⟩
end

section
variable {X : Cx} {W : WX} {e a b : Expr} {pos : Pos} {s : Stmt} {rest : List Stmt} {m m' : Rho → M Fl} {me : Rho → M PV}
def sNext : Rho → M Fl := fun ρ => M.ret (.next ρ)
def sSeq (m m' : Rho → M Fl) : Rho → M Fl := fun ρ st => match m ρ st with
  | .ok (.next ρ') st' => m' ρ' st'
  | r => r
theorem mss_nil : MSs X W [] sNext := PSs.imp pss_nil fun D σ H ⟨μ, st, ρ, er, sr, h⟩ => h μ H σ (Gr.refl _ _) sr er
theorem mss_cons (h1 : MS X W s m) (h2 : MSs X W rest m') : MSs X W (s :: rest) (sSeq m m') :=
  PSs.imp (pss_cons h1 h2) fun D σ H ⟨μ, st, ρ, er, sr, h⟩ => ⟨μ, st, ρ, er, sr, by
    unfold sSeq at h
    cases q : m ρ st with
    | ok f st' =>
      rw [q] at h
      cases f with
      | next ρ' => exact fun μ' H' σ' g s' e' => ⟨μ', st', ρ', e', s', PostS.grow h g⟩
      | ret p => exact h
      | brk ρ' => exact h
      | cont ρ' => exact h
      | exc x ρ' => exact h
    | err x st' => rw [q] at h; exact h
    | bad => rw [q] at h; exact h⟩
theorem mss_one (h1 : MS X W s m) : MSs X W [s] m := PSs.imp (pss_one h1) fun _ _ _ h => h
def sPass : Rho → M Fl := fun ρ => M.ret (.next ρ)
def sBreak : Rho → M Fl := fun ρ => M.ret (.brk ρ)
def sCont : Rho → M Fl := fun ρ => M.ret (.cont ρ)
theorem ms_pass : MS X W (.Pass pos) sPass := PS.imp ps_pass fun D σ H ⟨μ, st, ρ, er, sr, h⟩ => h μ H σ (Gr.refl _ _) sr er
theorem ms_break : MS X W (.Break pos) sBreak := PS.imp ps_break fun D σ H ⟨μ, st, ρ, er, sr, h⟩ => h μ H σ (Gr.refl _ _) sr er
theorem ms_continue : MS X W (.Continue pos) sCont := PS.imp ps_continue fun D σ H ⟨μ, st, ρ, er, sr, h⟩ => h μ H σ (Gr.refl _ _) sr er
def sDrop (me : Rho → M PV) : Rho → M Fl := fun ρ => onErr ρ (me ρ) fun _ => M.ret (.next ρ)
theorem ms_expr (he : ME X W e me) (hs : swapsWith e none pos.line X.env = pure false := by kernel_rfl) : MS X W (.Expr e pos) (sDrop me) :=
  PS.imp (ps_expr he hs) fun D σ H ⟨μ, st, ρ, er, sr, h⟩ => ⟨μ, st, ρ, er, sr, (PostS.onErr h er).mono fun u H1 ⟨μ1, st1, x, g1, s1, rx, h1⟩ => h1 μ1 H1 σ (Gr.refl _ _) s1 (er.mono g1)⟩
def sRet (me : Rho → M PV) : Rho → M Fl := fun ρ => onErr ρ (me ρ) fun v => M.ret (.ret v)
theorem ms_ret (he : ME X W e me) : MS X W (.Return (some e) pos) (sRet me) :=
  PS.imp (ps_ret he) fun D σ H ⟨μ, st, ρ, er, sr, h⟩ => ⟨μ, st, ρ, er, sr, (PostS.onErr h er).mono fun u H1 ⟨μ1, st1, x, g1, s1, rx, h1⟩ => h1 μ1 H1 u (Gr.refl _ _) s1 rx⟩
def sRetN : Rho → M Fl := fun _ => M.ret (.ret .non)
theorem ms_retN : MS X W (.Return none pos) sRetN := PS.imp ps_retN fun D σ H ⟨μ, st, ρ, er, sr, h⟩ => h μ H .non (Gr.refl _ _) sr rfl
def sIf (t : Rho → M Bool) (m m' : Rho → M Fl) : Rho → M Fl := fun ρ => onErr ρ (t ρ) fun c => if c = true then m ρ else m' ρ
theorem ms_if {c : Expr} {sa sb : List Stmt} {t : Rho → M Bool} (hc : MT X W c t) (ha : MSs X W sa m) (hb : MSs X W sb m') : MS X W (.If c sa sb pos) (sIf t m m') :=
  PS.imp (ps_if hc ha hb) fun D σ H ⟨μ, st, ρ, er, sr, h⟩ => ⟨μ, st, ρ, er, sr, (PostS.onErr h er).mono fun c H1 ⟨μ1, st1, c', g1, s1, ec, h1⟩ => by
    subst ec
    cases c' with
    | true => rw [if_pos rfl] at h1 ⊢; exact ⟨μ1, st1, ρ, er.mono g1, s1, h1⟩
    | false => rw [if_neg Bool.false_ne_true] at h1 ⊢; exact ⟨μ1, st1, ρ, er.mono g1, s1, h1⟩⟩
abbrev GM := PV → Rho → M Rho
def tMG (K : PySem.W.Frag) (W : WX) (g : GM) : TG := fun v σ H Q => ∃ μ st ρ p, ER K H μ ρ σ ∧ SR K μ st H ∧ VR K H μ p v ∧ PostG K (fun c d H' => W c d σ H') (ER K) Q μ H (g p ρ st)
def MG (X : Cx) (W : WX) (tg : Expr) (g : GM) : Prop := PG X tg (tMG X.K W g)
theorem PG.imp {tg : Expr} {t t' : TG} (h : PG X tg t) (i : ∀ v σ H Q, t' v σ H Q → t v σ H Q) : PG X tg t' := ⟨fun pins s σ H v u Q I r q => h.run pins s σ H v u Q I r (i v σ H Q q)⟩
def gN (i : Nat) : GM := fun p ρ => M.ret (ρ.set i (some p))
theorem mg_name {i : Nat} {x : Str} (hN : X.N.Nodup) (hi : X.N[i]? = some x) (hx : Loc X.env.scope x) (hf : X.fn x = true ∨ X.env.scope.names.lookup x = some .local := by first | exact .inl rfl | exact .inr rfl | assumption) : MG X W (.Name x pos) (gN i) :=
  PG.imp (pg_name hN hi hx hf) fun v σ H Q ⟨μ, st, ρ, p, er, sr, rv, h⟩ => h μ H _ (Gr.refl _ _) sr (er.set rv i)
abbrev GsM := List PV → Rho → M Rho
def tMGs (K : PySem.W.Frag) (W : WX) (g : GsM) : TGs := fun vs σ H Q => ∃ μ st ρ ps, ER K H μ ρ σ ∧ SR K μ st H ∧ VRs K H μ ps vs ∧ PostG K (fun c d H' => False) (ER K) Q μ H (g ps ρ st)
def MGs (X : Cx) (W : WX) (tgs : List Expr) (g : GsM) : Prop := PGs X tgs (tMGs X.K W g)
theorem PGs.imp {tg : List Expr} {t t' : TGs} (h : PGs X tg t) (i : ∀ v σ H Q, t' v σ H Q → t v σ H Q) : PGs X tg t' := ⟨fun pins s σ H v u Q I r q => h.run pins s σ H v u Q I r (i v σ H Q q)⟩
def gsNil : GsM := fun ps ρ => match ps with
  | [] => M.ret ρ
  | _ => M.fail
def gsCons (g : GM) (r : GsM) : GsM := fun ps ρ => match ps with
  | p :: ps => M.bind (M.calm (g p ρ)) fun ρ1 => r ps ρ1
  | [] => M.fail
theorem mgs_nil : MGs X W [] gsNil := PGs.imp pgs_nil fun vs σ H Q ⟨μ, st, ρ, ps, er, sr, rv, h⟩ => by
  cases ps with
  | nil => exact ⟨rv, h μ H σ (Gr.refl _ _) sr er⟩
  | cons p ps => exact h.elim
theorem mgs_cons {es : List Expr} {g : GM} {r : GsM} (h1 : MG X W e g) (h2 : MGs X W es r) (hs : (assignEach (e :: es) X.env).map (·.2) = assign e X.env :: (assignEach es X.env).map (·.2) := by kernel_rfl) : MGs X W (e :: es) (gsCons g r) :=
  PGs.imp (pgs_cons h1 h2 hs) fun vs σ H Q ⟨μ, st, ρ, ps, er, sr, rv, h⟩ => by
    cases ps with
    | nil => exact h.elim
    | cons p ps =>
      obtain ⟨v, t, ev, rp, rt⟩ := (show ∃ v r, vs = v :: r ∧ VR X.K H μ p v ∧ VRs X.K H μ ps r from rv)
      refine ⟨v, t, ev, μ, st, ρ, p, er, sr, rp, ?_⟩
      have q := PostG.bind (R' := ER X.K) h
      exact (PostG.calm q).mono fun σ1 H1 ⟨μ1, st1, ρ1, g1, s1, e1, h3⟩ => ⟨μ1, st1, ρ1, ps, e1, s1, VRs.mono g1 ps t rt, h3⟩
def gT (n : Nat) (r : GsM) : GM := fun p ρ => match p with
  | .tup xs => if xs.length = n then M.calm (r xs ρ) else M.fail
  | _ => M.fail
theorem mg_tup {es : List Expr} {k n : Nat} {r : GsM} (hc : X.calm = true) (h : MGs X W es r) (hn : (assignEach es X.env).length = n := by kernel_rfl) (hst : (assignEach es X.env).findIdx? (·.1) = none := by kernel_rfl) : MG X W (.Tuple es k pos) (gT n r) :=
  PG.imp (pg_tup hc h hn hst) fun v σ H Q ⟨μ, st, ρ, p, er, sr, rv, h⟩ => by
    cases p with
    | tup xs =>
      obtain ⟨a, vs, ev, ta, rs⟩ := (show ∃ a vs, v = .ref a ∧ TupAt X.K H μ a vs ∧ VRs X.K H μ xs vs from rv)
      have h' : PostG X.K (fun c d H' => W c d σ H') (ER X.K) Q μ H ((if xs.length = n then M.calm (r xs ρ) else M.fail) st) := h
      by_cases hx : xs.length = n
      · rw [if_pos hx] at h'
        exact ⟨a, vs, ev, ta.sq, by rw [← VRs.length rs]; exact hx, μ, st, ρ, xs, er, sr, rs, PostG.calm h'⟩
      · rw [if_neg hx] at h'
        exact h'.elim
    | _ => exact h.elim
def sAsg (me : Rho → M PV) (g : GM) : Rho → M Fl := fun ρ => onErr ρ (me ρ) fun v => onErr ρ (g v ρ) fun ρ' => M.ret (.next ρ')
theorem asg_imp {g : GM} {me : Rho → M PV} : ∀ D σ H, tMS X.K W (sAsg me g) D σ H → tAsg (tM X.K W me) (tMG X.K W g) D σ H := fun D σ H ⟨μ, st, ρ, er, sr, h⟩ =>
  ⟨μ, st, ρ, er, sr, (PostS.onErr h er).mono fun u H1 ⟨μ1, st1, x, g1, s1, rx, h1⟩ => ⟨μ1, st1, ρ, x, er.mono g1, s1, rx, (PostS.onErr h1 (er.mono g1)).mono fun σ2 H2 ⟨μ2, st2, ρ2, g2, s2, e2, h2⟩ => h2 μ2 H2 σ2 (Gr.refl _ _) s2 e2⟩⟩
theorem ms_asg {tg : Expr} {g : GM} (he : ME X W e me) (hg : MG X W tg g) (hs : swapsWithSole [tg] e pos.line X.env = pure false := by kernel_rfl) (hw : swappedStores [tg] e X.env = pure none := by kernel_rfl)
    (h1 : (assignEach [tg] X.env).map (·.2) = [assign tg X.env] := by kernel_rfl) : MS X W (.Assign [tg] e pos) (sAsg me g) := PS.imp (ps_asg he hg hs hw h1) asg_imp
def sSet (i : Nat) (me : Rho → M PV) : Rho → M Fl := fun ρ => onErr ρ (me ρ) fun v => M.ret (.next (ρ.set i (some v)))
theorem ms_set {i : Nat} {x : Str} {pos' : Pos} (hN : X.N.Nodup) (hi : X.N[i]? = some x) (hx : Loc X.env.scope x) (he : ME X W e me) (hs : swapsWith e (some (.Name x pos')) pos.line X.env = pure false := by kernel_rfl)
    (hf : X.fn x = true ∨ X.env.scope.names.lookup x = some .local := by first | exact .inl rfl | exact .inr rfl | assumption) : MS X W (.Assign [.Name x pos'] e pos) (sSet i me) :=
  PS.imp (ps_set hN hi hx he hs hf) fun D σ H ⟨μ, st, ρ, er, sr, h⟩ => ⟨μ, st, ρ, er, sr, (PostS.onErr h er).mono fun u H1 ⟨μ1, st1, x, g1, s1, rx, h1⟩ => h1 μ1 H1 _ (Gr.refl _ _) s1 ((er.mono g1).set rx i)⟩

def turnL (k : Rho → M Fl) (m : M Fl) : M Fl := fun st => match m st with
  | .ok (.next ρ') st' => k ρ' st'
  | .ok (.cont ρ') st' => k ρ' st'
  | .ok (.brk ρ') st' => .ok (.next ρ') st'
  | r => r
def forL (g : GM) (b : Rho → M Fl) : List PV → Rho → M Fl
  | [], ρ => M.ret (.next ρ)
  | p :: ps, ρ => onErr ρ (g p ρ) fun ρ1 => turnL (forL g b ps) (b ρ1)
def Sup (K : PySem.W.Frag) (J : It) (ps : List PV) (μ0 : Mu) (H0 : Hp) : Prop :=
  ∀ μ H st, Gr μ0 H0 μ H → SR K μ st H → (∀ (i : Nat) (p : PV), ps[i]? = some p → J.go i H ∧ ∀ x H', J.yld i H x H' → Gr μ H μ H' ∧ SR K μ st H' ∧ VR K H' μ p x) ∧ J.stop ps.length H
theorem for_imp {K : PySem.W.Frag} {W : WX} {D : Ends} {J : It} {ps : List PV} {g : GM} {b : Rho → M Fl} {μ : Mu} {H : Hp} {σ : St} {ρ : Rho} {st : Sto} (su : Sup K J ps μ H) (er : ER K H μ ρ σ) (sr : SR K μ st H) (h : PostS K W D μ H (forL g b ps ρ st)) :
    ∃ V : Nat → Nat → St → Hp → Prop, (∃ m, V 0 m σ H) ∧ ∀ i m σ H, V i m σ H →
      (J.stop i H ∧ D.nx σ H) ∨ (J.go i H ∧ ∃ N : St → Hp → Prop, (∀ σ' H', N σ' H' → ∃ m', m' < m ∧ V (i + 1) m' σ' H') ∧ ∀ x H', J.yld i H x H' → tMG K W g x σ H' fun σ2 H2 => tMS K W b { D with nx := N, ct := N, bk := D.nx } σ2 H2) := by
  refine ⟨fun i m σ' H' => m = ps.length - i ∧ i ≤ ps.length ∧ ∃ μ' st' ρ', Gr μ H μ' H' ∧ ER K H' μ' ρ' σ' ∧ SR K μ' st' H' ∧ PostS K W D μ' H' (forL g b (ps.drop i) ρ' st'), ⟨ps.length, by simp, Nat.zero_le _, μ, st, ρ, Gr.refl _ _, er, sr, by rw [List.drop_zero]; exact h⟩, ?_⟩
  rintro i m σ1 H1 ⟨rfl, hi, μ1, st1, ρ1, g1, e1, s1, h1⟩
  by_cases hlt : i < ps.length
  · have hp : ps[i]? = some ps[i] := by simp [hlt]
    obtain ⟨go, yl⟩ := (su μ1 H1 st1 g1 s1).1 i ps[i] hp
    refine .inr ⟨go, fun σ' H' => ∃ μ' st' ρ', Gr μ H μ' H' ∧ ER K H' μ' ρ' σ' ∧ SR K μ' st' H' ∧ PostS K W D μ' H' (forL g b (ps.drop (i + 1)) ρ' st'), fun σ' H' q => ⟨ps.length - (i + 1), by omega, rfl, hlt, q⟩, fun x H' y => ?_⟩
    obtain ⟨g2, s2, rx⟩ := yl x H' y
    rw [List.drop_eq_getElem_cons hlt] at h1
    unfold forL at h1
    refine ⟨μ1, st1, ρ1, ps[i], e1.mono g2, s2, rx, (PostS.onErr (PostS.grow h1 g2) (e1.mono g2)).mono fun σ3 H3 ⟨μ3, st3, ρ3, g3, s3, e3, h3⟩ => ⟨μ3, st3, ρ3, e3, s3, ?_⟩⟩
    have gg := (g1.trans g2 fun a m => (s2.ban a m).1).trans g3 fun a m => (s3.ban a m).1
    unfold turnL at h3
    cases q : b ρ3 st3 with
    | ok f st' =>
      rw [q] at h3
      cases f with
      | next ρ' => exact fun μ' H' σ' g4 s4 e4 => ⟨μ', st', ρ', gg.trans g4 (fun a m => (s4.ban a m).1), e4, s4, PostS.grow h3 g4⟩
      | cont ρ' => exact fun μ' H' σ' g4 s4 e4 => ⟨μ', st', ρ', gg.trans g4 (fun a m => (s4.ban a m).1), e4, s4, PostS.grow h3 g4⟩
      | brk ρ' => exact h3
      | ret p => exact h3
      | exc x ρ' => exact h3
    | err x st' => rw [q] at h3; exact h3
    | bad => rw [q] at h3; exact h3
  · have e : i = ps.length := by omega
    subst e
    rw [List.drop_length] at h1
    exact .inl ⟨(su μ1 H1 st1 g1 s1).2, h1 μ1 H1 σ1 (Gr.refl _ _) s1 e1⟩
def tMI (K : PySem.W.Frag) (W : WX) (m : Rho → M (List PV)) : TI := fun σ H R => ∃ μ st ρ, ER K H μ ρ σ ∧ SR K μ st H ∧ PostG K (fun c d H' => W c d σ H') (fun H μ ps (J : It) => Sup K J ps μ H) R μ H (m ρ st)
def MI (X : Cx) (W : WX) (tg iter : Expr) (m : Rho → M (List PV)) : Prop := PI X tg iter (tMI X.K W m)
theorem PI.imp {tg iter : Expr} {t t' : TI} (h : PI X tg iter t) (i : ∀ σ H R, t' σ H R → t σ H R) : PI X tg iter t' := ⟨fun pins s σ H R I q => h.run pins s σ H R I (i σ H R q)⟩
def sFor (mi : Rho → M (List PV)) (g : GM) (b : Rho → M Fl) : Rho → M Fl := fun ρ => onErr ρ (mi ρ) fun ps => forL g b ps ρ
theorem ms_for {tg iter : Expr} {body : List Stmt} {mi : Rho → M (List PV)} {g : GM} (hp : PassesOwn (model X.prog X.w) X.A X.env X.xe) (hc : X.calm = true) (hi : MI X W tg iter mi) (hg : MG X W tg g) (hb : MSs X W body m)
    (hs : ∀ x, foldedSetIterable iter X.env x = pure x := by intro _; kernel_rfl) : MS X W (.For tg iter body [] pos) (sFor mi g m) :=
  PS.imp (ps_for hp hc hi hg hb hs) fun D σ H ⟨μ, st, ρ, er, sr, h⟩ => ⟨μ, st, ρ, er, sr, (PostS.onErr h er).mono fun J H1 ⟨μ1, st1, ps, g1, s1, su, h1⟩ => for_imp su (er.mono g1) s1 h1⟩
def whileF (t : Rho → M Bool) (b : Rho → M Fl) : Nat → Rho → M Fl
  | 0, _ => M.fail
  | n + 1, ρ => onErr ρ (t ρ) fun c => if c = true then turnL (whileF t b n) (b ρ) else M.ret (.next ρ)
theorem ms_while {c : Expr} {body : List Stmt} {t : Rho → M Bool} (n : Nat) (hp : PassesOwn (model X.prog X.w) X.A X.env X.xe) (hc : MT X W c t) (hb : MSs X W body m) : MS X W (.While c body [] pos) (whileF t m n) :=
  PS.imp (ps_while hp hc hb) fun D σ H h => by
    refine ⟨fun n σ H => tMS X.K W (whileF t m n) D σ H, ⟨n, h⟩, ?_⟩
    rintro n σ H ⟨μ, st, ρ, er, sr, h⟩
    cases n with
    | zero => exact h.elim
    | succ n =>
      unfold whileF at h
      refine ⟨μ, st, ρ, er, sr, (PostS.onErr h er).mono fun c H1 ⟨μ1, st1, c', g1, s1, ec, h1⟩ => ?_⟩
      subst ec
      cases c' with
      | false =>
        rw [if_neg Bool.false_ne_true] at h1 ⊢
        exact h1 μ1 H1 σ (Gr.refl _ _) s1 (er.mono g1)
      | true =>
        rw [if_pos rfl] at h1 ⊢
        refine ⟨fun σ' H' => tMS X.K W (whileF t m n) D σ' H', fun σ' H' q => ⟨n, Nat.lt_succ_self _, q⟩, μ1, st1, ρ, er.mono g1, s1, ?_⟩
        unfold turnL at h1
        cases q : m ρ st1 with
        | ok f st' =>
          rw [q] at h1
          cases f with
          | next ρ' => exact fun μ' H' σ' g4 s4 e4 => ⟨μ', st', ρ', e4, s4, PostS.grow h1 g4⟩
          | cont ρ' => exact fun μ' H' σ' g4 s4 e4 => ⟨μ', st', ρ', e4, s4, PostS.grow h1 g4⟩
          | brk ρ' => exact h1
          | ret p => exact h1
          | exc x ρ' => exact h1
        | err x st' => rw [q] at h1; exact h1
        | bad => rw [q] at h1; exact h1
end

def runB (m : Rho → M Fl) (n : Nat) (ps : List PV) : M PV := fun st => match m (ps.map some ++ List.replicate (n - ps.length) none) st with
  | .ok (.next _) st' => .ok .non st'
  | .ok (.ret p) st' => .ok p st'
  | .ok (.exc x _) st' => .err x st'
  | _ => .bad
theorem er_start {K : PySem.W.Frag} {H : Hp} {μ : Mu} {N : List Str} {ps : List PV} {vs : List V} (r : VRs K H μ ps vs) : ER K H μ (ps.map some ++ List.replicate (N.length - ps.length) none) (L2.start N vs) := by
  have hl := VRs.length r
  refine ⟨by unfold L2.start; simp [hl], fun i p h => ?_⟩
  by_cases hi : i < ps.length
  · rw [List.getElem?_append_left (by simpa using hi), List.getElem?_map] at h
    cases q : ps[i]? with
    | none => rw [q] at h; cases h
    | some p' =>
      rw [q] at h
      cases h
      obtain ⟨v, e1, e2⟩ := VRs.get r q
      refine ⟨v, ?_, e2⟩
      unfold L2.start
      rw [List.getElem?_append_left (by simpa [← hl] using hi), List.getElem?_map, e1]
      rfl
  · rw [List.getElem?_append_right (by simpa using hi), List.getElem?_replicate] at h
    split at h <;> cases h
theorem def_ok {P : Program} {w : World} {K : PySem.W.Frag} {mg : Str → Option Value} {base : Heap} {x qual : Str} {st : Stmt} {f : Addr} {fd : FuncData} {N ps : List Str} {k : Nat} {m : Rho → M Fl} (F : Fun K x qual st f fd) (S : FnScope N ps (defScope st))
    (hb : ∀ (cdv : Value) (A : Around) (outer : List Env) (s : Shared) (H : Hp) (E : XK), Room k (A.deeper (PyProof.Rows.envOfC qual (defScope st) s.heap.objs.size f cdv)) →
      MSs (cxOf (L2.CX P w) P w K mg base N qual (defScope st) f cdv A outer s H E) (fun c d _ H => E c d H) (defBody st) m) :
    FnOk P w K mg base (L2.CX P w) (k + 1) f fd ps (spM K (runB m N.length) ps.length) := by
  refine F.okX S (fun vs H Q E h => ?_) (fun cdv A outer s H vs Q E hr h => ?_)
  · obtain ⟨μ, st, qs, _, r, hn, _⟩ := h
    rw [← VRs.length r, hn]
  · refine ⟨_, hb cdv A outer s H E hr, ?_⟩
    obtain ⟨μ, st, qs, sr, r, hn, h⟩ := h
    refine ⟨μ, st, _, er_start r, sr, ?_⟩
    unfold runB at h
    cases q : m (qs.map some ++ List.replicate (N.length - qs.length) none) st with
    | ok fl st' =>
      rw [q] at h
      cases fl with
      | next ρ' => exact fun μ' H' σ' g s e => h μ' H' .non g s rfl
      | ret p => exact h
      | brk ρ' => exact h.elim
      | cont ρ' => exact h.elim
      | exc x ρ' => exact fun μ' H' σ' d g s e z => h μ' H' d g s z
    | err x st' => rw [q] at h; exact h.elim
    | bad => rw [q] at h; exact h.elim
end MP

set_option maxRecDepth 100000
set_option maxHeartbeats 4000000
namespace MP
open PySem L2 PySem.Spec PyProof.Rows
theorem tuple_mul1 (l : Addr) (items : Array Value) (n : Nat) (dd : Option Addr) (sl : Array (Option Value)) (u : Tok) :
    Meets (Builtin.«tuple.__mul__» ⟨[.ref l, .int 1 u], []⟩) (fun _ R s => s.heap.get? l = some { cls := .type "tuple", dict := dd, data := .seq items n, slots := sl } ∧ R (.ok (.ret (Value.ref l))) s) :=
  .of_wp fun prog w A R s h => by
    obtain ⟨hp, g, d, tk, os⟩ := s
    obtain ⟨hl, h⟩ := h
    have f1 := AutoSeq1.idx_int
    wp_walk using wpAny_loadPart' hl
    exact ⟨_, rfl, h⟩
theorem tuple_mul0 (l : Addr) (items : Array Value) (n : Nat) (dd : Option Addr) (sl : Array (Option Value)) (x : Int) (u : Tok) (c0 : (decide (x < -(2 ^ 63)) || decide (x ≥ 2 ^ 63)) = false) (c1 : (items.isEmpty || x == 1) = false) (c2 : (decide (x ≤ 0) || items.isEmpty) = true) :
    Meets (Builtin.«tuple.__mul__» ⟨[.ref l, .int x u], []⟩) (fun _ R s => s.heap.get? l = some { cls := .type "tuple", dict := dd, data := .seq items n, slots := sl } ∧
      R (.ok (.ret (Value.ref s.heap.objs.size))) { s with heap := s.heap.push { cls := Value.type "tuple", data := Data.seq #[] }, toks := s.toks }) :=
  .of_wp fun prog w A R s h => by
    obtain ⟨hp, g, d, tk, os⟩ := s
    obtain ⟨hl, h⟩ := h
    have f1 := AutoSeq1.idx_int
    wp_walk using wpAny_loadPart' hl
    repeat (first
      | (refine wpAny_ite_false (decide_eq_false (by rw [c0]; exact Bool.false_ne_true)) ?_; wp_walk using wpAny_loadPart' hl)
      | (refine wpAny_ite_false (decide_eq_false (by rw [c1]; exact Bool.false_ne_true)) ?_; wp_walk using wpAny_loadPart' hl)
      | (refine wpAny_ite_true (decide_eq_true (by rw [c2])) ?_; wp_walk using wpAny_loadPart' hl))
    exact ⟨_, rfl, h⟩
def rRepL (K : PySem.W.Frag) : R2 := fun x y H Q => ∃ l k xs, x = .ref l ∧ y = .int k ∧ SqT K H l xs ∧ ((k = 1 ∧ Q (.ref l) H) ∨ (xs ≠ [] ∧ k ≤ 0 ∧ -1000000 ≤ k ∧ ∀ p, H p = none → Q (.ref p) (upd H p (.tup []))))
theorem op_repL {X : Cx} : OpR X (binaryOp .Mult) (rRepL X.K) := by
  intro pins s σ H x y v u Q I rx ry h
  obtain ⟨l, k, xs, rfl, rfl, hT, h⟩ := h
  cases rx
  obtain ⟨t, rfl⟩ := ry
  obtain ⟨its, r, ⟨⟨cls, dd, data, sl⟩, ho, hc, n, hd⟩, hs⟩ := I.tuple hT
  simp only at hc hd
  subst hc hd
  have hle : its.length = xs.length := r.length.symm
  rcases h with ⟨rfl, q⟩ | ⟨hne, h1, h2, q⟩
  · refine wpAny_binaryOp_repeat_ref (T := "tuple") (U := "int") (by decide) ⟨_, ho, rfl⟩ (fun s' => typeIs_int s' 1 t) noFill_tuple_mul F.fills_int_mul F.slot_int_rmul repeat_tuple F.slot_int_index.lookup
      (call_meets F.slot_int_rmul (typeIs_int s 1 t) F.entry_int_rmul (F.args_int_rmul_2 _ _) (int_rmul_tuple 1 t l its.toArray n dd sl)
        ⟨ho, rfl, ⟨_, ho, rfl⟩, call_meets F.slot_tuple_mul ⟨_, ho, rfl⟩ F.entry_tuple_mul (F.args_tuple_mul_2 _ _) (tuple_mul1 l its.toArray n dd sl t) ⟨ho, ?_⟩⟩)
    exact ⟨.ref l, H, I, rfl, q⟩
  · have hn : its ≠ [] := fun e => hne (by
      rw [e] at hle
      exact List.eq_nil_of_length_eq_zero hle.symm)
    have hi : its.toArray.isEmpty = false := by
      cases its with
      | nil => exact absurd rfl hn
      | cons a b => rfl
    have c0 : (decide (k < -(2 ^ 63)) || decide (k ≥ 2 ^ 63)) = false := by
      rw [decide_eq_false (by omega), decide_eq_false (by omega)] <;> rfl
    have c1 : (its.toArray.isEmpty || k == 1) = false := by
      rw [hi, Bool.false_or]
      exact beq_eq_false_iff_ne.mpr (by omega)
    have c2 : (decide (k ≤ 0) || its.toArray.isEmpty) = true := by
      rw [hi, Bool.or_false]
      exact decide_eq_true (by omega)
    refine wpAny_binaryOp_repeat_ref (T := "tuple") (U := "int") (by decide) ⟨_, ho, rfl⟩ (fun s' => typeIs_int s' k t) noFill_tuple_mul F.fills_int_mul F.slot_int_rmul repeat_tuple F.slot_int_index.lookup
      (call_meets F.slot_int_rmul (typeIs_int s k t) F.entry_int_rmul (F.args_int_rmul_2 _ _) (int_rmul_tuple k t l its.toArray n dd sl)
        ⟨ho, rfl, ⟨_, ho, rfl⟩, call_meets F.slot_tuple_mul ⟨_, ho, rfl⟩ F.entry_tuple_mul (F.args_tuple_mul_2 _ _) (tuple_mul0 l its.toArray n dd sl k t c0 c1 c2) ⟨ho, ?_⟩⟩)
    refine ⟨.ref s.heap.objs.size, _, I.laid (t' := s.toks) (o := .tup []) (fun b ob q => Heap.get?_push_of_some _ q) (Nat.le_refl _) ?_, rfl, q _ (I.hok.fresh (Nat.le_refl _))⟩
    exact ⟨by rw [sizeLine_eq]; simp, _, .nil, IsTup.new _ _⟩
end MP

set_option maxRecDepth 100000
set_option maxHeartbeats 1000000
namespace MP
open PySem L2
abbrev SZ : Nat := 16777216
theorem sz_eq : sizeLine = SZ := sizeLine_eq
section
variable {K : PySem.W.Frag} {H : Hp} {μ : Mu} {st : Sto} {E : XK} {Q : VK} {x y : PV} {u v : V}
theorem post_tup {ps : List PV} {vs : List V} {p : Addr} (sr : SR K μ st H) (r : VRs K H μ ps vs) (hp : H p = none) (h : PostG K E (VR K) Q μ H (.ok (.tup ps) st)) : Q (.ref p) (upd H p (.tup vs)) :=
  h μ _ _ (gr_new hp) (sr.new hp) (show ∃ a ws, V.ref p = .ref a ∧ TupAt K (upd H p (.tup vs)) μ a ws ∧ VRs K (upd H p (.tup vs)) μ ps ws from ⟨p, vs, rfl, .inl ⟨upd_same, sr.free hp⟩, VRs.mono (gr_new hp) ps vs r⟩)
theorem post_lst {ps : List PV} {vs : List V} {p : Addr} (sr : SR K μ st H) (r : VRs K H μ ps vs) (hp : H p = none) (h : PostG K E (VR K) Q μ H (.ok (.lst ps) st)) : Q (.ref p) (upd H p (.lst vs)) :=
  h μ _ _ (gr_new hp) (sr.new hp) (show ∃ a ws, V.ref p = .ref a ∧ LstAt (upd H p (.lst vs)) μ a ws ∧ VRs K (upd H p (.lst vs)) μ ps ws from ⟨p, vs, rfl, ⟨upd_same, sr.free hp⟩, VRs.mono (gr_new hp) ps vs r⟩)
theorem post_cell {c : Cell} {o : HO} {p : Addr} (h : PostG K E (VR K) Q μ H (.ok (.loc st.length) (st ++ [c]))) (sr : SR K μ st H) (hp : H p = none) (hc : CR K (upd H p o) (μ.add p) p c) : Q (.ref p) (upd H p o) :=
  h _ _ _ (gr_alloc hp) (sr.alloc hp hc) (show ∃ a, V.ref p = .ref a ∧ (μ.add p).l[st.length]? = some a from ⟨p, rfl, by rw [← sr.len]; simp [Mu.add]⟩)
theorem post_same {p : PV} (h : PostG K E (VR K) Q μ H (.ok p st)) (sr : SR K μ st H) (r : VR K H μ p v) : Q v H := h μ H v (Gr.refl _ _) sr r
theorem lst_at {ps : List PV} (r : VR K H μ (.lst ps) v) : ∃ a vs, v = .ref a ∧ LstAt H μ a vs ∧ VRs K H μ ps vs := r
theorem frz_at {ps : List PV} (r : VR K H μ (.frz ps) v) : ∃ a vs, v = .ref a ∧ FrzAt K H μ a vs ∧ VRs K H μ ps vs := r
theorem tup_at {ps : List PV} (r : VR K H μ (.tup ps) v) : ∃ a vs, v = .ref a ∧ TupAt K H μ a vs ∧ VRs K H μ ps vs := r
theorem loc_at {n : Nat} (r : VR K H μ (.loc n) v) : ∃ a, v = .ref a ∧ μ.l[n]? = some a := r
def listOf (p : PV) (st : Sto) : Option (List PV) := match p with
  | .lst xs => some xs
  | .loc n => match st[n]? with
    | some (.lst xs) => some xs
    | _ => none
  | _ => none
theorem listOf_at {ps : List PV} (sr : SR K μ st H) (r : VR K H μ x v) (h : listOf x st = some ps) : ∃ a vs, v = .ref a ∧ H a = some (.lst vs) ∧ VRs K H μ ps vs := by
  cases x with
  | lst xs =>
    cases h
    obtain ⟨a, vs, e, l, rs⟩ := lst_at r
    exact ⟨a, vs, e, l.1, rs⟩
  | loc n =>
    obtain ⟨a, e, ha⟩ := loc_at r
    unfold listOf at h
    dsimp only at h
    cases q : st[n]? with
    | none => rw [q] at h; cases h
    | some c =>
      rw [q] at h
      cases c with
      | lst xs =>
        cases h
        obtain ⟨vs, h1, h2⟩ := sr.cell n _ a q ha
        exact ⟨a, vs, e, h1, h2⟩
      | dct kvs => cases h
      | ins C fs => cases h
  | _ => cases h
def seqOf (p : PV) (st : Sto) : Option (List PV) := match p with
  | .lst xs => some xs
  | .frz xs => some xs
  | .tup xs => some xs
  | .loc n => match st[n]? with
    | some (.lst xs) => some xs
    | _ => none
  | _ => none
theorem seqOf_at {ps : List PV} (sr : SR K μ st H) (r : VR K H μ x v) (h : seqOf x st = some ps) : ∃ a vs, v = .ref a ∧ (SqL K H a vs ∨ SqT K H a vs) ∧ VRs K H μ ps vs := by
  cases x with
  | lst xs =>
    cases h
    obtain ⟨a, vs, e, l, rs⟩ := lst_at r
    exact ⟨a, vs, e, .inl l.sq, rs⟩
  | frz xs =>
    cases h
    obtain ⟨a, vs, e, l, rs⟩ := frz_at r
    exact ⟨a, vs, e, .inl l.sq, rs⟩
  | tup xs =>
    cases h
    obtain ⟨a, vs, e, l, rs⟩ := tup_at r
    exact ⟨a, vs, e, .inr l.sq, rs⟩
  | loc n =>
    obtain ⟨a, vs, e, l, rs⟩ := listOf_at sr r (show listOf (.loc n) st = some ps from h)
    exact ⟨a, vs, e, .inl (SqL.of l), rs⟩
  | _ => cases h
theorem VRs.atI {ps : List PV} {vs : List V} {i : Int} {p : PV} (r : VRs K H μ ps vs) (h : L2.atI ps i = some p) : ∃ w, L2.atI vs i = some w ∧ VR K H μ p w := by
  unfold L2.atI at h ⊢
  rw [VRs.length r] at h
  cases q : ixN vs.length i with
  | none => rw [q] at h; cases h
  | some j =>
    rw [q] at h
    exact VRs.get r h
end

def addV (x y : PV) : M PV := match x, y with
  | .int i, .int j => M.ret (.int (i + j))
  | .str a, .str b => if a.length + b.length ≤ SZ then M.ret (.str (a ++ b)) else M.fail
  | .tup a, .tup b => if a.length + b.length ≤ SZ then M.ret (.tup (a ++ b)) else M.fail
  | x, y => fun st => match listOf x st, listOf y st with
    | some a, some b => if a.length + b.length ≤ SZ then .ok (.lst (a ++ b)) st else .bad
    | _, _ => .bad
def rAddM (K : PySem.W.Frag) : R2 := fun x y H Q => (∃ i j, x = .int i ∧ y = .int j ∧ Q (.int (i + j)) H) ∨ (∃ i j, x = .str i ∧ y = .str j ∧ i.length + j.length ≤ sizeLine ∧ Q (.str (i ++ j)) H) ∨ rCatA K x y H Q ∨ rCat x y H Q
theorem op_addM {X : Cx} : OpR X (binaryOp .Add) (rAddM X.K) := op_add.or (op_add_str.or (op_catA.or op_cat))
theorem str_app (a b : List Nat) : (⟨a.toArray⟩ : Str) ++ (⟨b.toArray⟩ : Str) = ⟨(a ++ b).toArray⟩ := by
  show (⟨a.toArray ++ b.toArray⟩ : Str) = ⟨(a ++ b).toArray⟩
  simp
theorem str_len (a : List Nat) : (⟨a.toArray⟩ : Str).length = a.length := by
  show a.toArray.size = a.length
  simp
theorem add_list {K : PySem.W.Frag} {μ : Mu} {st : Sto} {H : Hp} {x y : PV} {u v : V} {E : XK} {Q : VK} (sr : SR K μ st H) (rx : VR K H μ x u) (ry : VR K H μ y v)
    (h : PostG K E (VR K) Q μ H (match listOf x st, listOf y st with
    | some a, some b => if a.length + b.length ≤ SZ then .ok (.lst (a ++ b)) st else .bad
    | _, _ => .bad)) : rCat u v H Q := by
  cases q1 : listOf x st with
  | none => rw [q1] at h; exact h.elim
  | some a =>
    cases q2 : listOf y st with
    | none => rw [q1, q2] at h; exact h.elim
    | some b =>
      rw [q1, q2] at h
      dsimp only at h
      by_cases hz : a.length + b.length ≤ SZ
      · rw [if_pos hz] at h
        obtain ⟨p, vs, rfl, h1, r1⟩ := listOf_at sr rx q1
        obtain ⟨p', vs', rfl, h2, r2⟩ := listOf_at sr ry q2
        exact ⟨p, p', vs, vs', rfl, rfl, h1, h2, by rw [← VRs.length r1, ← VRs.length r2, sz_eq]; exact hz, fun q hq => post_lst sr (VRs.append r1 r2) hq h⟩
      · rw [if_neg hz] at h
        exact h.elim
theorem t_add {K : PySem.W.Frag} : T2 K (rAddM K) addV := by
  intro μ st H x y u v E Q sr rx ry h
  cases x with
  | int i =>
    cases y with
    | int j =>
      cases (show u = V.int _ from rx); cases (show v = V.int _ from ry)
      exact .inl ⟨_, _, rfl, rfl, post_same h sr rfl⟩
    | _ => exact .inr (.inr (.inr (add_list sr rx ry h)))
  | str a =>
    cases y with
    | str b =>
      cases (show u = V.str ⟨a.toArray⟩ from rx); cases (show v = V.str ⟨b.toArray⟩ from ry)
      unfold addV at h
      dsimp only at h
      by_cases hz : a.length + b.length ≤ SZ
      · rw [if_pos hz] at h
        exact .inr (.inl ⟨_, _, rfl, rfl, by rw [str_len, str_len, sz_eq]; exact hz, by rw [str_app]; exact post_same h sr rfl⟩)
      · rw [if_neg hz] at h
        exact h.elim
    | _ => exact .inr (.inr (.inr (add_list sr rx ry h)))
  | tup a =>
    cases y with
    | tup b =>
      obtain ⟨p, vs, rfl, h1, r1⟩ := tup_at rx
      obtain ⟨p', vs', rfl, h2, r2⟩ := tup_at ry
      unfold addV at h
      dsimp only at h
      by_cases hz : a.length + b.length ≤ SZ
      · rw [if_pos hz] at h
        refine .inr (.inr (.inl ⟨p, p', vs, vs', rfl, rfl, h1.sq, h2.sq, by rw [← VRs.length r1, ← VRs.length r2, sz_eq]; exact hz, fun e => ?_, fun _ e => ?_, fun _ _ q hq => post_tup sr (VRs.append r1 r2) hq h⟩))
        · have ea : a = [] := (VRs.nil_iff r1).mp e
          subst ea
          exact post_same h sr ry
        · have eb : b = [] := (VRs.nil_iff r2).mp e
          subst eb
          rw [List.append_nil] at h
          exact post_same h sr rx
      · rw [if_neg hz] at h
        exact h.elim
    | _ => exact .inr (.inr (.inr (add_list sr rx ry h)))
  | _ => exact .inr (.inr (.inr (add_list sr rx ry h)))
def subV (x y : PV) : M PV := match x, y with
  | .int i, .int j => M.ret (.int (i - j))
  | _, _ => M.fail
theorem t_sub {K : PySem.W.Frag} : T2 K (rI0 fun i j => .int (i - j)) subV := by
  intro μ st H x y u v E Q sr rx ry h
  unfold subV at h
  split at h
  · cases (show u = V.int _ from rx); cases (show v = V.int _ from ry)
    exact ⟨_, _, rfl, rfl, post_same h sr rfl⟩
  · exact h.elim
def mulOk (i j : Int) : Bool := decide (-18446744073709551616 < i ∧ i < 18446744073709551616) || decide (-18446744073709551616 < j ∧ j < 18446744073709551616)
def mulV (x y : PV) : M PV := match x, y with
  | .int i, .int j => if mulOk i j = true then M.ret (.int (i * j)) else M.fail
  | .tup a, .int k => if a ≠ [] ∧ -1000000 ≤ k ∧ k ≤ 1000 ∧ a.length ≤ 1000 then M.ret (.tup (List.replicate k.toNat a).flatten) else M.fail
  | _, _ => M.fail
theorem VRs.rep {K : PySem.W.Frag} {H : Hp} {μ : Mu} {ps : List PV} {vs : List V} (r : VRs K H μ ps vs) : ∀ k : Nat, VRs K H μ (List.replicate k ps).flatten (List.replicate k vs).flatten
  | 0 => rfl
  | k + 1 => by
    rw [List.replicate_succ, List.replicate_succ, List.flatten_cons, List.flatten_cons]
    exact VRs.append r (VRs.rep r k)
theorem t_mul {K : PySem.W.Frag} : T2 K (fun x y H Q => rI CMul (fun i j => .int (i * j)) x y H Q ∨ (rRepT K x y H Q ∨ rRepL K x y H Q)) mulV := by
  intro μ st H x y u v E Q sr rx ry h
  unfold mulV at h
  split at h
  · rename_i i j
    cases (show u = V.int i from rx); cases (show v = V.int j from ry)
    by_cases hz : mulOk i j = true
    · rw [if_pos hz] at h
      refine .inl ⟨_, _, rfl, rfl, ?_, post_same h sr rfl⟩
      unfold mulOk at hz
      rw [Bool.or_eq_true, decide_eq_true_eq, decide_eq_true_eq] at hz
      exact hz
    · rw [if_neg hz] at h
      exact h.elim
  · rename_i a k
    obtain ⟨p, vs, rfl, h1, r1⟩ := tup_at rx
    cases (show v = V.int k from ry)
    by_cases hz : a ≠ [] ∧ -1000000 ≤ k ∧ k ≤ 1000 ∧ a.length ≤ 1000
    · rw [if_pos hz] at h
      have hn : vs ≠ [] := fun e => hz.1 ((VRs.nil_iff r1).mp e)
      by_cases h2 : 2 ≤ k
      · exact .inr (.inl ⟨p, k, vs, rfl, rfl, h1.sq, hn, h2, hz.2.2.1, by rw [← VRs.length r1]; exact hz.2.2.2, fun q hq => post_tup sr (VRs.rep r1 _) hq h⟩)
      · by_cases h3 : k = 1
        · subst h3
          have e : (List.replicate (1 : Int).toNat a).flatten = a := by simp
          rw [e] at h
          exact .inr (.inr ⟨p, 1, vs, rfl, rfl, h1.sq, .inl ⟨rfl, post_same h sr rx⟩⟩)
        · have e : (List.replicate k.toNat a).flatten = [] := by rw [show k.toNat = 0 by omega]; rfl
          rw [e] at h
          exact .inr (.inr ⟨p, k, vs, rfl, rfl, h1.sq, .inr ⟨hn, by omega, hz.2.1, fun q hq => post_tup (ps := []) sr (show VRs K H μ [] [] from rfl) hq h⟩⟩)
    · rw [if_neg hz] at h
      exact h.elim
  · exact h.elim
def fdivV (x y : PV) : M PV := match x, y with
  | .int i, .int j => if (j ≠ 0 ∧ j.natAbs < 1073741824) ∨ (0 < j ∧ j.natAbs.log2 < 9000) then M.ret (.int (i.fdiv j)) else M.fail
  | _, _ => M.fail
theorem t_fdiv {K : PySem.W.Frag} : T2 K (fun x y H Q => rI CDivN (fun i j => .int (i.fdiv j)) x y H Q ∨ rI CDivW (fun i j => .int (i / j)) x y H Q) fdivV := by
  intro μ st H x y u v E Q sr rx ry h
  unfold fdivV at h
  split at h
  · rename_i i j
    cases (show u = V.int i from rx); cases (show v = V.int j from ry)
    by_cases hz : (j ≠ 0 ∧ j.natAbs < 1073741824) ∨ (0 < j ∧ j.natAbs.log2 < 9000)
    · rw [if_pos hz] at h
      rcases hz with hz | hz
      · exact .inl ⟨_, _, rfl, rfl, hz, post_same h sr rfl⟩
      · refine .inr ⟨_, _, rfl, rfl, hz, ?_⟩
        have q := post_same (v := V.int (i.fdiv j)) h sr rfl
        rw [Int.fdiv_eq_ediv_of_nonneg i (by omega)] at q
        exact q
    · rw [if_neg hz] at h
      exact h.elim
  · exact h.elim
def modV (x y : PV) : M PV := match x, y with
  | .int i, .int j => if j ≠ 0 then M.ret (.int (i.fmod j)) else M.fail
  | _, _ => M.fail
theorem t_mod {K : PySem.W.Frag} : T2 K (rI (fun _ j => j ≠ 0) fun i j => .int (i.fmod j)) modV := by
  intro μ st H x y u v E Q sr rx ry h
  unfold modV at h
  split at h
  · rename_i i j
    cases (show u = V.int i from rx); cases (show v = V.int j from ry)
    by_cases hz : j ≠ 0
    · rw [if_pos hz] at h
      exact ⟨_, _, rfl, rfl, hz, post_same h sr rfl⟩
    · rw [if_neg hz] at h
      exact h.elim
  · exact h.elim
def powV (x y : PV) : M PV := match x, y with
  | .int i, .int j => if 0 ≤ j ∧ j ≤ 1000000 ∧ i.natAbs < 18446744073709551616 then M.ret (.int (i ^ j.toNat)) else M.fail
  | _, _ => M.fail
theorem t_pow {K : PySem.W.Frag} : T2 K (rI CPow fun i j => .int (i ^ j.toNat)) powV := by
  intro μ st H x y u v E Q sr rx ry h
  unfold powV at h
  split at h
  · rename_i i j
    cases (show u = V.int i from rx); cases (show v = V.int j from ry)
    by_cases hz : 0 ≤ j ∧ j ≤ 1000000 ∧ i.natAbs < 18446744073709551616
    · rw [if_pos hz] at h
      exact ⟨_, _, rfl, rfl, hz, post_same h sr rfl⟩
    · rw [if_neg hz] at h
      exact h.elim
  · exact h.elim
def negV (x : PV) : M PV := match x with
  | .int i => M.ret (.int (-i))
  | _ => M.fail
theorem t_neg {K : PySem.W.Frag} : T1 K (rU fun i => .int (-i)) negV := by
  intro μ st H x u E Q sr rx h
  unfold negV at h
  split at h
  · cases (show u = V.int _ from rx)
    exact ⟨_, rfl, post_same h sr rfl⟩
  · exact h.elim
section
variable {X : Cx} {W : WX} {a b : Expr} {pos : Pos} {ma mb : Rho → M PV}
theorem me_add (ha : ME X W a ma) (hb : ME X W b mb) : ME X W (.BinOp a .Add b pos) (eBin addV ma mb) := me_bin op_addM t_add ha hb
theorem me_sub (ha : ME X W a ma) (hb : ME X W b mb) : ME X W (.BinOp a .Sub b pos) (eBin subV ma mb) := me_bin op_sub t_sub ha hb
theorem me_mul (ha : ME X W a ma) (hb : ME X W b mb) : ME X W (.BinOp a .Mult b pos) (eBin mulV ma mb) := me_bin (op_mul.or (op_repT.or op_repL)) t_mul ha hb
theorem me_fdiv (ha : ME X W a ma) (hb : ME X W b mb) : ME X W (.BinOp a .FloorDiv b pos) (eBin fdivV ma mb) := me_bin (op_fdivN.or op_fdivW) t_fdiv ha hb
theorem me_mod (ha : ME X W a ma) (hb : ME X W b mb) : ME X W (.BinOp a .Mod b pos) (eBin modV ma mb) := me_bin op_modN t_mod ha hb
theorem me_pow (ha : ME X W a ma) (hb : ME X W b mb) : ME X W (.BinOp a .Pow b pos) (eBin powV ma mb) := me_bin op_pow t_pow ha hb
theorem me_neg (ha : ME X W a ma) : ME X W (.UnaryOp .USub a pos) (eUn negV ma) := me_un un_neg t_neg ha
end
def ltV (p : Int → Int → Bool) (x y : PV) : M PV := match x, y with
  | .int i, .int j => M.ret (.bl (p i j))
  | _, _ => M.fail
theorem t_cmpI {K : PySem.W.Frag} (p : Int → Int → Bool) : T2 K (rI0 fun i j => .bl (p i j)) (ltV p) := by
  intro μ st H x y u v E Q sr rx ry h
  unfold ltV at h
  split at h
  · cases (show u = V.int _ from rx); cases (show v = V.int _ from ry)
    exact ⟨_, _, rfl, rfl, post_same h sr rfl⟩
  · exact h.elim
abbrev ltI : PV → PV → M PV := ltV fun i j => decide (i < j)
abbrev leI : PV → PV → M PV := ltV fun i j => decide (i ≤ j)
abbrev gtI : PV → PV → M PV := ltV fun i j => decide (j < i)
abbrev geI : PV → PV → M PV := ltV fun i j => decide (j ≤ i)
mutual
def eqb : PV → PV → Bool
  | .non, .non => true
  | .bl a, .bl b => a == b
  | .bl a, .int j => (if a then 1 else 0) == j
  | .int i, .bl b => i == (if b then 1 else 0)
  | .int i, .int j => i == j
  | .str x, .str y => x == y
  | .lst xs, .lst ys => eqbs xs ys
  | .tup xs, .tup ys => eqbs xs ys
  | _, _ => false
def eqbs : List PV → List PV → Bool
  | [], [] => true
  | x :: xs, y :: ys => eqb x y && eqbs xs ys
  | _, _ => false
end
mutual
def toD : PV → Option PyData
  | .non => some .none
  | .bl b => some (.bool b)
  | .int i => some (.int i)
  | .str x => some (.str ⟨x.toArray⟩)
  | .lst xs => (toDs xs).map .list
  | .tup xs => (toDs xs).map .tuple
  | _ => none
def toDs : List PV → Option (List PyData)
  | [] => some []
  | x :: xs => match toD x, toDs xs with
    | some d, some ds => some (d :: ds)
    | _, _ => none
end
end MP

set_option maxRecDepth 100000
set_option maxHeartbeats 1000000
namespace MP
open PySem L2
mutual
theorem eqb_eqv : ∀ (x y : PV) (d e : PyData), toD x = some d → toD y = some e → PyData.eqv d e = eqb x y
  | .non, y, d, e, h1, h2 => by
    cases h1
    cases y <;> simp [toD] at h2 <;> (try (obtain ⟨z, _, rfl⟩ := h2)) <;> (try subst h2) <;> simp [PyData.eqv, eqb]
  | .bl a, y, d, e, h1, h2 => by
    cases h1
    cases y <;> simp [toD] at h2 <;> (try (obtain ⟨z, _, rfl⟩ := h2)) <;> (try subst h2) <;> simp [PyData.eqv, eqb]
  | .int a, y, d, e, h1, h2 => by
    cases h1
    cases y <;> simp [toD] at h2 <;> (try (obtain ⟨z, _, rfl⟩ := h2)) <;> (try subst h2) <;> simp [PyData.eqv, eqb]
  | .str a, y, d, e, h1, h2 => by
    cases h1
    cases y <;> simp [toD] at h2 <;> (try (obtain ⟨z, _, rfl⟩ := h2)) <;> (try subst h2) <;> simp [PyData.eqv, eqb]
    rw [Bool.eq_iff_iff]
    simp
  | .tup xs, y, d, e, h1, h2 => by
    simp [toD] at h1
    obtain ⟨ds, q, rfl⟩ := h1
    cases y <;> simp [toD] at h2 <;> (try (obtain ⟨z, qz, rfl⟩ := h2)) <;> (try subst h2) <;> simp [PyData.eqv, eqb]
    exact eqbs_eqv xs _ ds z q qz
  | .lst xs, y, d, e, h1, h2 => by
    simp [toD] at h1
    obtain ⟨ds, q, rfl⟩ := h1
    cases y <;> simp [toD] at h2 <;> (try (obtain ⟨z, qz, rfl⟩ := h2)) <;> (try subst h2) <;> simp [PyData.eqv, eqb]
    exact eqbs_eqv xs _ ds z q qz
  | .ty _, _, _, _, h1, _ => by cases h1
  | .gl _, _, _, _, h1, _ => by cases h1
  | .frz _, _, _, _, h1, _ => by cases h1
  | .loc _, _, _, _, h1, _ => by cases h1
theorem eqbs_eqv : ∀ (xs ys : List PV) (ds es : List PyData), toDs xs = some ds → toDs ys = some es → PyData.eqvAll ds es = eqbs xs ys
  | [], ys, ds, es, h1, h2 => by
    cases h1
    cases ys with
    | nil => cases h2; simp [PyData.eqvAll, eqbs]
    | cons y ys =>
      unfold toDs at h2
      cases q1 : toD y with
      | none => rw [q1] at h2; cases h2
      | some d =>
        cases q2 : toDs ys with
        | none => rw [q1, q2] at h2; cases h2
        | some r => rw [q1, q2] at h2; cases h2; simp [PyData.eqvAll, eqbs]
  | x :: xs, ys, ds, es, h1, h2 => by
    unfold toDs at h1
    cases p1 : toD x with
    | none => rw [p1] at h1; cases h1
    | some d =>
      cases p2 : toDs xs with
      | none => rw [p1, p2] at h1; cases h1
      | some r =>
        rw [p1, p2] at h1
        cases h1
        cases ys with
        | nil => cases h2; simp [PyData.eqvAll, eqbs]
        | cons y ys =>
          unfold toDs at h2
          cases q1 : toD y with
          | none => rw [q1] at h2; cases h2
          | some d' =>
            cases q2 : toDs ys with
            | none => rw [q1, q2] at h2; cases h2
            | some r' =>
              rw [q1, q2] at h2
              cases h2
              simp [PyData.eqvAll, eqbs, eqb_eqv x y d d' p1 q1, eqbs_eqv xs ys r r' p2 q2]
end
section
variable {K : PySem.W.Frag} {H : Hp} {μ : Mu}
mutual
theorem dp_of : ∀ (x : PV) (v : V) (d : PyData), VR K H μ x v → toD x = some d → Dp K H v d
  | .non, v, d, r, h => by cases h; cases (show v = .non from r); exact .non
  | .bl b, v, d, r, h => by cases h; cases (show v = .bl b from r); exact .bl b
  | .int b, v, d, r, h => by cases h; cases (show v = .int b from r); exact .int b
  | .str b, v, d, r, h => by cases h; cases (show v = .str ⟨b.toArray⟩ from r); exact .str _
  | .tup xs, v, d, r, h => by
    obtain ⟨a, vs, rfl, t, rs⟩ := tup_at r
    simp [toD] at h
    obtain ⟨ds, q, rfl⟩ := h
    exact .tup t.sq (dps_of xs vs ds rs q)
  | .lst xs, v, d, r, h => by
    obtain ⟨a, vs, rfl, t, rs⟩ := lst_at r
    simp [toD] at h
    obtain ⟨ds, q, rfl⟩ := h
    exact .lst t.sq (dps_of xs vs ds rs q)
  | .ty _, _, _, _, h => by cases h
  | .gl _, _, _, _, h => by cases h
  | .frz _, _, _, _, h => by cases h
  | .loc _, _, _, _, h => by cases h
theorem dps_of : ∀ (xs : List PV) (vs : List V) (ds : List PyData), VRs K H μ xs vs → toDs xs = some ds → DpAll K H vs ds
  | [], vs, ds, r, h => by cases h; cases (show vs = [] from r); exact .nil
  | x :: xs, vs, ds, r, h => by
    obtain ⟨v, t, rfl, r1, r2⟩ := (show ∃ v t, vs = v :: t ∧ VR K H μ x v ∧ VRs K H μ xs t from r)
    unfold toDs at h
    cases p1 : toD x with
    | none => rw [p1] at h; cases h
    | some d =>
      cases p2 : toDs xs with
      | none => rw [p1, p2] at h; cases h
      | some ds' =>
        rw [p1, p2] at h
        cases h
        exact .cons (dp_of x v d r1 p1) (dps_of xs t ds' r2 p2)
end
end
mutual
def layP : PV → Bool
  | .non => true
  | .bl _ => true
  | .int _ => true
  | .str x => x.all fun c => decide (c < 1114112)
  | .tup xs => layPs xs
  | .lst xs => layPs xs
  | _ => false
def layPs : List PV → Bool
  | [] => true
  | x :: xs => layP x && layPs xs
end
mutual
def depP : PV → Nat
  | .tup xs => depPs xs + 1
  | .lst xs => depPs xs + 1
  | _ => 0
def depPs : List PV → Nat
  | [] => 0
  | x :: xs => max (depP x) (depPs xs)
end
mutual
theorem lay_toD : ∀ (x : PV), layP x = true → ∃ d, toD x = some d ∧ d.canLay0 = true ∧ d.depth = depP x
  | .non, _ => ⟨_, rfl, by simp [PyData.canLay0], by simp [PyData.depth, depP]⟩
  | .bl b, _ => ⟨_, rfl, by simp [PyData.canLay0], by simp [PyData.depth, depP]⟩
  | .int b, _ => ⟨_, rfl, by simp [PyData.canLay0], by simp [PyData.depth, depP]⟩
  | .str x, h => ⟨_, rfl, by
      simp only [PyData.canLay0, PyData.strOk]
      simp [layP] at h
      simpa using h, by simp [PyData.depth, depP]⟩
  | .tup xs, h => by
    obtain ⟨ds, e, c, p⟩ := lays_toD xs (by simpa [layP] using h)
    exact ⟨.tuple ds, by simp [toD, e], by simpa [PyData.canLay0] using c, by simp [PyData.depth, depP, p]⟩
  | .lst xs, h => by
    obtain ⟨ds, e, c, p⟩ := lays_toD xs (by simpa [layP] using h)
    exact ⟨.list ds, by simp [toD, e], by simpa [PyData.canLay0] using c, by simp [PyData.depth, depP, p]⟩
  | .ty _, h => by simp [layP] at h
  | .gl _, h => by simp [layP] at h
  | .frz _, h => by simp [layP] at h
  | .loc _, h => by simp [layP] at h
theorem lays_toD : ∀ (xs : List PV), layPs xs = true → ∃ ds, toDs xs = some ds ∧ PyData.canLayAll0 ds = true ∧ PyData.depthAll ds = depPs xs
  | [], _ => ⟨[], rfl, by simp [PyData.canLayAll0], by simp [PyData.depthAll, depPs]⟩
  | x :: xs, h => by
    have h' : layP x = true ∧ layPs xs = true := by simpa [layPs] using h
    obtain ⟨d, e, c, p⟩ := lay_toD x h'.1
    obtain ⟨ds, e2, c2, p2⟩ := lays_toD xs h'.2
    exact ⟨d :: ds, by simp [toDs, e, e2], by simp [PyData.canLayAll0, c, c2], by simp [PyData.depthAll, depPs, p, p2]⟩
end
def shal (x : PV) (st : Sto) : PV := match x with
  | .frz xs => .lst xs
  | .loc n => match st[n]? with
    | some (.lst xs) => .lst xs
    | _ => .loc n
  | _ => x
def scalP : PV → PV → Bool
  | .non, .non => true | .non, .int _ => true | .int _, .non => true | .non, .bl _ => true | .bl _, .non => true | .non, .str _ => true | .str _, .non => true
  | .int _, .int _ => true | .bl _, .bl _ => true | .str _, .str _ => true
  | .int _, .str _ => true | .str _, .int _ => true | .bl _, .str _ => true | .str _, .bl _ => true
  | _, _ => false
def cmpOk (x y : PV) (st : Sto) : Bool := scalP x y || (layP (shal x st) && layP (shal y st) && decide (depP (shal x st) ≤ 64) && decide (depP (shal y st) ≤ 64))
def lenNe (x y : PV) (st : Sto) : Bool := match shal x st, shal y st with
  | .lst a, .lst b => decide (a.length ≠ b.length)
  | _, _ => false
def eqM (x y : PV) : M PV := fun st => if cmpOk x y st = true then .ok (.bl (eqb (shal x st) (shal y st))) st else if lenNe x y st = true then .ok (.bl false) st else .bad
def neM (x y : PV) : M PV := fun st => if cmpOk x y st = true then .ok (.bl (!eqb (shal x st) (shal y st))) st else if lenNe x y st = true then .ok (.bl true) st else .bad
theorem shal_lst {K : PySem.W.Frag} {H : Hp} {μ : Mu} {st : Sto} {x : PV} {v : V} {xs : List PV} (sr : SR K μ st H) (r : VR K H μ x v) (h : shal x st = .lst xs) : ∃ a vs, v = .ref a ∧ SqL K H a vs ∧ VRs K H μ xs vs := by
  cases x with
  | lst ys =>
    cases h
    obtain ⟨a, vs, e, l, rs⟩ := lst_at r
    exact ⟨a, vs, e, l.sq, rs⟩
  | frz ys =>
    cases h
    obtain ⟨a, vs, e, l, rs⟩ := frz_at r
    exact ⟨a, vs, e, l.sq, rs⟩
  | loc n =>
    obtain ⟨a, e, ha⟩ := loc_at r
    unfold shal at h
    dsimp only at h
    cases q : st[n]? with
    | none => rw [q] at h; cases h
    | some c =>
      rw [q] at h
      cases c with
      | lst ys =>
        cases h
        obtain ⟨vs, h1, h2⟩ := sr.cell n _ a q ha
        exact ⟨a, vs, e, SqL.of h1, h2⟩
      | dct kvs => cases h
      | ins C fs => cases h
  | _ => cases h
theorem dp_shal {K : PySem.W.Frag} {H : Hp} {μ : Mu} {st : Sto} {x : PV} {v : V} {d : PyData} (sr : SR K μ st H) (r : VR K H μ x v) (h : toD (shal x st) = some d) : Dp K H v d := by
  cases x with
  | frz xs =>
    obtain ⟨a, vs, rfl, t, rs⟩ := frz_at r
    have h' : toD (.lst xs) = some d := h
    simp [toD] at h'
    obtain ⟨ds, q, rfl⟩ := h'
    exact .lst t.sq (dps_of xs vs ds rs q)
  | loc n =>
    obtain ⟨a, rfl, ha⟩ := loc_at r
    unfold shal at h
    dsimp only at h
    cases q : st[n]? with
    | none => rw [q] at h; cases h
    | some c =>
      rw [q] at h
      cases c with
      | lst xs =>
        obtain ⟨vs, h1, h2⟩ := sr.cell n _ a q ha
        have h' : toD (.lst xs) = some d := h
        simp [toD] at h'
        obtain ⟨ds, q, rfl⟩ := h'
        exact .lst (SqL.of h1) (dps_of xs vs ds h2 q)
      | dct kvs => cases h
      | ins C fs => cases h
  | non => exact dp_of _ _ _ r h
  | bl b => exact dp_of _ _ _ r h
  | int b => exact dp_of _ _ _ r h
  | str b => exact dp_of _ _ _ r h
  | tup b => exact dp_of _ _ _ r h
  | lst b => exact dp_of _ _ _ r h
  | ty b => cases h
  | gl b => cases h
theorem scal_eq {K : PySem.W.Frag} {H : Hp} {μ : Mu} {st : Sto} {x y : PV} {u v : V} (rx : VR K H μ x u) (ry : VR K H μ y v) (h : scalP x y = true) : scal u v = true ∧ decide (u = v) = eqb (shal x st) (shal y st) := by
  cases x <;> cases y <;> simp [scalP] at h <;> cases rx <;> cases ry <;> simp [scal, eqb, shal] <;> (rw [Bool.eq_iff_iff]; simp)
def rEqM0 (K : PySem.W.Frag) (n : Bool) : R2 := fun x y H Q => (scal x y = true ∧ Q (.bl (if n then !decide (x = y) else decide (x = y))) H) ∨ ∃ d e, Dp K H x d ∧ Dp K H y e ∧ (SeqAt.shaped d = true ∧ SeqAt.shaped e = true ∧ Q (.bl (if n then !PyData.eqv d e else PyData.eqv d e)) H)
def rEqN (K : PySem.W.Frag) (n : Bool) : R2 := fun x y H Q => ∃ a b xs ys, x = .ref a ∧ y = .ref b ∧ SqL K H a xs ∧ SqL K H b ys ∧ xs.length ≠ ys.length ∧ Q (.bl n) H
def rEqM (K : PySem.W.Frag) (n : Bool) : R2 := fun x y H Q => rEqM0 K n x y H Q ∨ rEqN K n x y H Q
theorem op_eqN {X : Cx} (hu : X.A.units + 64 < cLine) : OpR X (compareOp .Eq) (rEqN X.K false) := by
  intro pins s σ H x y v u Q I rx ry h
  obtain ⟨a, b, xs, ys, rfl, rfl, hx, hy, hne, q⟩ := h
  cases rx
  cases ry
  obtain ⟨its, r1, p1, _⟩ := I.list hx
  obtain ⟨its2, r2, p2, _⟩ := I.list hy
  exact SeqAt.RcAt.lists_lengths p1.isList p2.isList (by have e1 := r1.length; have e2 := r2.length; simp; omega) (by omega) X.prog X.w X.xe _ ⟨.bl false, H, I, rfl, q⟩
theorem op_neN {X : Cx} (hu : X.A.units + 64 < cLine) : OpR X (compareOp .NotEq) (rEqN X.K true) := by
  intro pins s σ H x y v u Q I rx ry h
  obtain ⟨a, b, xs, ys, rfl, rfl, hx, hy, hne, q⟩ := h
  cases rx
  cases ry
  obtain ⟨its, r1, p1, _⟩ := I.list hx
  obtain ⟨its2, r2, p2, _⟩ := I.list hy
  exact SeqAt.RcNeAt.lists_lengths p1.isList p2.isList (by have e1 := r1.length; have e2 := r2.length; simp; omega) (by omega) X.prog X.w X.xe _ ⟨.bl true, H, I, rfl, q⟩
theorem op_eqM {X : Cx} (hu : X.A.units + 64 < cLine) : OpR X (compareOp .Eq) (rEqM X.K false) := (op_eq.or (op_eqD hu)).or (op_eqN hu)
theorem op_neM {X : Cx} (hu : X.A.units + 64 < cLine) : OpR X (compareOp .NotEq) (rEqM X.K true) := (op_ne.or (op_neD hu)).or (op_neN hu)
theorem t_eqn {K : PySem.W.Frag} {n : Bool} : T2 K (rEqM K n) (fun x y st => if cmpOk x y st = true then .ok (.bl (if n then !eqb (shal x st) (shal y st) else eqb (shal x st) (shal y st))) st else if lenNe x y st = true then .ok (.bl n) st else .bad) := by
  intro μ st H x y u v E Q sr rx ry h
  dsimp only at h
  by_cases hc : cmpOk x y st = true
  · rw [if_pos hc] at h
    have q := post_same (v := .bl (if n then !eqb (shal x st) (shal y st) else eqb (shal x st) (shal y st))) h sr rfl
    unfold cmpOk at hc
    rw [Bool.or_eq_true] at hc
    rcases hc with hc | hc
    · obtain ⟨h1, h2⟩ := scal_eq (st := st) rx ry hc
      exact .inl (.inl ⟨h1, by rw [h2]; exact q⟩)
    · simp only [Bool.and_eq_true, decide_eq_true_eq] at hc
      obtain ⟨⟨⟨l1, l2⟩, d1⟩, d2⟩ := hc
      obtain ⟨d, e1, c1, p1⟩ := lay_toD _ l1
      obtain ⟨e, e2, c2, p2⟩ := lay_toD _ l2
      refine .inl (.inr ⟨d, e, dp_shal sr rx e1, dp_shal sr ry e2, ?_, ?_, ?_⟩)
      · unfold SeqAt.shaped
        rw [c1, p1]
        simpa using d1
      · unfold SeqAt.shaped
        rw [c2, p2]
        simpa using d2
      · rw [eqb_eqv _ _ d e e1 e2]
        exact q
  · rw [if_neg hc] at h
    by_cases hl : lenNe x y st = true
    · rw [if_pos hl] at h
      unfold lenNe at hl
      split at hl
      · rename_i xs ys e1 e2
        obtain ⟨a, vs, rfl, l1, r1⟩ := shal_lst sr rx e1
        obtain ⟨b, ws, rfl, l2, r2⟩ := shal_lst sr ry e2
        refine .inr ⟨a, b, vs, ws, rfl, rfl, l1, l2, ?_, post_same h sr rfl⟩
        rw [← VRs.length r1, ← VRs.length r2]
        exact of_decide_eq_true hl
      · cases hl
    · rw [if_neg hl] at h
      exact h.elim
theorem t_eq {K : PySem.W.Frag} : T2 K (rEqM K false) eqM := t_eqn (n := false)
theorem t_ne {K : PySem.W.Frag} : T2 K (rEqM K true) neM := t_eqn (n := true)
def nonP : PV → Bool
  | .non => true
  | _ => false
def isN (x y : PV) : M PV := match y with
  | .non => M.ret (.bl (nonP x))
  | _ => M.fail
def notN (x y : PV) : M PV := match y with
  | .non => M.ret (.bl (!nonP x))
  | _ => M.fail
theorem non_dec {K : PySem.W.Frag} {H : Hp} {μ : Mu} {x : PV} {v : V} (r : VR K H μ x v) : decide (v = .non) = nonP x := by
  cases x with
  | non => cases (show v = .non from r); rfl
  | bl b => cases (show v = .bl b from r); rfl
  | int b => cases (show v = .int b from r); rfl
  | str b => cases (show v = .str ⟨b.toArray⟩ from r); rfl
  | ty b => cases (show v = .ty b from r); rfl
  | gl b => cases (show v = .ref b from r); rfl
  | tup b => obtain ⟨a, vs, rfl, _⟩ := tup_at r; rfl
  | lst b => obtain ⟨a, vs, rfl, _⟩ := lst_at r; rfl
  | frz b => obtain ⟨a, vs, rfl, _⟩ := frz_at r; rfl
  | loc b => obtain ⟨a, rfl, _⟩ := loc_at r; rfl
theorem t_isN {K : PySem.W.Frag} : T2 K (fun x y H Q => y = .non ∧ Q (.bl (decide (x = .non))) H) isN := by
  intro μ st H x y u v E Q sr rx ry h
  unfold isN at h
  cases y with
  | non => exact ⟨ry, by rw [non_dec rx]; exact post_same h sr rfl⟩
  | _ => exact h.elim
theorem t_notN {K : PySem.W.Frag} : T2 K (fun x y H Q => y = .non ∧ Q (.bl (!decide (x = .non))) H) notN := by
  intro μ st H x y u v E Q sr rx ry h
  unfold notN at h
  cases y with
  | non =>
    refine ⟨ry, ?_⟩
    rw [non_dec rx]
    exact post_same h sr rfl
  | _ => exact h.elim
def lookP : List (PV × PV) → PV → Option PV
  | [], _ => none
  | p :: r, k => if p.1 = k then some p.2 else lookP r k
def putP (kvs : List (PV × PV)) (k v : PV) : List (PV × PV) :=
  if (kvs.any fun kv => decide (kv.1 = k)) = true then kvs.map (fun kv => if kv.1 = k then (kv.1, v) else kv) else kvs ++ [(k, v)]
section
variable {K : PySem.W.Frag} {H : Hp} {μ : Mu}
theorem key_dec {p k : PV} {p' k' : Key} (h : keyOf p = some p') (hk : keyOf k = some k') : (p' = k') = (p = k) := by
  refine propext ⟨fun e => ?_, fun e => ?_⟩
  · rw [← e] at hk
    exact keyOf_inj h hk
  · rw [e, hk] at h
    exact (Option.some.inj h).symm
theorem KRs.look {k : PV} {k' : Key} (hk : keyOf k = some k') : ∀ {kvs : List (PV × PV)} {kv : List (Key × V)}, KRs K H μ kvs kv → (∀ p, lookP kvs k = some p → ∃ v, valV kv k' = some v ∧ VR K H μ p v) ∧ (lookP kvs k = none → valV kv k' = none)
  | [], kv, h => by
    have e : kv = [] := h
    subst e
    exact ⟨fun p q => (nomatch q), fun _ => rfl⟩
  | p :: r, kv, h => by
    obtain ⟨k1, v, t, rfl, e1, rv, rt⟩ := h
    unfold lookP
    by_cases e : p.1 = k
    · have e' : k1 = k' := by rw [key_dec e1 hk]; exact e
      rw [if_pos e, valV_pos (p := (k1, v)) e']
      exact ⟨fun q hq => by cases hq; exact ⟨v, rfl, rv⟩, fun hq => (nomatch hq)⟩
    · have e' : ¬ k1 = k' := by rw [key_dec e1 hk]; exact e
      rw [if_neg e, valV_neg (p := (k1, v)) e']
      exact KRs.look hk rt
theorem KRs.any {k : PV} {k' : Key} (hk : keyOf k = some k') : ∀ {kvs : List (PV × PV)} {kv : List (Key × V)}, KRs K H μ kvs kv → (kv.any fun x => decide (x.1 = k')) = (kvs.any fun x => decide (x.1 = k))
  | [], kv, h => by have e : kv = [] := h; subst e; rfl
  | p :: r, kv, h => by
    obtain ⟨k1, v, t, rfl, e1, rv, rt⟩ := h
    rw [List.any_cons, List.any_cons, KRs.any hk rt]
    simp only [key_dec e1 hk]
theorem KRs.length : ∀ {kvs : List (PV × PV)} {kv : List (Key × V)}, KRs K H μ kvs kv → kvs.length = kv.length
  | [], kv, h => by have e : kv = [] := h; subst e; rfl
  | p :: r, kv, h => by
    obtain ⟨k1, v, t, rfl, e1, rv, rt⟩ := h
    rw [List.length_cons, List.length_cons, KRs.length rt]
theorem KRs.mapPut {k p : PV} {k' : Key} {v : V} (hk : keyOf k = some k') (r : VR K H μ p v) : ∀ {kvs : List (PV × PV)} {kv : List (Key × V)}, KRs K H μ kvs kv →
    KRs K H μ (kvs.map fun x => if x.1 = k then (x.1, p) else x) (kv.map fun x => if x.1 = k' then (x.1, v) else x)
  | [], kv, h => by have e : kv = [] := h; subst e; exact rfl
  | q :: t, kv, h => by
    obtain ⟨k1, w, t', rfl, e1, rv, rt⟩ := h
    rw [List.map_cons, List.map_cons]
    simp only [key_dec e1 hk]
    by_cases e : q.1 = k
    · rw [if_pos e, if_pos e]
      exact ⟨k1, v, _, rfl, e1, r, KRs.mapPut hk r rt⟩
    · rw [if_neg e, if_neg e]
      exact ⟨k1, w, _, rfl, e1, rv, KRs.mapPut hk r rt⟩
theorem KRs.snoc {k p : PV} {k' : Key} {v : V} (hk : keyOf k = some k') (r : VR K H μ p v) : ∀ {kvs : List (PV × PV)} {kv : List (Key × V)}, KRs K H μ kvs kv → KRs K H μ (kvs ++ [(k, p)]) (kv ++ [(k', v)])
  | [], kv, h => by have e : kv = [] := h; subst e; exact ⟨k', v, [], rfl, hk, r, rfl⟩
  | q :: t, kv, h => by
    obtain ⟨k1, w, t', rfl, e1, rv, rt⟩ := h
    exact ⟨k1, w, _, rfl, e1, rv, KRs.snoc hk r rt⟩
theorem KRs.put {k p : PV} {k' : Key} {v : V} {kvs : List (PV × PV)} {kv : List (Key × V)} (h : KRs K H μ kvs kv) (hk : keyOf k = some k') (r : VR K H μ p v) : KRs K H μ (putP kvs k p) (putK kv k' v) := by
  unfold putP putK
  rw [KRs.any hk h]
  split
  · exact KRs.mapPut hk r h
  · exact KRs.snoc hk r h
theorem keyOf_kV {k : PV} {k' : Key} {v : V} (hk : keyOf k = some k') (r : VR K H μ k v) : v = kV k' := by
  cases k with
  | int i => cases hk; exact r
  | str x => cases hk; exact r
  | _ => cases hk
end
def flatP : PV → Bool
  | .non => true
  | .bl _ => true
  | .int _ => true
  | .str _ => true
  | _ => false
def ng (n b : Bool) : Bool := if n then !b else b
def inM (n : Bool) (x y : PV) : M PV := fun st => match y with
  | .str z => match x with
    | .str [c] => .ok (.bl (ng n (decide (c ∈ z)))) st
    | _ => .bad
  | y => match seqOf y st with
    | some xs => if (flatP x && xs.all flatP) = true then .ok (.bl (ng n (xs.any fun p => eqb p x))) st else .bad
    | none => match y with
      | .loc m => match st[m]? with
        | some (.dct kvs) => if (keyOf x).isSome = true then .ok (.bl (ng n (lookP kvs x).isSome)) st else .bad
        | _ => .bad
      | _ => .bad
theorem flat_eq {K : PySem.W.Frag} {H : Hp} {μ : Mu} {x y : PV} {u v : V} (rx : VR K H μ x u) (ry : VR K H μ y v) (fx : flatP x = true) (fy : flatP y = true) : flatV u = true ∧ flatV v = true ∧ L2.eqV u v = eqb x y := by
  cases x <;> simp [flatP] at fx <;> cases y <;> simp [flatP] at fy <;> cases rx <;> cases ry <;> simp [flatV, L2.eqV, eqb]
  rw [Bool.eq_iff_iff]
  simp
theorem flat_any {K : PySem.W.Frag} {H : Hp} {μ : Mu} {x : PV} {u : V} (rx : VR K H μ x u) (fx : flatP x = true) : ∀ {ps : List PV} {vs : List V}, VRs K H μ ps vs → ps.all flatP = true → vs.all flatV = true ∧ L2.inV u vs = ps.any fun p => eqb p x
  | [], vs, h, _ => by have e : vs = [] := h; subst e; exact ⟨rfl, rfl⟩
  | p :: ps, vs, h, hf => by
    obtain ⟨v, t, rfl, r1, r2⟩ := (show ∃ v t, vs = v :: t ∧ VR K H μ p v ∧ VRs K H μ ps t from h)
    rw [List.all_cons, Bool.and_eq_true] at hf
    obtain ⟨f1, f2, f3⟩ := flat_eq r1 rx hf.1 fx
    obtain ⟨g1, g2⟩ := flat_any rx fx r2 hf.2
    refine ⟨by rw [List.all_cons, f1, g1]; rfl, ?_⟩
    show (L2.eqV v u || L2.inV u t) = (eqb p x || ps.any fun q => eqb q x)
    rw [f3, g2]
def rInM (K : PySem.W.Frag) (n : Bool) : R2 := fun x y H Q => (∃ (c : Nat) (z : Str), x = .str ⟨#[c]⟩ ∧ y = .str z ∧ Q (.bl (ng n (decide (c ∈ z.cps.toList)))) H) ∨ rIn K n x y H Q ∨ ∃ a o, y = .ref a ∧ DGet H a x o ∧ Q (.bl (ng n o.isSome)) H
theorem op_inD {X : Cx} (hu : X.A.units + 1 < cLine) : OpR X (compareOp .In) (fun x y H Q => ∃ a o, y = .ref a ∧ DGet H a x o ∧ Q (.bl (ng false o.isSome)) H) := by
  intro pins s σ H x y v u Q I rx ry h
  obtain ⟨a, o, rfl, g, q⟩ := h
  cases (show u = Value.ref a from ry)
  exact d_in hu I g rx fun s3 I3 => ⟨.bl o.isSome, H, I3, rfl, q⟩
theorem op_notInD {X : Cx} (hu : X.A.units + 1 < cLine) : OpR X (compareOp .NotIn) (fun x y H Q => ∃ a o, y = .ref a ∧ DGet H a x o ∧ Q (.bl (ng true o.isSome)) H) := by
  intro pins s σ H x y v u Q I rx ry h
  obtain ⟨a, o, rfl, g, q⟩ := h
  cases (show u = Value.ref a from ry)
  exact d_notIn hu I g rx fun s3 I3 => ⟨.bl (!o.isSome), H, I3, rfl, q⟩
theorem op_inM {X : Cx} (hu : X.A.units + 1 < cLine) : OpR X (compareOp .In) (rInM X.K false) := op_in_sign.or (op_in_seq.or (op_inD hu))
theorem op_notInM {X : Cx} (hu : X.A.units + 1 < cLine) : OpR X (compareOp .NotIn) (rInM X.K true) := op_notIn_sign.or (op_notIn_seq.or (op_notInD hu))
theorem t_in {K : PySem.W.Frag} {n : Bool} : T2 K (rInM K n) (inM n) := by
  intro μ st H x y u v E Q sr rx ry h
  have seqC : ∀ xs, seqOf y st = some xs → PostG K E (VR K) Q μ H (if (flatP x && xs.all flatP) = true then .ok (.bl (ng n (xs.any fun p => eqb p x))) st else .bad) → rInM K n u v H Q := by
    intro xs hs h
    by_cases hf : (flatP x && xs.all flatP) = true
    · rw [if_pos hf] at h
      rw [Bool.and_eq_true] at hf
      obtain ⟨a, vs, rfl, hq, rs⟩ := seqOf_at sr ry hs
      obtain ⟨g1, g2⟩ := flat_any rx hf.1 rs hf.2
      obtain ⟨f1, _, _⟩ := flat_eq rx rx hf.1 hf.1
      refine .inr (.inl ⟨a, vs, rfl, hq, f1, g1, ?_⟩)
      rw [g2]
      exact post_same h sr rfl
    · rw [if_neg hf] at h
      exact h.elim
  cases y with
  | str z =>
    cases (show v = V.str ⟨z.toArray⟩ from ry)
    cases x with
    | str c =>
      cases c with
      | nil => exact h.elim
      | cons c r =>
        cases r with
        | nil =>
          cases (show u = V.str ⟨[c].toArray⟩ from rx)
          refine .inl ⟨c, ⟨z.toArray⟩, rfl, rfl, ?_⟩
          have q := post_same (v := V.bl (ng n (decide (c ∈ z)))) h sr rfl
          simpa using q
        | cons c' r => exact h.elim
    | _ => exact h.elim
  | lst xs => exact seqC xs rfl h
  | frz xs => exact seqC xs rfl h
  | tup xs => exact seqC xs rfl h
  | loc m =>
    unfold inM at h
    dsimp only at h
    cases hs : seqOf (.loc m) st with
    | some xs => rw [hs] at h; exact seqC xs hs h
    | none =>
      rw [hs] at h
      dsimp only at h
      cases q : st[m]? with
      | none => rw [q] at h; exact h.elim
      | some c =>
        rw [q] at h
        cases c with
        | dct kvs =>
          dsimp only at h
          by_cases hk : (keyOf x).isSome = true
          · rw [if_pos hk] at h
            obtain ⟨k', ek⟩ := Option.isSome_iff_exists.mp hk
            obtain ⟨a, rfl, ha⟩ := loc_at ry
            obtain ⟨kv, h1, h2⟩ := sr.cell m _ a q ha
            refine .inr (.inr ⟨a, valV kv k', rfl, ?_, ?_⟩)
            · rw [keyOf_kV ek rx]
              exact DGet.k h1
            · obtain ⟨l1, l2⟩ := KRs.look ek h2
              have e : (valV kv k').isSome = (lookP kvs x).isSome := by
                cases hl : lookP kvs x with
                | none => rw [l2 hl]; rfl
                | some p => obtain ⟨w, ew, _⟩ := l1 p hl; rw [ew]; rfl
              rw [e]
              exact post_same h sr rfl
          · rw [if_neg hk] at h
            exact h.elim
        | lst xs => exact h.elim
        | ins C fs => exact h.elim
  | _ => exact h.elim
section
variable {X : Cx} {W : WX} {a b : Expr} {pos : Pos} {ma mb : Rho → M PV}
theorem me_lt (ha : ME X W a ma) (hb : ME X W b mb) : ME X W (.Compare a [.Lt] [b] pos) (eBin ltI ma mb) := me_cmp op_lt (t_cmpI _) ha hb (nomark _)
theorem me_le (ha : ME X W a ma) (hb : ME X W b mb) : ME X W (.Compare a [.LtE] [b] pos) (eBin leI ma mb) := me_cmp op_le (t_cmpI _) ha hb (nomark _)
theorem me_gt (ha : ME X W a ma) (hb : ME X W b mb) : ME X W (.Compare a [.Gt] [b] pos) (eBin gtI ma mb) := me_cmp op_gt (t_cmpI _) ha hb (nomark _)
theorem me_ge (ha : ME X W a ma) (hb : ME X W b mb) : ME X W (.Compare a [.GtE] [b] pos) (eBin geI ma mb) := me_cmp op_ge (t_cmpI _) ha hb (nomark _)
theorem me_eq (hu : X.A.units + 64 < cLine) (ha : ME X W a ma) (hb : ME X W b mb) : ME X W (.Compare a [.Eq] [b] pos) (eBin eqM ma mb) := me_cmp (op_eqM hu) t_eq ha hb (nomark _)
theorem me_ne (hu : X.A.units + 64 < cLine) (ha : ME X W a ma) (hb : ME X W b mb) : ME X W (.Compare a [.NotEq] [b] pos) (eBin neM ma mb) := me_cmp (op_neM hu) t_ne ha hb (nomark _)
theorem me_is (ha : ME X W a ma) (hb : ME X W b mb) : ME X W (.Compare a [.Is] [b] pos) (eBin isN ma mb) := me_cmp op_isN t_isN ha hb (nomark _)
theorem me_isnot (ha : ME X W a ma) (hb : ME X W b mb) : ME X W (.Compare a [.IsNot] [b] pos) (eBin notN ma mb) := me_cmp op_notN t_notN ha hb (nomark _)
theorem me_in (hu : X.A.units + 1 < cLine) (ha : ME X W a ma) (hb : ME X W b mb) (hm : behindInMarks .In b = false) : ME X W (.Compare a [.In] [b] pos) (eBin (inM false) ma mb) := me_cmp (op_inM hu) t_in ha hb hm
theorem me_notin (hu : X.A.units + 1 < cLine) (ha : ME X W a ma) (hb : ME X W b mb) (hm : behindInMarks .NotIn b = false) : ME X W (.Compare a [.NotIn] [b] pos) (eBin (inM true) ma mb) := me_cmp (op_notInM hu) t_in ha hb hm
theorem mt_lt (ha : ME X W a ma) (hb : ME X W b mb) : MT X W (.Compare a [.Lt] [b] pos) (eB (eBin ltI ma mb)) := mt_cmp op_lt (t_cmpI _) ha hb (nomark _)
theorem mt_le (ha : ME X W a ma) (hb : ME X W b mb) : MT X W (.Compare a [.LtE] [b] pos) (eB (eBin leI ma mb)) := mt_cmp op_le (t_cmpI _) ha hb (nomark _)
theorem mt_gt (ha : ME X W a ma) (hb : ME X W b mb) : MT X W (.Compare a [.Gt] [b] pos) (eB (eBin gtI ma mb)) := mt_cmp op_gt (t_cmpI _) ha hb (nomark _)
theorem mt_ge (ha : ME X W a ma) (hb : ME X W b mb) : MT X W (.Compare a [.GtE] [b] pos) (eB (eBin geI ma mb)) := mt_cmp op_ge (t_cmpI _) ha hb (nomark _)
theorem mt_eq (hu : X.A.units + 64 < cLine) (ha : ME X W a ma) (hb : ME X W b mb) : MT X W (.Compare a [.Eq] [b] pos) (eB (eBin eqM ma mb)) := mt_cmp (op_eqM hu) t_eq ha hb (nomark _)
theorem mt_ne (hu : X.A.units + 64 < cLine) (ha : ME X W a ma) (hb : ME X W b mb) : MT X W (.Compare a [.NotEq] [b] pos) (eB (eBin neM ma mb)) := mt_cmp (op_neM hu) t_ne ha hb (nomark _)
theorem mt_is (ha : ME X W a ma) (hb : ME X W b mb) : MT X W (.Compare a [.Is] [b] pos) (eB (eBin isN ma mb)) := mt_cmp op_isN t_isN ha hb (nomark _)
theorem mt_isnot (ha : ME X W a ma) (hb : ME X W b mb) : MT X W (.Compare a [.IsNot] [b] pos) (eB (eBin notN ma mb)) := mt_cmp op_notN t_notN ha hb (nomark _)
theorem mt_in (hu : X.A.units + 1 < cLine) (ha : ME X W a ma) (hb : ME X W b mb) (hm : behindInMarks .In b = false) : MT X W (.Compare a [.In] [b] pos) (eB (eBin (inM false) ma mb)) := mt_cmp (op_inM hu) t_in ha hb hm
theorem mt_notin (hu : X.A.units + 1 < cLine) (ha : ME X W a ma) (hb : ME X W b mb) (hm : behindInMarks .NotIn b = false) : MT X W (.Compare a [.NotIn] [b] pos) (eB (eBin (inM true) ma mb)) := mt_cmp (op_notInM hu) t_in ha hb hm
end
end MP

set_option maxRecDepth 100000
set_option maxHeartbeats 1000000
namespace MP
open PySem L2
def optM {α : Type} : Option α → M α
  | some a => M.ret a
  | none => M.fail
def dctOf (x : PV) (st : Sto) : Option (List (PV × PV)) := match x with
  | .loc n => match st[n]? with
    | some (.dct kvs) => some kvs
    | _ => none
  | _ => none
theorem dctOf_at {K : PySem.W.Frag} {H : Hp} {μ : Mu} {st : Sto} {x : PV} {v : V} {kvs : List (PV × PV)} (sr : SR K μ st H) (r : VR K H μ x v) (h : dctOf x st = some kvs) :
    ∃ n a kv, x = .loc n ∧ v = .ref a ∧ μ.l[n]? = some a ∧ st[n]? = some (.dct kvs) ∧ H a = some (.dK kv) ∧ KRs K H μ kvs kv := by
  cases x with
  | loc n =>
    obtain ⟨a, rfl, ha⟩ := loc_at r
    unfold dctOf at h
    dsimp only at h
    cases q : st[n]? with
    | none => rw [q] at h; cases h
    | some c =>
      rw [q] at h
      cases c with
      | dct k =>
        cases h
        obtain ⟨kv, h1, h2⟩ := sr.cell n _ a q ha
        exact ⟨n, a, kv, rfl, rfl, ha, q, h1, h2⟩
      | lst xs => cases h
      | ins C fs => cases h
  | _ => cases h
def ixM (x y : PV) : M PV := fun st => match seqOf x st with
  | some xs => match y with
    | .int i => optM (L2.atI xs i) st
    | _ => .bad
  | none => match x with
    | .str z => match y with
      | .int i => if z.length ≤ SZ then (match L2.atI z i with | some c => .ok (.str [c]) st | none => .bad) else .bad
      | _ => .bad
    | x => match dctOf x st with
      | some kvs => if (keyOf y).isSome = true then optM (lookP kvs y) st else .bad
      | none => .bad
def rIxM (K : PySem.W.Frag) : R2 := fun x y H Q => (rIxL K x y H Q ∨ rIxT K x y H Q ∨ rIxS x y H Q) ∨ ∃ a v, x = .ref a ∧ DGet H a y (some v) ∧ Q v H
theorem ix_dict {X : Cx} (hu : X.A.units + 1 < cLine) : IxR X (fun x y H Q => ∃ a v, x = .ref a ∧ DGet H a y (some v) ∧ Q v H) := by
  intro value slice pins s σ H x y v u Q I rx ry h hs
  obtain ⟨a, w, rfl, g, q⟩ := h
  cases (show v = Value.ref a from rx)
  exact PyProof.Rows.tail_any (dict_typeIs I g) PySem.F.slot_dict_getitem.lookup (d_getItem hu I g ry fun w' s3 I3 rw' => ⟨w, H, I3, rw', q⟩) hs
theorem ix_M {X : Cx} (hu : X.A.units + 1 < cLine) : IxR X (rIxM X.K) := ix_seq.or (ix_dict hu)
theorem t_ix {K : PySem.W.Frag} : T2 K (rIxM K) ixM := by
  intro μ st H x y u v E Q sr rx ry h
  unfold ixM at h
  cases hs : seqOf x st with
  | some xs =>
    rw [hs] at h
    cases y with
    | int i =>
      cases (show v = V.int i from ry)
      dsimp only at h
      obtain ⟨a, vs, rfl, hq, rs⟩ := seqOf_at sr rx hs
      cases q : L2.atI xs i with
      | none => rw [q] at h; exact h.elim
      | some p =>
        rw [q] at h
        obtain ⟨w, e, rw'⟩ := VRs.atI rs q
        have z := post_same h sr rw'
        rcases hq with hq | hq
        · exact .inl (.inl ⟨a, vs, i, w, rfl, rfl, hq, e, z⟩)
        · exact .inl (.inr (.inl ⟨a, vs, i, w, rfl, rfl, hq, e, z⟩))
    | _ => exact h.elim
  | none =>
    rw [hs] at h
    dsimp only at h
    have dcase : PostG K E (VR K) Q μ H (match dctOf x st with
      | some kvs => if (keyOf y).isSome = true then optM (lookP kvs y) st else .bad
      | none => .bad) → rIxM K u v H Q := by
      intro h
      cases hd : dctOf x st with
      | none => rw [hd] at h; exact h.elim
      | some kvs =>
        rw [hd] at h
        dsimp only at h
        by_cases hk : (keyOf y).isSome = true
        · rw [if_pos hk] at h
          obtain ⟨k', ek⟩ := Option.isSome_iff_exists.mp hk
          obtain ⟨n, a, kv, ex, rfl, ha, hc, h1, h2⟩ := dctOf_at sr rx hd
          cases q : lookP kvs y with
          | none => rw [q] at h; exact h.elim
          | some p =>
            rw [q] at h
            obtain ⟨w, e, rw'⟩ := (KRs.look ek h2).1 p q
            refine .inr ⟨a, w, rfl, ?_, post_same h sr rw'⟩
            rw [keyOf_kV ek ry, ← e]
            exact DGet.k h1
        · rw [if_neg hk] at h
          exact h.elim
    cases x with
    | str z =>
      cases (show u = V.str ⟨z.toArray⟩ from rx)
      cases y with
      | int i =>
        cases (show v = V.int i from ry)
        dsimp only at h
        by_cases hz : z.length ≤ SZ
        · rw [if_pos hz] at h
          cases q : L2.atI z i with
          | none => rw [q] at h; exact h.elim
          | some c =>
            rw [q] at h
            refine .inl (.inr (.inr ⟨⟨z.toArray⟩, i, c, rfl, rfl, by rw [str_len, sz_eq]; exact hz, ?_, post_same h sr rfl⟩))
            simpa using q
        · rw [if_neg hz] at h
          exact h.elim
      | _ => exact h.elim
    | _ => exact dcase h
section
variable {X : Cx} {W : WX} {a b : Expr} {pos : Pos} {ma mb : Rho → M PV}
theorem me_sub_ix (hu : X.A.units + 1 < cLine) (ha : ME X W a ma) (hb : ME X W b mb) (hs : PlainIx b) : ME X W (.Subscript a b pos) (eBin ixM ma mb) := me_ix (ix_M hu) t_ix ha hb hs
end
def cutL {α : Type} (xs : List α) (lo hi : Option Int) : List α := (xs.drop (HT.sIx xs.length 0 lo)).take (HT.sIx xs.length xs.length hi - HT.sIx xs.length 0 lo)
theorem VRs.cut {K : PySem.W.Frag} {H : Hp} {μ : Mu} {ps : List PV} {vs : List V} (r : VRs K H μ ps vs) (lo hi : Option Int) : VRs K H μ (cutL ps lo hi) (cutV vs lo hi) := by
  unfold cutL cutV
  rw [VRs.length r]
  exact VRs.take _ (VRs.drop _ r)
def slM (x : PV) (lo hi : Option Int) : M PV := match x with
  | .str z => if z.length ≤ SZ then M.ret (.str (cutL z lo hi)) else M.fail
  | .tup xs => M.ret (.tup (cutL xs lo hi))
  | x => fun st => match seqOf x st with
    | some xs => .ok (.lst (cutL xs lo hi)) st
    | none => .bad
def slN (x : PV) (lo hi : Option Int) : M PV := match x with
  | .str _ => M.fail
  | .tup _ => M.fail
  | x => fun st => match seqOf x st with
    | some xs => .ok (.loc st.length) (st ++ [.lst (cutL xs lo hi)])
    | none => .bad
def oNone : Rho → M (Option Int) := fun _ => M.ret none
def asI : PV → M Int
  | .int i => M.ret i
  | _ => M.fail
def oSome (m : Rho → M PV) : Rho → M (Option Int) := fun ρ => M.bind (m ρ) fun x => M.bind (asI x) fun i => M.ret (some i)
def tMO (K : PySem.W.Frag) (W : WX) (m : Rho → M (Option Int)) : TO := fun σ H Q => ∃ μ st ρ, ER K H μ ρ σ ∧ SR K μ st H ∧ PostG K (fun c d H' => W c d σ H') (fun _ _ (a : Option Int) b => a = b) Q μ H (m ρ st)
def MO (X : Cx) (W : WX) (e : Option Expr) (m : Rho → M (Option Int)) : Prop := PO X e (tMO X.K W m)
theorem PO.imp {X : Cx} {e : Option Expr} {t t' : TO} (h : PO X e t) (i : ∀ σ H Q, t' σ H Q → t σ H Q) : PO X e t' := ⟨fun pins s σ H Q I q => h.run pins s σ H Q I (i σ H Q q)⟩
def eSl (f : PV → Option Int → Option Int → M PV) (me : Rho → M PV) (ml mh : Rho → M (Option Int)) : Rho → M PV := fun ρ => M.bind (me ρ) fun x => M.bind (ml ρ) fun l => M.bind (mh ρ) fun h => f x l h
def rSlM (K : PySem.W.Frag) : V → Option Int → Option Int → Hp → VK → Prop := fun x lo hi H Q => rSlS x lo hi H Q ∨ rSlA K x lo hi H Q ∨ rSlL K x lo hi H Q
section
variable {X : Cx} {W : WX} {e : Expr} {lo hi : Option Expr} {pos p2 : Pos} {me : Rho → M PV} {ml mh : Rho → M (Option Int)}
theorem mo_none : MO X W none oNone := PO.imp po_none fun σ H Q ⟨μ, st, ρ, er, sr, h⟩ => h μ H none (Gr.refl _ _) sr rfl
theorem mo_some (he : ME X W e me) : MO X W (some e) (oSome me) := PO.imp (po_some he) fun σ H Q ⟨μ, st, ρ, er, sr, h⟩ => ⟨μ, st, ρ, er, sr, (PostG.bind h).mono fun u H1 ⟨μ1, st1, x, g1, s1, rx, h1⟩ => by
  cases x with
  | int i => exact ⟨i, rx, h1 μ1 H1 _ (Gr.refl _ _) s1 rfl⟩
  | _ => exact h1.elim⟩
def TSl (K : PySem.W.Frag) (r : V → Option Int → Option Int → Hp → VK → Prop) (f : PV → Option Int → Option Int → M PV) : Prop :=
  ∀ (μ : Mu) (st : Sto) (H : Hp) (x : PV) (lo hi : Option Int) (u : V) (E : XK) (Q : VK), SR K μ st H → VR K H μ x u → PostG K E (VR K) Q μ H (f x lo hi st) → r u lo hi H Q
theorem me_slG {f : PV → Option Int → Option Int → M PV} (t : TSl X.K (rSlM X.K) f) (he : ME X W e me) (hl : MO X W lo ml) (hh : MO X W hi mh) : ME X W (.Subscript e (.Slice lo hi none p2) pos) (eSl f me ml mh) :=
  PE.imp (pe_slice (sl_str.or (sl_tupA.or sl_list)) he hl hh) fun σ H Q ⟨μ, st, ρ, er, sr, h⟩ => ⟨μ, st, ρ, er, sr, (PostG.bind h).mono fun u H1 ⟨μ1, st1, x, g1, s1, rx, h1⟩ =>
    ⟨μ1, st1, ρ, er.mono g1, s1, (PostG.bind h1).mono fun l H2 ⟨μ2, st2, l', g2, s2, el, h2⟩ => ⟨μ2, st2, ρ, (er.mono g1).mono g2, s2, (PostG.bind h2).mono fun k H3 ⟨μ3, st3, k', g3, s3, ek, h3⟩ => by
      subst el ek
      exact t μ3 st3 H3 x l' k' u _ Q s3 (VR.mono g3 x u (VR.mono g2 x u rx)) h3⟩⟩⟩
theorem sl_lists {K : PySem.W.Frag} {μ : Mu} {st : Sto} {H : Hp} {x : PV} {lo hi : Option Int} {u : V} {E : XK} {Q : VK} (sr : SR K μ st H) (rx : VR K H μ x u) (nt : ∀ xs, x ≠ .tup xs)
    (h : PostG K E (VR K) Q μ H (match seqOf x st with
    | some xs => .ok (.lst (cutL xs lo hi)) st
    | none => .bad)) : rSlM K u lo hi H Q := by
  cases q : seqOf x st with
  | none => rw [q] at h; exact h.elim
  | some xs =>
    rw [q] at h
    obtain ⟨a, vs, rfl, hq, rs⟩ : ∃ a vs, u = .ref a ∧ SqL K H a vs ∧ VRs K H μ xs vs := by
      cases x with
      | lst xs => cases q; obtain ⟨a, vs, e, l, rs⟩ := lst_at rx; exact ⟨a, vs, e, l.sq, rs⟩
      | frz xs => cases q; obtain ⟨a, vs, e, l, rs⟩ := frz_at rx; exact ⟨a, vs, e, l.sq, rs⟩
      | loc n => obtain ⟨a, vs, e, l, rs⟩ := listOf_at sr rx (show listOf (.loc n) st = some xs from q); exact ⟨a, vs, e, SqL.of l, rs⟩
      | tup xs => exact absurd rfl (nt xs)
      | _ => cases q
    exact .inr (.inr ⟨a, vs, rfl, hq, fun p hp => post_lst sr (VRs.cut rs lo hi) hp h⟩)
theorem t_sl {K : PySem.W.Frag} : TSl K (rSlM K) slM := by
  intro μ st H x lo hi u E Q sr rx h
  cases x with
  | str z =>
    cases (show u = V.str ⟨z.toArray⟩ from rx)
    unfold slM at h
    dsimp only at h
    by_cases hz : z.length ≤ SZ
    · rw [if_pos hz] at h
      refine .inl ⟨⟨z.toArray⟩, rfl, by rw [str_len, sz_eq]; exact hz, ?_⟩
      have e : cutS ⟨z.toArray⟩ lo hi = ⟨(cutL z lo hi).toArray⟩ := by
        unfold cutS cutL
        rw [str_len]
      rw [e]
      exact post_same h sr rfl
    · rw [if_neg hz] at h
      exact h.elim
  | tup xs =>
    obtain ⟨a, vs, rfl, t, rs⟩ := tup_at rx
    refine .inr (.inl ⟨a, vs, rfl, t.sq, fun hw => ?_, fun _ p hp => post_tup sr (VRs.cut rs lo hi) hp h⟩)
    have h' : PostG K E (VR K) Q μ H (.ok (.tup (cutL xs lo hi)) st) := h
    have e : cutL xs lo hi = xs := by
      unfold cutL
      rw [VRs.length rs, hw.1, hw.2, List.drop_zero, Nat.sub_zero, ← VRs.length rs]
      simp
    rw [e] at h'
    exact post_same h' sr rx
  | lst xs => exact sl_lists sr rx (fun _ z => nomatch z) h
  | frz xs => exact sl_lists sr rx (fun _ z => nomatch z) h
  | loc n => exact sl_lists sr rx (fun _ z => nomatch z) h
  | _ => exact h.elim
theorem me_slice (he : ME X W e me) (hl : MO X W lo ml) (hh : MO X W hi mh) : ME X W (.Subscript e (.Slice lo hi none p2) pos) (eSl slM me ml mh) := me_slG t_sl he hl hh
theorem t_slN {K : PySem.W.Frag} : TSl K (rSlM K) slN := by
  intro μ st H x lo hi u E Q sr rx h
  have go : ∀ (nt : ∀ xs, x ≠ .tup xs), PostG K E (VR K) Q μ H (match seqOf x st with
    | some xs => .ok (.loc st.length) (st ++ [.lst (cutL xs lo hi)])
    | none => .bad) → rSlM K u lo hi H Q := by
    intro nt h
    cases q : seqOf x st with
    | none => rw [q] at h; exact h.elim
    | some xs =>
      rw [q] at h
      obtain ⟨a, vs, rfl, hq, rs⟩ : ∃ a vs, u = .ref a ∧ SqL K H a vs ∧ VRs K H μ xs vs := by
        cases x with
        | lst xs => cases q; obtain ⟨a, vs, e, l, rs⟩ := lst_at rx; exact ⟨a, vs, e, l.sq, rs⟩
        | frz xs => cases q; obtain ⟨a, vs, e, l, rs⟩ := frz_at rx; exact ⟨a, vs, e, l.sq, rs⟩
        | loc n => obtain ⟨a, vs, e, l, rs⟩ := listOf_at sr rx (show listOf (.loc n) st = some xs from q); exact ⟨a, vs, e, SqL.of l, rs⟩
        | tup xs => exact absurd rfl (nt xs)
        | _ => cases q
      exact .inr (.inr ⟨a, vs, rfl, hq, fun p hp => post_cell h sr hp ⟨_, upd_same, VRs.mono (gr_alloc hp) _ _ (VRs.cut rs lo hi)⟩⟩)
  cases x with
  | str z => exact h.elim
  | tup xs => exact h.elim
  | lst xs => exact go (fun _ z => nomatch z) h
  | frz xs => exact go (fun _ z => nomatch z) h
  | loc n => exact go (fun _ z => nomatch z) h
  | _ => exact h.elim
theorem me_sliceN (he : ME X W e me) (hl : MO X W lo ml) (hh : MO X W hi mh) : ME X W (.Subscript e (.Slice lo hi none p2) pos) (eSl slN me ml mh) := me_slG t_slN he hl hh
end
section
variable {X : Cx} {W : WX} {es : List Expr} {pos : Pos} {ma : Rho → M (List PV)}
def mkTup (xs : List PV) : M PV := if xs.length ≤ SZ then M.ret (.tup xs) else M.fail
def mkLst (xs : List PV) : M PV := if xs.length ≤ SZ then M.ret (.lst xs) else M.fail
def mkLstN (xs : List PV) : M PV := fun st => if xs.length ≤ SZ then .ok (.loc st.length) (st ++ [.lst xs]) else .bad
theorem me_tup {k : Nat} (h : MA X W es ma) : ME X W (.Tuple es k pos) (eCall mkTup ma) :=
  PE.imp (pe_tup h) fun σ H Q ⟨μ, st, ρ, er, sr, h⟩ => ⟨μ, st, ρ, er, sr, (PostG.bind h).mono fun us H1 ⟨μ1, st1, xs, g1, s1, rxs, h1⟩ => by
    unfold mkTup at h1
    by_cases hz : xs.length ≤ SZ
    · rw [if_pos hz] at h1
      exact ⟨by rw [← VRs.length rxs, sz_eq]; exact hz, fun p hp => post_tup s1 rxs hp h1⟩
    · rw [if_neg hz] at h1
      exact h1.elim⟩
theorem me_lst (h : MA X W es ma) : ME X W (.List es pos) (eCall mkLst ma) :=
  PE.imp (pe_lst h) fun σ H Q ⟨μ, st, ρ, er, sr, h⟩ => ⟨μ, st, ρ, er, sr, (PostG.bind h).mono fun us H1 ⟨μ1, st1, xs, g1, s1, rxs, h1⟩ => by
    unfold mkLst at h1
    by_cases hz : xs.length ≤ SZ
    · rw [if_pos hz] at h1
      exact ⟨by rw [← VRs.length rxs, sz_eq]; exact hz, fun p hp => post_lst s1 rxs hp h1⟩
    · rw [if_neg hz] at h1
      exact h1.elim⟩
theorem me_lstN (h : MA X W es ma) : ME X W (.List es pos) (eCall mkLstN ma) :=
  PE.imp (pe_lst h) fun σ H Q ⟨μ, st, ρ, er, sr, h⟩ => ⟨μ, st, ρ, er, sr, (PostG.bind h).mono fun us H1 ⟨μ1, st1, xs, g1, s1, rxs, h1⟩ => by
    unfold mkLstN at h1
    by_cases hz : xs.length ≤ SZ
    · rw [if_pos hz] at h1
      exact ⟨by rw [← VRs.length rxs, sz_eq]; exact hz, fun p hp => post_cell h1 s1 hp ⟨_, upd_same, VRs.mono (gr_alloc hp) _ _ rxs⟩⟩
    · rw [if_neg hz] at h1
      exact h1.elim⟩
def eDct0 : Rho → M PV := fun _ st => .ok (.loc st.length) (st ++ [.dct []])
theorem me_dict0 : ME X W (.Dict [] [] pos) eDct0 := PE.imp pe_dnewK fun σ H Q ⟨μ, st, ρ, er, sr, h⟩ p hp => post_cell h sr hp ⟨_, upd_same, rfl⟩
def pairsM : List ((Rho → M PV) × (Rho → M PV)) → Rho → M (List (PV × PV))
  | [], _ => M.ret []
  | m :: r, ρ => M.bind (m.1 ρ) fun k => M.bind (m.2 ρ) fun v => M.bind (pairsM r ρ) fun ps => M.ret ((k, v) :: ps)
def PRs (K : PySem.W.Frag) (H : Hp) (μ : Mu) : List (PV × PV) → List (V × V) → Prop
  | [], ps => ps = []
  | p :: r, ps => ∃ k v t, ps = (k, v) :: t ∧ VR K H μ p.1 k ∧ VR K H μ p.2 v ∧ PRs K H μ r t
theorem PRs.mono {K : PySem.W.Frag} {H H' : Hp} {μ μ' : Mu} (g : Gr μ H μ' H') : ∀ (ps : List (PV × PV)) (kv : List (V × V)), PRs K H μ ps kv → PRs K H' μ' ps kv
  | [], _, h => h
  | p :: ps, kv, h => by
    obtain ⟨k, v, t, e, hk, h1, h2⟩ := h
    exact ⟨k, v, t, e, VR.mono g _ _ hk, VR.mono g _ _ h1, PRs.mono g ps t h2⟩
theorem pairs_imp {K : PySem.W.Frag} {W : WX} {σ : St} {ρ : Rho} : ∀ (ms : List ((Rho → M PV) × (Rho → M PV))) (μ : Mu) (st : Sto) (H : Hp) (Q : List (V × V) → Hp → Prop), ER K H μ ρ σ → SR K μ st H →
    PostG K (fun c d H' => W c d σ H') (PRs K) Q μ H (pairsM ms ρ st) → tPairs (ms.map fun m => (tM K W m.1, tM K W m.2)) σ H Q
  | [], μ, st, H, Q, er, sr, h => h μ H [] (Gr.refl _ _) sr rfl
  | m :: r, μ, st, H, Q, er, sr, h => ⟨μ, st, ρ, er, sr, (PostG.bind h).mono fun u H1 ⟨μ1, st1, x, g1, s1, rx, h1⟩ => ⟨μ1, st1, ρ, er.mono g1, s1, (PostG.bind h1).mono fun w H2 ⟨μ2, st2, y, g2, s2, ry, h2⟩ =>
      pairs_imp r μ2 st2 H2 _ ((er.mono g1).mono g2) s2 ((PostG.bind h2).mono fun ps H3 ⟨μ3, st3, qs, g3, s3, rs, h3⟩ => h3 μ3 H3 _ (Gr.refl _ _) s3 ⟨u, w, ps, rfl, VR.mono g3 x u (VR.mono g2 x u rx), VR.mono g3 y w ry, rs⟩)⟩⟩
def mergeP (kvs more : List (PV × PV)) : List (PV × PV) := more.foldl (fun acc kv => putP acc kv.1 kv.2) kvs
def keysOk (kvs : List (PV × PV)) : Bool := kvs.all fun kv => (keyOf kv.1).isSome
def eDct (ms : List ((Rho → M PV) × (Rho → M PV))) : Rho → M PV := fun ρ => M.bind (pairsM ms ρ) fun ps st => if keysOk ps = true ∧ ps.length ≤ 15 then .ok (.loc st.length) (st ++ [.dct (mergeP [] ps)]) else .bad
def MPs (X : Cx) (W : WX) (pos : Pos) (keys : List (Option Expr)) (values : List Expr) (ms : List ((Rho → M PV) × (Rho → M PV))) : Prop := PPs X pos keys values (ms.map fun m => (tM X.K W m.1, tM X.K W m.2))
theorem mps_nil : MPs X W pos [] [] [] := pps_nil
theorem mps_cons {k v : Expr} {ks : List (Option Expr)} {vs : List Expr} {mk mv : Rho → M PV} {ms : List ((Rho → M PV) × (Rho → M PV))} (hk : ME X W k mk) (hv : ME X W v mv) (hr : MPs X W pos ks vs ms) : MPs X W pos (some k :: ks) (v :: vs) ((mk, mv) :: ms) := pps_cons hk hv hr
theorem PRs.keys {K : PySem.W.Frag} {H : Hp} {μ : Mu} : ∀ {ps : List (PV × PV)} {kv : List (V × V)}, PRs K H μ ps kv → keysOk ps = true → ∃ ks : List (Key × V), kv = ks.map (fun x => (kV x.1, x.2)) ∧ KRs K H μ ps ks
  | [], kv, h, _ => by have e : kv = [] := h; subst e; exact ⟨[], rfl, rfl⟩
  | p :: ps, kv, h, hk => by
    obtain ⟨k, v, t, rfl, h1, h2, h3⟩ := h
    have hk' : (keyOf p.1).isSome = true ∧ keysOk ps = true := by simpa [keysOk] using hk
    obtain ⟨k', ek⟩ := Option.isSome_iff_exists.mp hk'.1
    obtain ⟨ks, e, r⟩ := PRs.keys h3 hk'.2
    exact ⟨(k', v) :: ks, by rw [List.map_cons, ← e, keyOf_kV ek h1], k', v, ks, rfl, ek, h2, r⟩
theorem KRs.merge {K : PySem.W.Frag} {H : Hp} {μ : Mu} : ∀ {ps : List (PV × PV)} {ks : List (Key × V)} {qs : List (PV × PV)} {ls : List (Key × V)}, KRs K H μ ps ks → KRs K H μ qs ls → KRs K H μ (mergeP qs ps) (mergeK ls ks)
  | [], ks, qs, ls, h, r => by have e : ks = [] := h; subst e; exact r
  | p :: ps, ks, qs, ls, h, r => by
    obtain ⟨k, v, t, rfl, ek, h1, h2⟩ := h
    show KRs K H μ (mergeP (putP qs p.1 p.2) ps) (mergeK (putK ls k v) t)
    exact KRs.merge h2 (r.put ek h1)
theorem me_dict {keys : List (Option Expr)} {values : List Expr} {ms : List ((Rho → M PV) × (Rho → M PV))} (h : MPs X W pos keys values ms) (hall : keys.all (·.isSome) = true := by kernel_rfl) (hl : keys.length = values.length := by kernel_rfl) (h0 : keys ≠ [] := by intro z; cases z) (h15 : keys.length ≤ 15 := by decide) : ME X W (.Dict keys values pos) (eDct ms) :=
  PE.imp (pe_disp h hall hl h0 h15) fun σ H Q ⟨μ, st, ρ, er, sr, h⟩ p hp => pairs_imp ms μ st _ _ (er.mono (gr_new hp)) (sr.new hp) ((PostG.bindAt h (gr_new (o := .dK []) hp)).mono fun ps H1 ⟨μ1, st1, qs, g1, s1, rs, h1⟩ => by
    have hp1 : H1 p = some (.dK []) := g1.keep p _ upd_same (fun z => sr.free hp (.inl z))
    have np : p ∉ μ1 := g1.out upd_same (sr.free hp)
    by_cases hk : keysOk qs = true ∧ qs.length ≤ 15
    · rw [if_pos hk] at h1
      obtain ⟨ks, e, r⟩ := PRs.keys rs hk.1
      refine ⟨hp1, ks, e, by rw [← KRs.length r]; exact hk.2, ?_⟩
      have nseq : ∀ u, H1 p = some u → seqO u = false := fun u z => by rw [hp1] at z; cases z; rfl
      have gr : Gr μ H (μ1.add p) (upd H1 p (.dK (mergeK [] ks))) := by
        obtain ⟨t, et⟩ := g1.pre
        refine ⟨⟨t ++ [p], by show μ1.l ++ [p] = _; rw [et, List.append_assoc]⟩, g1.ban, fun b m => ?_, fun b m => ?_, fun b o e nb => ?_⟩
        · rcases g1.bnew b m with z | z
          · exact .inl z
          · by_cases hb : b = p
            · rw [hb]; exact .inr hp
            · rw [upd_ne hb] at z; exact .inr z
        · rcases List.mem_append.mp m with z | z
          · rcases g1.new b z with z | z
            · exact .inl z
            · by_cases hb : b = p
              · rw [hb]; exact .inr hp
              · rw [upd_ne hb] at z; exact .inr z
          · rw [List.mem_singleton.mp z]; exact .inr hp
        · have hb : b ≠ p := ne_of_none e hp
          rw [upd_ne hb]
          exact g1.keep b o (by rw [upd_ne hb]; exact e) nb
      refine h1 _ _ (.ref p) gr (s1.track np nseq ⟨_, upd_same, KRs.mono (gv_alloc nseq) _ _ (KRs.merge r (show KRs X.K H1 μ1 [] [] from rfl))⟩) ?_
      exact (show ∃ a, V.ref p = .ref a ∧ (μ1.add p).l[st1.length]? = some a from ⟨p, rfl, by rw [← s1.len]; simp [Mu.add]⟩)
    · rw [if_neg hk] at h1
      exact h1.elim)
end
end MP

set_option maxRecDepth 100000
set_option maxHeartbeats 1000000
namespace MP
open PySem L2
def setM (o i v : PV) : M Unit := fun st => match o with
  | .loc n => match st[n]? with
    | some (.lst xs) => match i with
      | .int k => match ixN xs.length k with
        | some j => .ok () (st.set n (.lst (xs.set j v)))
        | none => .bad
      | _ => .bad
    | some (.dct kvs) => if (keyOf i).isSome = true ∧ kvs.length < SZ then .ok () (st.set n (.dct (putP kvs i v))) else .bad
    | _ => .bad
  | _ => .bad
def rSetM : V → V → V → Hp → (Hp → Prop) → Prop := fun o i v H Q => rSetL o i v H Q ∨ ∃ a H', o = .ref a ∧ DPut H a i v H' ∧ Q H'
theorem set_M {X : Cx} (hu : X.A.units + 1 < cLine) : PSet X rSetM := by
  intro pins s σ H o i v ov iv u Q I ro ri rv h
  rcases h with h | ⟨a, H', rfl, g, q⟩
  · exact set_list pins s σ H o i v ov iv u Q I ro ri rv h
  · cases (show ov = Value.ref a from ro)
    exact d_setItem hu I g ri rv fun s4 I4 => ⟨H', I4, q⟩
theorem t_set {K : PySem.W.Frag} {μ : Mu} {st : Sto} {H : Hp} {o i v : PV} {a b c : V} {E : XK} {Q : Hp → Prop} (sr : SR K μ st H) (ro : VR K H μ o a) (ri : VR K H μ i b) (rv : VR K H μ v c)
    (h : PostG K E (fun _ _ (_ : Unit) (_ : Unit) => True) (fun _ H' => Q H') μ H (setM o i v st)) : rSetM a b c H Q := by
  cases o with
  | loc n =>
    obtain ⟨p, rfl, hp⟩ := loc_at ro
    unfold setM at h
    dsimp only at h
    cases q : st[n]? with
    | none => rw [q] at h; exact h.elim
    | some cc =>
      rw [q] at h
      cases cc with
      | lst xs =>
        dsimp only at h
        cases i with
        | int k =>
          dsimp only at h
          cases (show b = V.int k from ri)
          cases qj : ixN xs.length k with
          | none => rw [qj] at h; exact h.elim
          | some j =>
            rw [qj] at h
            obtain ⟨vs, h1, h2⟩ := sr.cell n _ p q hp
            refine .inl ⟨p, vs, k, j, rfl, rfl, h1, by rw [← VRs.length h2]; exact qj, ?_⟩
            exact h μ _ () (gr_put hp) (sr.put hp ⟨_, upd_same, VRs.mono (gr_put hp) _ _ (VRs.set rv j h2)⟩) trivial
        | _ => exact h.elim
      | dct kvs =>
        dsimp only at h
        by_cases hk : (keyOf i).isSome = true ∧ kvs.length < SZ
        · rw [if_pos hk] at h
          obtain ⟨k', ek⟩ := Option.isSome_iff_exists.mp hk.1
          obtain ⟨kv, h1, h2⟩ := sr.cell n _ p q hp
          refine .inr ⟨p, upd H p (.dK (putK kv k' c)), rfl, ?_, ?_⟩
          · rw [keyOf_kV ek ri]
            exact DPut.k h1 (by rw [← KRs.length h2, sz_eq]; exact hk.2)
          · exact h μ _ () (gr_put hp) (sr.put hp ⟨_, upd_same, KRs.mono (gr_put hp).v _ _ (h2.put ek rv)⟩) trivial
        · rw [if_neg hk] at h
          exact h.elim
      | ins C fs => exact h.elim
  | _ => exact h.elim
def gSubM (mo mi : Rho → M PV) : GM := fun p ρ => M.bind (mo ρ) fun o => M.bind (mi ρ) fun i => M.bind (setM o i p) fun _ => M.ret ρ
section
variable {X : Cx} {W : WX} {o i : Expr} {pos : Pos} {mo mi : Rho → M PV}
theorem mg_sub (hu : X.A.units + 1 < cLine) (ho : ME X W o mo) (hi : ME X W i mi)
    (ha : ∀ v, assign (.Subscript o i pos) X.env v = (do
      let ov ← holding [v] (eval o X.env)
      let iv ← holding [v, ov] (eval i X.env)
      standAt pos
      holding [v, ov, iv] (setItem ov iv v)
      release [v, ov, iv] []) := by intro _; rfl) : MG X W (.Subscript o i pos) (gSubM mo mi) :=
  PG.imp (pg_sub ho hi (set_M hu) ha) fun v σ H Q ⟨μ, st, ρ, p, er, sr, rv, h⟩ => ⟨μ, st, ρ, er, sr, (PostG.bind h).mono fun u H1 ⟨μ1, st1, x, g1, s1, rx, h1⟩ =>
    ⟨μ1, st1, ρ, er.mono g1, s1, (PostG.bind h1).mono fun w H2 ⟨μ2, st2, y, g2, s2, ry, h2⟩ => t_set s2 (VR.mono g2 x u rx) ry (VR.mono g2 p v (VR.mono g1 p v rv))
      ((PostG.bind (R' := fun _ _ (_ : Unit) (_ : Unit) => True) h2).mono fun _ H3 ⟨μ3, st3, _, g3, s3, _, h3⟩ => h3 μ3 H3 σ (Gr.refl _ _) s3 (((er.mono g1).mono g2).mono g3))⟩⟩
end
def lenM (xs : List PV) : M PV := fun st => match xs with
  | [x] => match seqOf x st with
    | some ys => .ok (.int ys.length) st
    | none => match x with
      | .str z => if z.length ≤ SZ then .ok (.int z.length) st else .bad
      | x => match dctOf x st with
        | some kvs => .ok (.int kvs.length) st
        | none => .bad
  | _ => .bad
theorem one_of {K : PySem.W.Frag} {H : Hp} {μ : Mu} {x : PV} {us : List V} (r : VRs K H μ [x] us) : ∃ u, us = [u] ∧ VR K H μ x u := by
  obtain ⟨u, t, rfl, h1, h2⟩ := (show ∃ v t, us = v :: t ∧ VR K H μ x v ∧ VRs K H μ [] t from r)
  cases (show t = [] from h2)
  exact ⟨u, rfl, h1⟩
theorem two_of {K : PySem.W.Frag} {H : Hp} {μ : Mu} {x y : PV} {us : List V} (r : VRs K H μ [x, y] us) : ∃ u v, us = [u, v] ∧ VR K H μ x u ∧ VR K H μ y v := by
  obtain ⟨u, t, rfl, h1, h2⟩ := (show ∃ v t, us = v :: t ∧ VR K H μ x v ∧ VRs K H μ [y] t from r)
  obtain ⟨v, rfl, h3⟩ := one_of h2
  exact ⟨u, v, rfl, h1, h3⟩
def rLenM (K : PySem.W.Frag) : List V → Hp → VK → Prop := fun xs H Q => (∃ x n, xs = [x] ∧ LenV K x H n ∧ Q (.int n) H) ∨ ∃ a kvs, xs = [V.ref a] ∧ H a = some (.dK kvs) ∧ Q (.int kvs.length) H
theorem cr_lenM {X : Cx} : CallR X (.builtin "len") (rLenM X.K) := call_len.or call_lenD
theorem t_len {K : PySem.W.Frag} : TL K (rLenM K) lenM := by
  intro μ st H xs us E Q sr r h
  cases xs with
  | nil => exact h.elim
  | cons x t =>
    cases t with
    | cons y t => exact h.elim
    | nil =>
      obtain ⟨u, rfl, rx⟩ := one_of r
      unfold lenM at h
      dsimp only at h
      cases hs : seqOf x st with
      | some ys =>
        rw [hs] at h
        obtain ⟨a, vs, rfl, hq, rs⟩ := seqOf_at sr rx hs
        refine .inl ⟨.ref a, ys.length, rfl, ?_, post_same h sr rfl⟩
        rcases hq with hq | hq
        · exact .inl ⟨vs, hq, VRs.length rs⟩
        · exact .inr ⟨vs, hq, VRs.length rs⟩
      | none =>
        rw [hs] at h
        dsimp only at h
        have dc : PostG K E (VR K) Q μ H (match dctOf x st with
          | some kvs => .ok (.int kvs.length) st
          | none => .bad) → rLenM K [u] H Q := by
          intro h
          cases hd : dctOf x st with
          | none => rw [hd] at h; exact h.elim
          | some kvs =>
            rw [hd] at h
            obtain ⟨n, a, kv, ex, rfl, ha, hc, h1, h2⟩ := dctOf_at sr rx hd
            refine .inr ⟨a, kv, rfl, h1, ?_⟩
            rw [← KRs.length h2]
            exact post_same h sr rfl
        cases x with
        | str z =>
          cases (show u = V.str ⟨z.toArray⟩ from rx)
          dsimp only at h
          by_cases hz : z.length ≤ SZ
          · rw [if_pos hz] at h
            refine .inl ⟨_, z.length, rfl, ?_, post_same h sr rfl⟩
            exact ⟨by rw [str_len, sz_eq]; exact hz, by rw [str_len]⟩
          · rw [if_neg hz] at h
            exact h.elim
        | _ => exact dc h
def listM (xs : List PV) : M PV := fun st => match xs with
  | [x] => match seqOf x st with
    | some ys => .ok (.lst ys) st
    | none => .bad
  | _ => .bad
def listN (xs : List PV) : M PV := fun st => match xs with
  | [x] => match seqOf x st with
    | some ys => .ok (.loc st.length) (st ++ [.lst ys])
    | none => .bad
  | _ => .bad
abbrev rListM (K : PySem.W.Frag) : List V → Hp → VK → Prop := fun xs H Q => ∃ p ys, xs = [.ref p] ∧ (SqL K H p ys ∨ SqT K H p ys) ∧ ∀ l, H l = none → Q (.ref l) (upd H l (.lst ys))
theorem t_list {K : PySem.W.Frag} : TL K (rListM K) listM := by
  intro μ st H xs us E Q sr r h
  cases xs with
  | nil => exact h.elim
  | cons x t =>
    cases t with
    | cons y t => exact h.elim
    | nil =>
      obtain ⟨u, rfl, rx⟩ := one_of r
      unfold listM at h
      dsimp only at h
      cases hs : seqOf x st with
      | none => rw [hs] at h; exact h.elim
      | some ys =>
        rw [hs] at h
        obtain ⟨a, vs, rfl, hq, rs⟩ := seqOf_at sr rx hs
        exact ⟨a, vs, rfl, hq, fun l hl => post_lst sr rs hl h⟩
theorem t_listN {K : PySem.W.Frag} : TL K (rListM K) listN := by
  intro μ st H xs us E Q sr r h
  cases xs with
  | nil => exact h.elim
  | cons x t =>
    cases t with
    | cons y t => exact h.elim
    | nil =>
      obtain ⟨u, rfl, rx⟩ := one_of r
      unfold listN at h
      dsimp only at h
      cases hs : seqOf x st with
      | none => rw [hs] at h; exact h.elim
      | some ys =>
        rw [hs] at h
        obtain ⟨a, vs, rfl, hq, rs⟩ := seqOf_at sr rx hs
        exact ⟨a, vs, rfl, hq, fun l hl => post_cell h sr hl ⟨_, upd_same, VRs.mono (gr_alloc hl) _ _ rs⟩⟩
def tupleM (xs : List PV) : M PV := fun st => match xs with
  | [x] => match seqOf x st with
    | some ys => .ok (.tup ys) st
    | none => .bad
  | _ => .bad
abbrev rTupM (K : PySem.W.Frag) : List V → Hp → VK → Prop := fun xs H Q => ∃ p ys, xs = [.ref p] ∧ ((SqL K H p ys ∧ ∀ l, H l = none → Q (.ref l) (upd H l (.tup ys))) ∨ (SqT K H p ys ∧ Q (.ref p) H))
theorem t_tuple {K : PySem.W.Frag} : TL K (rTupM K) tupleM := by
  intro μ st H xs us E Q sr r h
  cases xs with
  | nil => exact h.elim
  | cons x t =>
    cases t with
    | cons y t => exact h.elim
    | nil =>
      obtain ⟨u, rfl, rx⟩ := one_of r
      unfold tupleM at h
      dsimp only at h
      cases hs : seqOf x st with
      | none => rw [hs] at h; exact h.elim
      | some ys =>
        rw [hs] at h
        cases x with
        | tup zs =>
          cases hs
          obtain ⟨a, vs, rfl, t, rs⟩ := tup_at rx
          exact ⟨a, vs, rfl, .inr ⟨t.sq, post_same h sr rx⟩⟩
        | lst zs =>
          cases hs
          obtain ⟨a, vs, rfl, t, rs⟩ := lst_at rx
          exact ⟨a, vs, rfl, .inl ⟨t.sq, fun l hl => post_tup sr rs hl h⟩⟩
        | frz zs =>
          cases hs
          obtain ⟨a, vs, rfl, t, rs⟩ := frz_at rx
          exact ⟨a, vs, rfl, .inl ⟨t.sq, fun l hl => post_tup sr rs hl h⟩⟩
        | loc n =>
          obtain ⟨a, vs, rfl, t, rs⟩ := listOf_at sr rx (show listOf (.loc n) st = some ys from hs)
          exact ⟨a, vs, rfl, .inl ⟨SqL.of t, fun l hl => post_tup sr rs hl h⟩⟩
        | _ => cases hs
def tyP (x : PV) (st : Sto) : Option String := match x with
  | .non => some "NoneType"
  | .bl _ => some "bool"
  | .int _ => some "int"
  | .str _ => some "str"
  | .tup _ => some "tuple"
  | .lst _ => some "list"
  | .loc n => match st[n]? with
    | some (.lst _) => some "list"
    | some (.dct _) => some "dict"
    | _ => none
  | _ => none
def isiT (t T : String) : Bool := t == T || (t == "bool" && T == "int")
def isiOk (T : String) : Bool := T == "int" || T == "bool" || T == "str" || T == "tuple" || T == "list" || T == "dict"
def isiM (xs : List PV) : M PV := fun st => match xs with
  | [x, .ty T] => if isiOk T = true then (match tyP x st with
    | some t => .ok (.bl (isiT t T)) st
    | none => .bad) else .bad
  | _ => .bad
theorem kit_tab : ∀ t ∈ ["NoneType", "bool", "int", "str", "tuple", "list", "dict"], ∀ T ∈ ["int", "bool", "str", "tuple", "list", "dict"], kitB t T = some (isiT t T) := by decide +kernel
theorem tyP_at {K : PySem.W.Frag} {H : Hp} {μ : Mu} {st : Sto} {x : PV} {v : V} {t : String} (sr : SR K μ st H) (r : VR K H μ x v) (h : tyP x st = some t) : t ∈ ["NoneType", "bool", "int", "str", "tuple", "list", "dict"] ∧ TyX K H v (.type t) := by
  cases x with
  | non => cases h; cases (show v = .non from r); exact ⟨by decide, .base .non⟩
  | bl b => cases h; cases (show v = .bl b from r); exact ⟨by decide, .base (.bl b)⟩
  | int b => cases h; cases (show v = .int b from r); exact ⟨by decide, .base (.int b)⟩
  | str b => cases h; cases (show v = .str ⟨b.toArray⟩ from r); exact ⟨by decide, .base (.str _)⟩
  | tup b =>
    cases h
    obtain ⟨a, vs, rfl, t, rs⟩ := tup_at r
    rcases t with ⟨t, _⟩ | ⟨o, its, n, hk, hc, _⟩
    · exact ⟨by decide, .base (.tup t)⟩
    · exact ⟨by decide, .kTuple hk hc⟩
  | lst b =>
    cases h
    obtain ⟨a, vs, rfl, t, rs⟩ := lst_at r
    exact ⟨by decide, .base (.lst t.1)⟩
  | loc n =>
    obtain ⟨a, rfl, ha⟩ := loc_at r
    unfold tyP at h
    dsimp only at h
    cases q : st[n]? with
    | none => rw [q] at h; cases h
    | some c =>
      rw [q] at h
      cases c with
      | lst xs =>
        cases h
        obtain ⟨vs, h1, _⟩ := sr.cell n _ a q ha
        exact ⟨by decide, .base (.lst h1)⟩
      | dct kvs =>
        cases h
        obtain ⟨vs, h1, _⟩ := sr.cell n _ a q ha
        exact ⟨by decide, .base (.dK h1)⟩
      | ins C fs => cases h
  | _ => cases h
theorem t_isi {K : PySem.W.Frag} : TL K (rIsi K) isiM := by
  intro μ st H xs us E Q sr r h
  cases xs with
  | nil => exact h.elim
  | cons x t =>
    cases t with
    | nil => exact h.elim
    | cons y t =>
      cases t with
      | cons z t =>
        unfold isiM at h
        cases y <;> exact h.elim
      | nil =>
        obtain ⟨u, v, rfl, rx, ry⟩ := two_of r
        cases y with
        | ty T =>
          cases (show v = V.ty T from ry)
          unfold isiM at h
          dsimp only at h
          by_cases hT : isiOk T = true
          · rw [if_pos hT] at h
            have hT' : T ∈ ["int", "bool", "str", "tuple", "list", "dict"] := by
              unfold isiOk at hT
              simp only [Bool.or_eq_true, beq_iff_eq] at hT
              simp only [List.mem_cons]
              rcases hT with ((((e | e) | e) | e) | e) | e <;> simp [e]
            cases q : tyP x st with
            | none => rw [q] at h; exact h.elim
            | some t =>
              rw [q] at h
              obtain ⟨m, ty⟩ := tyP_at sr rx q
              exact ⟨u, .ty T, .type t, .type T, _, rfl, .ty T, ty, kit_ty (kit_tab t m T hT'), post_same h sr rfl⟩
          · rw [if_neg hT] at h
            exact h.elim
        | _ => exact h.elim
def intM (xs : List PV) : M PV := match xs with
  | [.int i] => M.ret (.int i)
  | [.bl b] => M.ret (.int (if b then 1 else 0))
  | [.str x] => if x.length ≤ 640 then (match PySem.intText? ⟨x.toArray⟩ with | some n => M.ret (.int n) | none => M.fail) else M.fail
  | _ => M.fail
def rIntM : List V → Hp → VK → Prop := fun xs H Q => ((∃ i, xs = [.int i] ∧ Q (.int i) H) ∨ ∃ k, xs = [.bl k] ∧ Q (.int (if k then 1 else 0)) H) ∨ ∃ a n, xs = [.str a] ∧ PySem.intText? a = some n ∧ a.length ≤ 640 ∧ Q (.int n) H
theorem t_int {K : PySem.W.Frag} : TL K rIntM intM := by
  intro μ st H xs us E Q sr r h
  cases xs with
  | nil => exact h.elim
  | cons x t =>
    cases t with
    | cons y t => cases x <;> exact h.elim
    | nil =>
      obtain ⟨u, rfl, rx⟩ := one_of r
      cases x with
      | int i => cases (show u = V.int i from rx); exact .inl (.inl ⟨i, rfl, post_same h sr rfl⟩)
      | bl i => cases (show u = V.bl i from rx); exact .inl (.inr ⟨i, rfl, post_same h sr rfl⟩)
      | str x =>
        cases (show u = V.str ⟨x.toArray⟩ from rx)
        unfold intM at h
        dsimp only at h
        by_cases hz : x.length ≤ 640
        · rw [if_pos hz] at h
          cases q : PySem.intText? ⟨x.toArray⟩ with
          | none => rw [q] at h; exact h.elim
          | some n => rw [q] at h; exact .inr ⟨_, n, rfl, q, by rw [str_len]; exact hz, post_same h sr rfl⟩
        · rw [if_neg hz] at h
          exact h.elim
      | _ => exact h.elim
def maxM (xs : List PV) : M PV := match xs with
  | [.int i, .int j] => M.ret (.int (if j > i then j else i))
  | _ => M.fail
def minM (xs : List PV) : M PV := match xs with
  | [.int i, .int j] => M.ret (.int (if j < i then j else i))
  | _ => M.fail
theorem t_max {K : PySem.W.Frag} : TL K (fun xs H Q => ∃ i j, xs = [.int i, .int j] ∧ Q (.int (if j > i then j else i)) H) maxM := by
  intro μ st H xs us E Q sr r h
  unfold maxM at h
  split at h
  · obtain ⟨u, v, rfl, rx, ry⟩ := two_of r
    cases (show u = V.int _ from rx); cases (show v = V.int _ from ry)
    exact ⟨_, _, rfl, post_same h sr rfl⟩
  · exact h.elim
theorem t_min {K : PySem.W.Frag} : TL K (fun xs H Q => ∃ i j, xs = [.int i, .int j] ∧ Q (.int (if j < i then j else i)) H) minM := by
  intro μ st H xs us E Q sr r h
  unfold minM at h
  split at h
  · obtain ⟨u, v, rfl, rx, ry⟩ := two_of r
    cases (show u = V.int _ from rx); cases (show v = V.int _ from ry)
    exact ⟨_, _, rfl, post_same h sr rfl⟩
  · exact h.elim
def boolsOf : List PV → Option (List Bool)
  | [] => some []
  | .bl b :: r => (boolsOf r).map (b :: ·)
  | _ :: _ => none
theorem boolsOf_at {K : PySem.W.Frag} {H : Hp} {μ : Mu} : ∀ {ps : List PV} {vs : List V} {bs : List Bool}, VRs K H μ ps vs → boolsOf ps = some bs → vs = bs.map V.bl
  | [], vs, bs, r, h => by cases h; exact r
  | p :: ps, vs, bs, r, h => by
    obtain ⟨v, t, rfl, r1, r2⟩ := (show ∃ v t, vs = v :: t ∧ VR K H μ p v ∧ VRs K H μ ps t from r)
    cases p with
    | bl b =>
      unfold boolsOf at h
      cases q : boolsOf ps with
      | none => rw [q] at h; cases h
      | some cs =>
        rw [q] at h
        cases h
        cases (show v = V.bl b from r1)
        rw [boolsOf_at r2 q]
        rfl
    | _ => cases h
def allM (n : Bool) (xs : List PV) : M PV := fun st => match xs with
  | [x] => match listOf x st with
    | some ys => match boolsOf ys with
      | some bs => .ok (.bl (if n then bs.any id else bs.all id)) st
      | none => .bad
    | none => .bad
  | _ => .bad
abbrev rAllM (K : PySem.W.Frag) (n : Bool) : List V → Hp → VK → Prop := fun vs H Q => ∃ (a : Addr) (bs : List Bool), vs = [V.ref a] ∧ SqL K H a (bs.map V.bl) ∧ Q (.bl (if n then bs.any id else bs.all id)) H
theorem t_all {K : PySem.W.Frag} {n : Bool} : TL K (rAllM K n) (allM n) := by
  intro μ st H xs us E Q sr r h
  cases xs with
  | nil => exact h.elim
  | cons x t =>
    cases t with
    | cons y t => exact h.elim
    | nil =>
      obtain ⟨u, rfl, rx⟩ := one_of r
      unfold allM at h
      dsimp only at h
      cases hs : listOf x st with
      | none => rw [hs] at h; exact h.elim
      | some ys =>
        rw [hs] at h
        dsimp only at h
        cases hb : boolsOf ys with
        | none => rw [hb] at h; exact h.elim
        | some bs =>
          rw [hb] at h
          obtain ⟨a, vs, rfl, hq, rs⟩ := listOf_at sr rx hs
          rw [boolsOf_at rs hb] at hq
          exact ⟨a, bs, rfl, SqL.of hq, post_same h sr rfl⟩
section
variable {X : Cx} {W : WX} {e : Expr} {es : List Expr} {p pos : Pos} {ma : Rho → M (List PV)}
theorem me_len (hg : Gl X "len") (hm : X.mg "len" = none) (ha : MA X W [e] ma) (he : starEach [e] X.env = (false, eval e X.env) :: starEach [] X.env := by kernel_rfl) : ME X W (.Call (.Name "len" p) [e] [] pos) (eCall lenM ma) :=
  me_callB cr_lenM t_len hg hm PySem.boot_len ha (by decide) (by decide) he rfl
theorem me_listOf (hg : Gl X "list") (hm : X.mg "list" = none) (ha : MA X W [e] ma) (he : starEach [e] X.env = (false, eval e X.env) :: starEach [] X.env := by kernel_rfl) : ME X W (.Call (.Name "list" p) [e] [] pos) (eCall listM ma) :=
  me_callTy call_list_of t_list hg hm (by decide +kernel) ha (by decide) (by decide) he rfl
theorem me_listNew (hg : Gl X "list") (hm : X.mg "list" = none) (ha : MA X W [e] ma) (he : starEach [e] X.env = (false, eval e X.env) :: starEach [] X.env := by kernel_rfl) : ME X W (.Call (.Name "list" p) [e] [] pos) (eCall listN ma) :=
  me_callTy call_list_of t_listN hg hm (by decide +kernel) ha (by decide) (by decide) he rfl
theorem me_tupleOf (hg : Gl X "tuple") (hm : X.mg "tuple" = none) (ha : MA X W [e] ma) (he : starEach [e] X.env = (false, eval e X.env) :: starEach [] X.env := by kernel_rfl) : ME X W (.Call (.Name "tuple" p) [e] [] pos) (eCall tupleM ma) :=
  me_callTy call_tuple_of t_tuple hg hm (by decide +kernel) ha (by decide) (by decide) he rfl
theorem me_isinst (hg : Gl X "isinstance") (hm : X.mg "isinstance" = none) (ha : MA X W (e :: es) ma) (he : starEach (e :: es) X.env = (false, eval e X.env) :: starEach es X.env := by kernel_rfl) (hpl : (backTo pos (starEach es X.env)).any (·.1) = false := by kernel_rfl) : ME X W (.Call (.Name "isinstance" p) (e :: es) [] pos) (eCall isiM ma) :=
  me_callB call_isi t_isi hg hm (by decide +kernel) ha (by decide) (by decide) he hpl
theorem me_intOf (hg : Gl X "int") (hm : X.mg "int" = none) (ha : MA X W [e] ma) (he : starEach [e] X.env = (false, eval e X.env) :: starEach [] X.env := by kernel_rfl) : ME X W (.Call (.Name "int" p) [e] [] pos) (eCall intM ma) :=
  me_callTy (call_int1.or call_int_str) t_int hg hm (by decide +kernel) ha (by decide) (by decide) he rfl
theorem me_max2 (hc : X.calm = true) (hg : Gl X "max") (hm : X.mg "max" = none) (ha : MA X W (e :: es) ma) (he : starEach (e :: es) X.env = (false, eval e X.env) :: starEach es X.env := by kernel_rfl) (hpl : (backTo pos (starEach es X.env)).any (·.1) = false := by kernel_rfl) : ME X W (.Call (.Name "max" p) (e :: es) [] pos) (eCall maxM ma) :=
  me_callB (call_max2 hc) t_max hg hm (by decide +kernel) ha (by decide) (by decide) he hpl
theorem me_min2 (hc : X.calm = true) (hg : Gl X "min") (hm : X.mg "min" = none) (ha : MA X W (e :: es) ma) (he : starEach (e :: es) X.env = (false, eval e X.env) :: starEach es X.env := by kernel_rfl) (hpl : (backTo pos (starEach es X.env)).any (·.1) = false := by kernel_rfl) : ME X W (.Call (.Name "min" p) (e :: es) [] pos) (eCall minM ma) :=
  me_callB (call_min2 hc) t_min hg hm (by decide +kernel) ha (by decide) (by decide) he hpl
theorem me_all (hc : X.calm = true) (hg : Gl X "all") (hm : X.mg "all" = none) (ha : MA X W [e] ma) (he : starEach [e] X.env = (false, eval e X.env) :: starEach [] X.env := by kernel_rfl) : ME X W (.Call (.Name "all" p) [e] [] pos) (eCall (allM false) ma) :=
  me_callB (cr_all hc) (t_all (n := false)) hg hm (by decide +kernel) ha (by decide) (by decide) he rfl
theorem me_any (hc : X.calm = true) (hg : Gl X "any") (hm : X.mg "any" = none) (ha : MA X W [e] ma) (he : starEach [e] X.env = (false, eval e X.env) :: starEach [] X.env := by kernel_rfl) : ME X W (.Call (.Name "any" p) [e] [] pos) (eCall (allM true) ma) :=
  me_callB (cr_any hc) (t_all (n := true)) hg hm (by decide +kernel) ha (by decide) (by decide) he rfl
end
end MP

set_option maxRecDepth 100000
set_option maxHeartbeats 1000000
namespace MP
open PySem L2
theorem TupAt.grow {K : PySem.W.Frag} {H H' : Hp} {μ μ' : Mu} {a : Addr} {vs : List V} (g : Gr μ H μ' H') (t : TupAt K H μ a vs) : TupAt K H' μ' a vs := by
  rcases t with ⟨t, n⟩ | t
  · exact .inl ⟨g.keep a _ t (fun z => n (.inl z)), g.out t n⟩
  · exact .inr t
theorem LstAt.grow {H H' : Hp} {μ μ' : Mu} {a : Addr} {vs : List V} (g : Gr μ H μ' H') (t : LstAt H μ a vs) : LstAt H' μ' a vs := ⟨g.keep a _ t.1 (fun z => t.2 (.inl z)), g.out t.1 t.2⟩
theorem FrzAt.grow {K : PySem.W.Frag} {H H' : Hp} {μ μ' : Mu} {a : Addr} {vs : List V} (g : Gr μ H μ' H') (t : FrzAt K H μ a vs) : FrzAt K H' μ' a vs := by
  rcases t with ⟨t | ⟨o, t⟩, n⟩ | t
  · exact .inl ⟨.inl (g.keep a _ t (fun z => n (.inl z))), g.out t n⟩
  · exact .inl ⟨.inr ⟨o, g.keep a _ t (fun z => n (.inl z))⟩, g.out t n⟩
  · exact .inr t
theorem sup_tup {K : PySem.W.Frag} {H : Hp} {μ : Mu} {a : Addr} {ps : List PV} {vs : List V} (t : TupAt K H μ a vs) (r : VRs K H μ ps vs) : Sup K (Itt K a) ps μ H := fun μ' H' st g sr => by
  have q := (t.grow g).sq
  refine ⟨fun i p hp => ?_, ⟨vs, q, by rw [VRs.length r]; exact Nat.le_refl _⟩⟩
  obtain ⟨v, e1, e2⟩ := VRs.get (VRs.mono g ps vs r) hp
  refine ⟨⟨vs, v, q, e1⟩, fun x H2 ⟨eh, y⟩ => ?_⟩
  subst eh
  have ex : v = x := Option.some.inj (e1.symm.trans (y vs q))
  subst ex
  exact ⟨Gr.refl _ _, sr, e2⟩
theorem sup_lst {K : PySem.W.Frag} {H : Hp} {μ : Mu} {a : Addr} {ps : List PV} {vs : List V} (t : ∀ μ' H', Gr μ H μ' H' → SqL K H' a vs) (r : VRs K H μ ps vs) : Sup K (Itl K a) ps μ H := fun μ' H' st g sr => by
  have q := t μ' H' g
  refine ⟨fun i p hp => ?_, ⟨vs, q, by rw [VRs.length r]; exact Nat.le_refl _⟩⟩
  obtain ⟨v, e1, e2⟩ := VRs.get (VRs.mono g ps vs r) hp
  refine ⟨⟨vs, v, q, e1⟩, fun x H2 ⟨eh, y⟩ => ?_⟩
  subst eh
  have ex : v = x := Option.some.inj (e1.symm.trans (y vs q))
  subst ex
  exact ⟨Gr.refl _ _, sr, e2⟩
theorem sup_str {K : PySem.W.Frag} {H : Hp} {μ : Mu} {z : List Nat} : Sup K (Its ⟨z.toArray⟩) (z.map fun c => .str [c]) μ H := fun μ' H' st g sr => by
  refine ⟨fun i p hp => ?_, by show z.toArray.size ≤ _; simp⟩
  rw [List.getElem?_map] at hp
  cases q : z[i]? with
  | none => rw [q] at hp; cases hp
  | some c =>
    rw [q] at hp
    cases hp
    refine ⟨by show i < z.toArray.size; have := (List.getElem?_eq_some_iff.mp q).1; simpa using this, fun x H2 ⟨eh, c', ec, ex⟩ => ?_⟩
    subst eh ex
    have e : z.toArray[i]? = some c' := ec
    have e' : c' = c := by
      rw [List.getElem?_toArray, q] at e
      exact (Option.some.inj e).symm
    subst e'
    exact ⟨Gr.refl _ _, sr, rfl⟩
theorem sup_range {K : PySem.W.Frag} {H : Hp} {μ : Mu} {lo : Int} {n : Nat} : Sup K (Itr lo n) ((List.range n).map fun (i : Nat) => .int (lo + (i : Int))) μ H := fun μ' H' st g sr => by
  refine ⟨fun i p hp => ?_, by show n ≤ _; simp⟩
  rw [List.getElem?_map] at hp
  cases q : (List.range n)[i]? with
  | none => rw [q] at hp; cases hp
  | some c =>
    rw [q] at hp
    cases hp
    obtain ⟨h1, h2⟩ := List.getElem?_eq_some_iff.mp q
    rw [List.getElem_range] at h2
    subst h2
    refine ⟨by show i < n; simpa using h1, fun x H2 ⟨eh, ex⟩ => ?_⟩
    subst eh ex
    exact ⟨Gr.refl _ _, sr, rfl⟩
def itemsM : PV → M (List PV)
  | .tup xs => M.ret xs
  | .lst xs => M.ret xs
  | .frz xs => M.ret xs
  | .str z => M.ret (z.map fun c => .str [c])
  | _ => M.fail
def iSeq (m : Rho → M PV) : Rho → M (List PV) := fun ρ => M.bind (m ρ) itemsM
section
variable {X : Cx} {W : WX} {tg e a b : Expr} {p pos : Pos} {me : Rho → M PV} {ma : Rho → M (List PV)}
theorem PI.or {iter : Expr} {t t' : TI} (h : PI X tg iter t) (h' : PI X tg iter t') : PI X tg iter (fun σ H R => t σ H R ∨ t' σ H R) := ⟨fun pins s σ H R I q => by
  rcases q with q | q
  · exact h.run pins s σ H R I q
  · exact h'.run pins s σ H R I q⟩
theorem mi_seq (he : ME X W e me) : MI X W tg e (iSeq me) :=
  PI.imp (PI.or (pi_tup he) (PI.or (pi_list he) (pi_str he))) fun σ H R ⟨μ, st, ρ, er, sr, h⟩ => by
    have h0 := h
    unfold iSeq M.bind at h
    cases q : me ρ st with
    | bad => rw [q] at h; exact h.elim
    | err x st' =>
      rw [q] at h
      refine .inl ⟨μ, st, ρ, er, sr, ?_⟩
      rw [q]
      exact h
    | ok v st' =>
      rw [q] at h
      dsimp only at h
      cases v with
      | tup xs =>
        refine .inl ⟨μ, st, ρ, er, sr, ?_⟩
        rw [q]
        intro μ1 H1 u g1 s1 ru
        obtain ⟨a, vs, rfl, t, rs⟩ := tup_at ru
        exact ⟨a, rfl, ⟨vs, t.sq⟩, h μ1 H1 _ g1 s1 (sup_tup t rs)⟩
      | lst xs =>
        refine .inr (.inl ⟨μ, st, ρ, er, sr, ?_⟩)
        rw [q]
        intro μ1 H1 u g1 s1 ru
        obtain ⟨a, vs, rfl, t, rs⟩ := lst_at ru
        exact ⟨a, rfl, ⟨vs, t.sq⟩, h μ1 H1 _ g1 s1 (sup_lst (fun _ _ g => (t.grow g).sq) rs)⟩
      | frz xs =>
        refine .inr (.inl ⟨μ, st, ρ, er, sr, ?_⟩)
        rw [q]
        intro μ1 H1 u g1 s1 ru
        obtain ⟨a, vs, rfl, t, rs⟩ := frz_at ru
        exact ⟨a, rfl, ⟨vs, t.sq⟩, h μ1 H1 _ g1 s1 (sup_lst (fun _ _ g => (t.grow g).sq) rs)⟩
      | str z =>
        refine .inr (.inr ⟨μ, st, ρ, er, sr, ?_⟩)
        rw [q]
        intro μ1 H1 u g1 s1 ru
        cases (show u = V.str ⟨z.toArray⟩ from ru)
        exact ⟨_, rfl, h μ1 H1 _ g1 s1 sup_str⟩
      | _ => exact h.elim
def rangeOk (i : Int) : Prop := -4611686018427387904 ≤ i ∧ i < 4611686018427387904
instance (i : Int) : Decidable (rangeOk i) := by unfold rangeOk; exact inferInstance
def range1 (xs : List PV) : M (List PV) := match xs with
  | [.int j] => if rangeOk j then M.ret ((List.range j.toNat).map fun (i : Nat) => .int ((0 : Int) + (i : Int))) else M.fail
  | _ => M.fail
def range2 (xs : List PV) : M (List PV) := match xs with
  | [.int i, .int j] => if rangeOk i ∧ rangeOk j then M.ret ((List.range (j - i).toNat).map fun (k : Nat) => .int (i + (k : Int))) else M.fail
  | _ => M.fail
def iCall (f : List PV → M (List PV)) (m : Rho → M (List PV)) : Rho → M (List PV) := fun ρ => M.bind (m ρ) f
theorem mi_range1 (hg : Gl X "range") (hm : X.mg "range" = none) (ha : MA X W [a] ma) (hs : starEach [a] X.env = [(false, eval a X.env)] := by kernel_rfl) : MI X W tg (.Call (.Name "range" p) [a] [] pos) (iCall range1 ma) :=
  PI.imp (pi_range1 hg hm ha hs) fun σ H R ⟨μ, st, ρ, er, sr, h⟩ => ⟨μ, st, ρ, er, sr, (PostG.bind h).mono fun us H1 ⟨μ1, st1, xs, g1, s1, rxs, h1⟩ => by
    unfold range1 at h1
    split at h1
    · rename_i j
      by_cases hj : rangeOk j
      · rw [if_pos hj] at h1
        obtain ⟨u, rfl, ru⟩ := one_of rxs
        cases (show u = V.int j from ru)
        exact ⟨j, rfl, hj.1, hj.2, h1 μ1 H1 _ (Gr.refl _ _) s1 sup_range⟩
      · rw [if_neg hj] at h1
        exact h1.elim
    · exact h1.elim⟩
theorem mi_range2 (hg : Gl X "range") (hm : X.mg "range" = none) (ha : MA X W [a, b] ma) (hs : starEach [a, b] X.env = [(false, eval a X.env), (false, eval b X.env)] := by kernel_rfl) (hs2 : starEach [b] X.env = [(false, eval b X.env)] := by kernel_rfl) : MI X W tg (.Call (.Name "range" p) [a, b] [] pos) (iCall range2 ma) :=
  PI.imp (pi_range2 hg hm ha hs hs2) fun σ H R ⟨μ, st, ρ, er, sr, h⟩ => ⟨μ, st, ρ, er, sr, (PostG.bind h).mono fun us H1 ⟨μ1, st1, xs, g1, s1, rxs, h1⟩ => by
    unfold range2 at h1
    split at h1
    · rename_i i j
      by_cases hj : rangeOk i ∧ rangeOk j
      · rw [if_pos hj] at h1
        obtain ⟨u, v, rfl, ru, rv⟩ := two_of rxs
        cases (show u = V.int i from ru)
        cases (show v = V.int j from rv)
        exact ⟨i, j, rfl, ⟨hj.1.1, hj.1.2, hj.2.1, hj.2.2⟩, h1 μ1 H1 _ (Gr.refl _ _) s1 sup_range⟩
      · rw [if_neg hj] at h1
        exact h1.elim
    · exact h1.elim⟩
theorem sup_enum {K : PySem.W.Frag} {H : Hp} {μ : Mu} {a : Addr} {ps : List PV} {vs : List V} (t : ∀ μ' H', Gr μ H μ' H' → SqL K H' a vs) (r : VRs K H μ ps vs) : Sup K (Ite K a) (ps.mapIdx fun i p => .tup [.int (i : Nat), p]) μ H := fun μ' H' st g sr => by
  have q := t μ' H' g
  refine ⟨fun i p hp => ?_, ⟨vs, q, by rw [List.length_mapIdx, VRs.length r]; exact Nat.le_refl _⟩⟩
  rw [List.getElem?_mapIdx] at hp
  cases hq : ps[i]? with
  | none => rw [hq] at hp; cases hp
  | some p0 =>
    rw [hq] at hp
    cases hp
    obtain ⟨v, e1, e2⟩ := VRs.get (VRs.mono g ps vs r) hq
    refine ⟨⟨vs, v, q, e1⟩, fun x H2 ⟨T, y, ex, hT, eh, hy⟩ => ?_⟩
    subst ex eh
    have ev : v = y := Option.some.inj (e1.symm.trans (hy vs q))
    subst ev
    refine ⟨gr_new hT, sr.new hT, ?_⟩
    refine (show ∃ a ws, V.ref T = .ref a ∧ TupAt K (upd H' T (.tup [.int (i : Nat), v])) μ' a ws ∧ VRs K (upd H' T (.tup [.int (i : Nat), v])) μ' [.int (i : Nat), p0] ws from ⟨T, _, rfl, ?_, VRs.cons rfl (VRs.cons (VR.mono (gr_new hT) _ _ e2) VRs.nil)⟩)
    exact .inl ⟨upd_same, sr.free hT⟩
def enumM (xs : List PV) : M (List PV) := match xs with
  | [.lst ps] => M.ret (ps.mapIdx fun i p => .tup [.int (i : Nat), p])
  | [.frz ps] => M.ret (ps.mapIdx fun i p => .tup [.int (i : Nat), p])
  | _ => M.fail
theorem mi_enum {tpos : Pos} {elts : List Expr} {kk : Nat} (hg : Gl X "enumerate") (hm : X.mg "enumerate" = none) (ha : MA X W [e] ma) (hs : starEach [e] X.env = [(false, eval e X.env)] := by kernel_rfl) :
    MI X W (.Tuple elts kk tpos) (.Call (.Name "enumerate" p) [e] [] pos) (iCall enumM ma) :=
  PI.imp (pi_enum hg hm ha hs) fun σ H R ⟨μ, st, ρ, er, sr, h⟩ => ⟨μ, st, ρ, er, sr, (PostG.bind h).mono fun us H1 ⟨μ1, st1, xs, g1, s1, rxs, h1⟩ => by
    unfold enumM at h1
    split at h1
    · obtain ⟨u, rfl, ru⟩ := one_of rxs
      obtain ⟨a, vs, rfl, t, rs⟩ := lst_at ru
      exact ⟨a, vs, rfl, t.sq, h1 μ1 H1 _ (Gr.refl _ _) s1 (sup_enum (fun _ _ g => (t.grow g).sq) rs)⟩
    · obtain ⟨u, rfl, ru⟩ := one_of rxs
      obtain ⟨a, vs, rfl, t, rs⟩ := frz_at ru
      exact ⟨a, vs, rfl, t.sq, h1 μ1 H1 _ (Gr.refl _ _) s1 (sup_enum (fun _ _ g => (t.grow g).sq) rs)⟩
    · exact h1.elim⟩
end
def wipeP (ρ : Rho) : List Nat → Rho
  | [] => ρ
  | v :: vs => (wipeP ρ vs).set v none
theorem ER.wipe {K : PySem.W.Frag} {H : Hp} {μ : Mu} {ρ : Rho} {σ : St} (e : ER K H μ ρ σ) : ∀ vs : List Nat, ER K H μ (wipeP ρ vs) (L2.wipe σ vs)
  | [] => e
  | v :: vs => by
    unfold wipeP L2.wipe
    exact (ER.wipe e vs).unset v
theorem wipe_far {σ : St} {j : Nat} {o : Option V} : ∀ {vs : List Nat}, j ∉ vs → L2.wipe (σ.set j o) vs = (L2.wipe σ vs).set j o
  | [], _ => rfl
  | v :: vs, h => by
    have h1 : j ≠ v := fun z => h (by rw [z]; exact List.mem_cons_self)
    have h2 : j ∉ vs := fun z => h (List.mem_cons_of_mem _ z)
    unfold L2.wipe
    rw [wipe_far h2, List.set_comm _ _ h1]
theorem wipe_set {σ : St} {j : Nat} {o : Option V} : ∀ {vs : List Nat}, j ∈ vs → L2.wipe (σ.set j o) vs = L2.wipe σ vs
  | [], h => (nomatch h)
  | v :: vs, h => by
    unfold L2.wipe
    by_cases hj : j ∈ vs
    · rw [wipe_set hj]
    · have e : j = v := by
        rcases List.mem_cons.mp h with z | z
        · exact z
        · exact absurd z hj
      subst e
      rw [wipe_far hj, List.set_set]
theorem wipe_wipe {σ : St} {vs : List Nat} : ∀ {us : List Nat}, (∀ u ∈ us, u ∈ vs) → L2.wipe (L2.wipe σ us) vs = L2.wipe σ vs
  | [], _ => rfl
  | u :: us, h => by
    show L2.wipe ((L2.wipe σ us).set u none) vs = _
    rw [wipe_set (h u List.mem_cons_self), wipe_wipe fun w hw => h w (List.mem_cons_of_mem _ hw)]
def TGo (K : PySem.W.Frag) (vs : List Nat) (g0 : TG) (g : GM) : Prop := ∀ (v : V) (σ : St) (H : Hp) (Q : St → Hp → Prop) (μ : Mu) (st : Sto) (ρ : Rho) (p : PV), ER K H μ ρ σ → SR K μ st H → VR K H μ p v →
  PostG K (fun _ _ _ => False) (fun H μ ρ' σ' => ER K H μ ρ' σ' ∧ L2.wipe σ' vs = L2.wipe σ vs) Q μ H (g p ρ st) → g0 v σ H Q
theorem tgo_name {K : PySem.W.Frag} {vs : List Nat} {j : Nat} (h : j ∈ vs) : TGo K vs (gName j) (gN j) := fun v σ H Q μ st ρ p er sr rv q => q μ H _ (Gr.refl _ _) sr ⟨er.set rv j, wipe_set h⟩
def TGos (K : PySem.W.Frag) (vs : List Nat) (g0 : TGs) (g : GsM) : Prop := ∀ (us : List V) (σ : St) (H : Hp) (Q : St → Hp → Prop) (μ : Mu) (st : Sto) (ρ : Rho) (ps : List PV), ER K H μ ρ σ → SR K μ st H → VRs K H μ ps us →
  PostG K (fun _ _ _ => False) (fun H μ ρ' σ' => ER K H μ ρ' σ' ∧ L2.wipe σ' vs = L2.wipe σ vs) Q μ H (g ps ρ st) → g0 us σ H Q
theorem tgos_nil {K : PySem.W.Frag} {vs : List Nat} : TGos K vs gNil gsNil := fun us σ H Q μ st ρ ps er sr rv q => by
  cases ps with
  | nil => exact ⟨rv, q μ H σ (Gr.refl _ _) sr ⟨er, rfl⟩⟩
  | cons p ps => exact q.elim
theorem tgos_cons {K : PySem.W.Frag} {vs : List Nat} {g0 : TG} {g : GM} {r0 : TGs} {r : GsM} (h1 : TGo K vs g0 g) (h2 : TGos K vs r0 r) : TGos K vs (gCons g0 r0) (gsCons g r) := fun us σ H Q μ st ρ ps er sr rv q => by
  cases ps with
  | nil => exact q.elim
  | cons p ps =>
    obtain ⟨v, t, ev, rp, rt⟩ := (show ∃ v r, us = v :: r ∧ VR K H μ p v ∧ VRs K H μ ps r from rv)
    refine ⟨v, t, ev, h1 v σ H _ μ st ρ p er sr rp ?_⟩
    have z := PostG.bind (R' := fun H μ ρ' σ' => ER K H μ ρ' σ' ∧ L2.wipe σ' vs = L2.wipe σ vs) q
    exact (PostG.calm z).mono fun σ1 H1 ⟨μ1, st1, ρ1, g1, s1, ⟨e1, w1⟩, h3⟩ => h2 t σ1 H1 Q μ1 st1 ρ1 ps e1 s1 (VRs.mono g1 ps t rt) (by
      cases hr : r ps ρ1 st1 with
      | ok a st' =>
        have h3' := h3
        rw [hr] at h3'
        exact fun μ2 H2 σ2 g2 s2 ⟨e2, w2⟩ => h3' μ2 H2 σ2 g2 s2 ⟨e2, w2.trans w1⟩
      | err x st' => have h3' := h3; rw [hr] at h3'; exact h3'
      | bad => have h3' := h3; rw [hr] at h3'; exact h3'.elim)
theorem tgo_tup {K : PySem.W.Frag} {vs : List Nat} {n : Nat} {r0 : TGs} {r : GsM} (h : TGos K vs r0 r) : TGo K vs (gTup K n r0) (gT n r) := fun v σ H Q μ st ρ p er sr rv q => by
  cases p with
  | tup xs =>
    obtain ⟨a, ws, ev, ta, rs⟩ := tup_at rv
    have q' : PostG K (fun _ _ _ => False) (fun H μ ρ' σ' => ER K H μ ρ' σ' ∧ L2.wipe σ' vs = L2.wipe σ vs) Q μ H ((if xs.length = n then M.calm (r xs ρ) else M.fail) st) := q
    by_cases hx : xs.length = n
    · rw [if_pos hx] at q'
      exact ⟨a, ws, ev, ta.sq, by rw [← VRs.length rs]; exact hx, h ws σ H Q μ st ρ xs er sr rs (PostG.calm q')⟩
    · rw [if_neg hx] at q'
      exact q'.elim
  | _ => exact q.elim
def lcL (g : GM) (t : Rho → M Bool) (e : Rho → M PV) (ρ0 : Rho) : List PV → List PV → M (List PV)
  | [], acc => M.ret acc
  | p :: ps, acc => M.bind (M.calm (g p ρ0)) fun ρ1 => M.bind (M.calm (t ρ1)) fun c => if c = true then M.bind (M.calm (e ρ1)) fun y => if acc.length < SZ then lcL g t e ρ0 ps (acc ++ [y]) else M.fail else lcL g t e ρ0 ps acc
def Mu.bar (μ : Mu) (D : Addr) : Mu := ⟨μ.l, D :: μ.b⟩
theorem gv_bar {μ : Mu} {H : Hp} {D : Addr} {va : List V} (hb : D ∈ μ.b) : Gv μ H μ (upd H D (.lst va)) := ⟨⟨[], by simp⟩, fun a o e _ n => ⟨by rw [upd_ne (fun z => n (by rw [z]; exact .inr hb))]; exact e, n⟩⟩
theorem sr_bar {K : PySem.W.Frag} {μ : Mu} {st : Sto} {H : Hp} {D : Addr} {va : List V} (hb : D ∈ μ.b) (s : SR K μ st H) : SR K μ st (upd H D (.lst va)) := by
  have nD := (s.ban D hb).1
  refine ⟨s.len, s.nd, fun a m => ⟨(s.ban a m).1, ?_⟩, fun n c a e1 e2 => (s.cell n c a e1 e2).monov (gv_bar hb) (upd_ne (fun z => nD (by rw [← z]; exact List.mem_of_getElem? e2)))⟩
  by_cases ha : a = D
  · rw [ha]; exact ⟨_, upd_same⟩
  · rw [upd_ne ha]; exact (s.ban a m).2
theorem M.bind_assoc {α β γ : Type} (m : M α) (f : α → M β) (k : β → M γ) : M.bind (M.bind m f) k = M.bind m fun a => M.bind (f a) k := by
  funext st
  unfold M.bind
  cases m st <;> rfl
def Mu.unbar (μ : Mu) (D : Addr) : Mu := ⟨μ.l, μ.b.filter fun a => decide (a ≠ D)⟩
theorem unbar_b {μ : Mu} {D a : Addr} : a ∈ (μ.unbar D).b ↔ a ∈ μ.b ∧ a ≠ D := by
  show a ∈ μ.b.filter _ ↔ _
  rw [List.mem_filter]
  simp
theorem not_unbar {μ : Mu} {D a : Addr} (h : a ∉ μ) : a ∉ μ.unbar D := fun m => by
  rcases m with m | m
  · exact h (.inl m)
  · exact h (.inr (unbar_b.mp m).1)
theorem gv_unbar {μ : Mu} {H : Hp} {D : Addr} : Gv μ H (μ.unbar D) H := ⟨⟨[], by simp [Mu.unbar]⟩, fun a o e _ n => ⟨e, not_unbar n⟩⟩
theorem sr_unbar {K : PySem.W.Frag} {μ : Mu} {st : Sto} {H : Hp} {D : Addr} (s : SR K μ st H) : SR K (μ.unbar D) st H :=
  ⟨s.len, s.nd, fun a m => s.ban a (unbar_b.mp m).1, fun n c a e1 e2 => (s.cell n c a e1 e2).monov gv_unbar rfl⟩
theorem gr_unbar {K : PySem.W.Frag} {μ0 μ : Mu} {st0 : Sto} {H0 H : Hp} {D : Addr} (s0 : SR K μ0 st0 H0) (hD : H0 D = none) (g : Gr μ0 H0 μ H) : Gr μ0 H0 (μ.unbar D) H := by
  refine ⟨g.pre, fun a m => unbar_b.mpr ⟨g.ban a m, fun z => ?_⟩, fun a m => g.bnew a (unbar_b.mp m).1, g.new, g.keep⟩
  subst z
  obtain ⟨o, e⟩ := (s0.ban _ m).2
  rw [hD] at e; cases e
theorem gv_open {μ : Mu} {H : Hp} {D : Addr} (hb : D ∈ μ.b) : Gv μ H ((μ.unbar D).add D) H := ⟨⟨[D], rfl⟩, fun a o e _ n => ⟨e, fun m => by
  rcases m with m | m
  · rcases List.mem_append.mp m with m | m
    · exact n (.inl m)
    · rw [List.mem_singleton.mp m] at n; exact n (.inr hb)
  · exact n (.inr (unbar_b.mp m).1)⟩⟩
theorem sr_open {K : PySem.W.Frag} {μ : Mu} {st : Sto} {H : Hp} {D : Addr} {acc : List PV} {va : List V} (s : SR K μ st H) (hb : D ∈ μ.b) (hd : H D = some (.lst va)) (r : VRs K H μ acc va) : SR K ((μ.unbar D).add D) (st ++ [.lst acc]) H := by
  have nD := (s.ban D hb).1
  refine ⟨by simp [Mu.add, Mu.unbar, s.len], ?_, fun a m => ?_, fun n d a e1 e2 => ?_⟩
  · refine List.nodup_append.mpr ⟨s.nd, by simp, fun a ha b hb => ?_⟩
    rw [List.mem_singleton.mp hb]
    rintro rfl
    exact nD ha
  · obtain ⟨m1, m2⟩ := unbar_b.mp m
    refine ⟨fun z => ?_, (s.ban a m1).2⟩
    rcases List.mem_append.mp z with z | z
    · exact (s.ban a m1).1 z
    · exact m2 (List.mem_singleton.mp z)
  · have e2 : (μ.l ++ [D])[n]? = some a := e2
    by_cases hn : n < st.length
    · rw [List.getElem?_append_left hn] at e1
      rw [List.getElem?_append_left (by rw [s.len]; exact hn)] at e2
      exact (s.cell n d a e1 e2).monov (gv_open hb) rfl
    · rw [List.getElem?_append_right (by omega)] at e1
      rw [List.getElem?_append_right (by rw [s.len]; omega), s.len] at e2
      have e0 : n - st.length = 0 := by
        have := (List.getElem?_eq_some_iff.mp e1).1
        simp at this
        omega
      rw [e0] at e1 e2
      simp at e1 e2
      subst e1 e2
      exact ⟨va, hd, VRs.monov (gv_open hb) _ _ r⟩
theorem gr_open {K : PySem.W.Frag} {μ0 μ : Mu} {st0 : Sto} {H0 H : Hp} {D : Addr} (s0 : SR K μ0 st0 H0) (hD : H0 D = none) (g : Gr μ0 H0 μ H) : Gr μ0 H0 ((μ.unbar D).add D) H := by
  have u := gr_unbar s0 hD g
  obtain ⟨t, e⟩ := g.pre
  refine ⟨⟨t ++ [D], by show μ.l ++ [D] = _; rw [e, List.append_assoc]⟩, u.ban, u.bnew, fun a m => ?_, g.keep⟩
  rcases List.mem_append.mp m with m | m
  · exact g.new a m
  · rw [List.mem_singleton.mp m]; exact .inr hD
def lcV (acc : List PV) : M PV := M.ret (.lst acc)
def lcN (acc : List PV) : M PV := fun st => .ok (.loc st.length) (st ++ [.lst acc])
def LcEnd (K : PySem.W.Frag) (k : List PV → M PV) : Prop := ∀ (μ0 μ : Mu) (st0 st : Sto) (H0 H : Hp) (D : Addr) (acc : List PV) (va : List V) (E : XK) (Q : VK), SR K μ0 st0 H0 → H0 D = none → Gr μ0 H0 μ H → SR K μ st H → D ∈ μ.b → H D = some (.lst va) → VRs K H μ acc va →
  PostG K E (VR K) Q μ0 H0 (k acc st) → Q (.ref D) H
theorem lcV_end {K : PySem.W.Frag} : LcEnd K lcV := fun μ0 μ st0 st H0 H D acc va E Q s0 hD g s hb hd r h =>
  h _ H _ (gr_unbar s0 hD g) (sr_unbar s) (show ∃ a vs, V.ref D = .ref a ∧ LstAt H (μ.unbar D) a vs ∧ VRs K H (μ.unbar D) acc vs from ⟨D, va, rfl, ⟨hd, fun m => by
    rcases m with m | m
    · exact (s.ban D hb).1 m
    · exact (unbar_b.mp m).2 rfl⟩, VRs.monov gv_unbar _ _ r⟩)
theorem lcN_end {K : PySem.W.Frag} : LcEnd K lcN := fun μ0 μ st0 st H0 H D acc va E Q s0 hD g s hb hd r h =>
  h _ H _ (gr_open s0 hD g) (sr_open s hb hd r) (show ∃ a, V.ref D = .ref a ∧ ((μ.unbar D).add D).l[st.length]? = some a from ⟨D, rfl, by
    show (μ.l ++ [D])[st.length]? = some D
    rw [← s.len]; simp⟩)
abbrev W0 : WX := fun _ _ _ _ => False
theorem lc_imp {K : PySem.W.Frag} {E : XK} {Q : VK} {J : It} {ps : List PV} {g0 : TG} {g : GM} {t : Rho → M Bool} {e : Rho → M PV} {k : List PV → M PV} {vs : List Nat} {μ : Mu} {H : Hp} {σ : St} {ρ : Rho} {st : Sto} {D : Addr} (su : Sup K J ps μ H) (er : ER K H μ ρ σ) (sr : SR K μ st H) (tg : TGo K vs g0 g) (le : LcEnd K k)
    (hD : H D = none) (h : PostG K E (VR K) Q μ H (M.bind (lcL g t e (wipeP ρ vs) ps []) k st)) :
    ∃ V : Nat → Nat → Hp → Prop, (∃ m, V 0 m (upd H D (.lst []))) ∧ ∀ i m H, V i m H →
      (J.stop i H ∧ Q (.ref D) H) ∨ (J.go i H ∧ ∃ Nx : Hp → Prop, (∀ H', Nx H' → ∃ m', m' < m ∧ V (i + 1) m' H') ∧ ∀ x H', J.yld i H x H' → g0 x (L2.wipe σ vs) H' fun σ2 H2 => L2.wipe σ2 vs = L2.wipe σ vs ∧ tMT K W0 t σ2 H2 fun b H3 =>
        if b = true then tM K W0 e σ2 H3 fun y H4 => ∃ acc, H4 D = some (.lst acc) ∧ acc.length < sizeLine ∧ Nx (upd H4 D (.lst (acc ++ [y]))) else Nx H3) := by
  let P : Nat → Hp → Prop := fun i H' => ∃ μ' st' acc va, Gr μ H μ' H' ∧ SR K μ' st' H' ∧ D ∈ μ'.b ∧ H' D = some (.lst va) ∧ VRs K H' μ' acc va ∧ PostG K E (VR K) Q μ H (M.bind (lcL g t e (wipeP ρ vs) (ps.drop i) acc) k st')
  refine ⟨fun i m H' => m = ps.length - i ∧ i ≤ ps.length ∧ P i H', ⟨ps.length, by simp, Nat.zero_le _, ?_⟩, ?_⟩
  · have gb : Gr μ H (μ.bar D) (upd H D (.lst [])) := ⟨⟨[], by simp [Mu.bar]⟩, fun a m => List.mem_cons_of_mem _ m, fun a m => by
      rcases List.mem_cons.mp m with z | z
      · rw [z]; exact .inr hD
      · exact .inl z, fun a m => .inl m, fun a o q _ => by rw [upd_ne (ne_of_none q hD)]; exact q⟩
    refine ⟨μ.bar D, st, [], [], gb, ?_, List.mem_cons_self, upd_same, rfl, by rw [List.drop_zero]; exact h⟩
    refine ⟨sr.len, sr.nd, fun a m => ?_, fun n c a e1 e2 => (sr.cell n c a e1 e2).mono gb (upd_ne fun z => ?_)⟩
    · rcases List.mem_cons.mp m with z | z
      · subst z
        exact ⟨fun q => sr.free hD (.inl q), _, upd_same⟩
      · obtain ⟨n1, o, q⟩ := sr.ban a z
        exact ⟨n1, o, by rw [upd_ne (ne_of_none q hD)]; exact q⟩
    · obtain ⟨u, q⟩ := (sr.cell n c a e1 e2).has
      rw [z, hD] at q; cases q
  · rintro i m H1 ⟨rfl, hi, μ1, st1, acc, va, g1, s1, b1, d1, r1, h1⟩
    by_cases hlt : i < ps.length
    · have hp : ps[i]? = some ps[i] := by simp [hlt]
      obtain ⟨go, yl⟩ := (su μ1 H1 st1 g1 s1).1 i ps[i] hp
      refine .inr ⟨go, P (i + 1), fun H' q => ⟨ps.length - (i + 1), by omega, rfl, hlt, q⟩, fun x H2 y => ?_⟩
      obtain ⟨g2, s2, rx⟩ := yl x H2 y
      have gg2 := g1.trans g2 fun a m => (s2.ban a m).1
      rw [List.drop_eq_getElem_cons hlt] at h1
      unfold lcL at h1
      rw [M.bind_assoc] at h1
      refine tg x _ H2 _ μ1 st1 _ ps[i] ((er.mono gg2).wipe vs) s2 rx ((PostG.calm (PostG.bindAt h1 gg2)).mono fun σ3 H3 ⟨μ3, st3, ρ3, g3, s3, ⟨e3, w3⟩, h3⟩ => ⟨w3.trans (wipe_wipe fun _ z => z), ?_⟩)
      have gg3 := gg2.trans g3 fun a m => (s3.ban a m).1
      rw [M.bind_assoc] at h3
      refine ⟨μ3, st3, ρ3, e3, s3, (PostG.calm (PostG.bindAt h3 gg3)).mono fun c H4 ⟨μ4, st4, c', g4, s4, ec, h4⟩ => ?_⟩
      subst ec
      have gg4 := gg3.trans g4 fun a m => (s4.ban a m).1
      have keepD : ∀ {μa μb : Mu} {Ha Hb : Hp} {sa : Sto} {w : List V}, Gr μa Ha μb Hb → SR K μa sa Ha → D ∈ μa.b → Ha D = some (.lst w) → Hb D = some (.lst w) := fun g s m q => g.keep D _ q (s.ban D m).1
      have d2 := keepD g2 s1 b1 d1
      have b2 := g2.ban D b1
      have d3 := keepD g3 s2 b2 d2
      have b3 := g3.ban D b2
      have d4 := keepD g4 s3 b3 d3
      have b4 := g4.ban D b3
      have r4 : VRs K H4 μ4 acc va := VRs.mono g4 _ _ (VRs.mono g3 _ _ (VRs.mono g2 _ _ r1))
      cases c' with
      | false =>
        rw [if_neg Bool.false_ne_true] at h4 ⊢
        exact ⟨μ4, st4, acc, va, gg4, s4, b4, d4, r4, h4⟩
      | true =>
        rw [if_pos rfl] at h4 ⊢
        rw [M.bind_assoc] at h4
        refine ⟨μ4, st4, ρ3, e3.mono g4, s4, (PostG.calm (PostG.bindAt h4 gg4)).mono fun w H5 ⟨μ5, st5, py, g5, s5, rw5, h5⟩ => ?_⟩
        have gg5 := gg4.trans g5 fun a m => (s5.ban a m).1
        have d5 := keepD g5 s4 b4 d4
        have b5 := g5.ban D b4
        have r5 : VRs K H5 μ5 acc va := VRs.mono g5 _ _ r4
        by_cases hz : acc.length < SZ
        · rw [if_pos hz] at h5
          refine ⟨va, d5, by rw [← VRs.length r5, sz_eq]; exact hz, μ5, st5, acc ++ [py], va ++ [w], ?_, sr_bar b5 s5, b5, upd_same, VRs.monov (gv_bar b5) _ _ (VRs.append r5 (VRs.cons rw5 VRs.nil)), h5⟩
          exact ⟨gg5.pre, gg5.ban, gg5.bnew, gg5.new, fun a o q n => by rw [upd_ne (ne_of_none q hD)]; exact gg5.keep a o q n⟩
        · rw [if_neg hz] at h5
          exact h5.elim
    · have ei : i = ps.length := by omega
      subst ei
      rw [List.drop_length] at h1
      exact .inl ⟨(su μ1 H1 st1 g1 s1).2, le μ μ1 st st1 H H1 D acc va E Q sr hD g1 s1 b1 d1 r1 h1⟩
def eLc (k : List PV → M PV) (mi : Rho → M (List PV)) (g : GM) (t : Rho → M Bool) (e : Rho → M PV) (vs : List Nat) : Rho → M PV := fun ρ => M.bind (mi ρ) fun ps => M.bind (lcL g t e (wipeP ρ vs) ps []) k
def tYesM : Rho → M Bool := fun _ => M.ret true
def MTs (X : Cx) (W : WX) (ifs : List Expr) (m : Rho → M Bool) : Prop := PTs X ifs (tMT X.K W m)
section
variable {X : Cx} {W : WX}
theorem PTs.imp {ifs : List Expr} {t t' : TT} (h : PTs X ifs t) (i : ∀ σ H Q, t' σ H Q → t σ H Q) : PTs X ifs t' := ⟨fun pins s σ H Q I q => h.run pins s σ H Q I (i σ H Q q)⟩
theorem mts_nil : MTs X W [] tYesM := PTs.imp pts_nil fun σ H Q ⟨μ, st, ρ, er, sr, h⟩ => h μ H true (Gr.refl _ _) sr rfl
theorem mts_one {c : Expr} {m : Rho → M Bool} (h : MT X W c m) : MTs X W [c] m := pts_one h
theorem lc_tie {mi : Rho → M (List PV)} {g0 : TG} {g : GM} {t : Rho → M Bool} {e : Rho → M PV} {k : List PV → M PV} {vs : List Nat} (tg : TGo X.K vs g0 g) (le : LcEnd X.K k) : ∀ σ H Q, tM X.K W (eLc k mi g t e vs) σ H Q → tLc (tMI X.K W mi) g0 (tMT X.K W0 t) (tM X.K W0 e) vs σ H Q :=
  fun σ H Q ⟨μ, st, ρ, er, sr, h⟩ => ⟨μ, st, ρ, er, sr, (PostG.bind h).mono fun J H1 ⟨μ1, st1, ps, g1, s1, su, h1⟩ D hD => lc_imp su (er.mono g1) s1 tg le hD h1⟩
theorem me_lc {elt tgt iter : Expr} {ifs : List Expr} {scope : Scope} {own : List (Str × Nat)} {pos : Pos} {mi : Rho → M (List PV)} {g0 : TG} {g : GM} {t : Rho → M Bool} {e : Rho → M PV} {k : List PV → M PV} (hc : X.calm = true) (hN : X.N.Nodup) (hi : MI X W tgt iter mi) (ok : BlkOk X.N X.env.scope scope own) (tg : TGo X.K (own.map (·.2)) g0 g) (le : LcEnd X.K k)
    (hg : ∀ (s : Shared) (H : Hp) (C : Addr) (cl : List (Str × Addr)) (fp : List Addr), PG (X.blk s H scope (compEnvC scope cl C X.env) fp) tgt g0)
    (ht : ∀ (s : Shared) (H : Hp) (C : Addr) (cl : List (Str × Addr)) (fp : List Addr), MTs (X.blk s H scope (compEnvC scope cl C X.env) fp) W0 ifs t)
    (he : ∀ (s : Shared) (H : Hp) (C : Addr) (cl : List (Str × Addr)) (fp : List Addr), ME (X.blk s H scope (compEnvC scope cl C X.env) fp) W0 elt e) (hs : ∀ x, foldedSetIterable iter X.env x = pure x := by intro _; kernel_rfl) :
    ME X W (.ListComp elt [⟨tgt, iter, ifs, 0⟩] scope pos) (eLc k mi g t e (own.map (·.2))) := PE.imp (pe_lc (tt := tMT X.K W0 t) (te := tM X.K W0 e) hc hN hi ok hg ht he hs) (lc_tie tg le)
theorem ms_setLc {i : Nat} {y : Str} {py spos : Pos} {elt tgt iter : Expr} {ifs : List Expr} {scope : Scope} {own : List (Str × Nat)} {pos : Pos} {mi : Rho → M (List PV)} {g0 : TG} {g : GM} {t : Rho → M Bool} {e : Rho → M PV} {k : List PV → M PV} (hc : X.calm = true) (hN : X.N.Nodup) (hy : X.N[i]? = some y) (hyl : X.env.scope.names.lookup y = some .local)
    (hsw : swapsWith (.ListComp elt [⟨tgt, iter, ifs, 0⟩] scope pos) (some (.Name y py)) spos.line X.env = pure true) (hi : MI X W tgt iter mi) (ok : BlkOk X.N X.env.scope scope own) (tg : TGo X.K (own.map (·.2)) g0 g) (le : LcEnd X.K k)
    (hg : ∀ (s : Shared) (H : Hp) (C : Addr) (cl : List (Str × Addr)) (fp : List Addr), PG (X.blk s H scope (compEnvC scope cl C X.env) fp) tgt g0)
    (ht : ∀ (s : Shared) (H : Hp) (C : Addr) (cl : List (Str × Addr)) (fp : List Addr), MTs (X.blk s H scope (compEnvC scope cl C X.env) fp) W0 ifs t)
    (he : ∀ (s : Shared) (H : Hp) (C : Addr) (cl : List (Str × Addr)) (fp : List Addr), ME (X.blk s H scope (compEnvC scope cl C X.env) fp) W0 elt e) (hs : ∀ x, foldedSetIterable iter X.env x = pure x := by intro _; kernel_rfl) :
    MS X W (.Assign [.Name y py] (.ListComp elt [⟨tgt, iter, ifs, 0⟩] scope pos) spos) (sSet i (eLc k mi g t e (own.map (·.2)))) := PS.imp (ps_setLc (tt := tMT X.K W0 t) (te := tM X.K W0 e) hc hN hy hyl hsw hi ok hg ht he hs) fun D σ H ⟨μ, st, ρ, er, sr, h⟩ =>
      lc_tie tg le σ H _ ⟨μ, st, ρ, er, sr, (PostS.onErr h er).mono fun u H1 ⟨μ1, st1, x, g1, s1, rx, h1⟩ => h1 μ1 H1 _ (Gr.refl _ _) s1 ((er.mono g1).set rx i)⟩
end
end MP

set_option maxRecDepth 100000
set_option maxHeartbeats 1000000
namespace MP
open PySem L2
section
variable {X : Cx} {W : WX} {e : Expr} {pos : Pos} {me : Rho → M PV}
theorem ms_s {i : Nat} {x : Str} {pos' : Pos} (hN : X.N.Nodup) (he : ME X W e me) (hi : X.N[i]? = some x := by kernel_rfl) (hx : Loc X.env.scope x := by first | exact Or.inl rfl | exact Or.inr rfl) (hs : swapsWith e (some (.Name x pos')) pos.line X.env = pure false := by kernel_rfl)
    (hf : X.fn x = true ∨ X.env.scope.names.lookup x = some .local := by first | exact .inl rfl | exact .inr rfl) : MS X W (.Assign [.Name x pos'] e pos) (sSet i me) := ms_set hN hi hx he hs hf
theorem mg_n {i : Nat} {x : Str} (hN : X.N.Nodup) (hi : X.N[i]? = some x := by kernel_rfl) (hx : Loc X.env.scope x := by first | exact Or.inl rfl | exact Or.inr rfl) (hf : X.fn x = true ∨ X.env.scope.names.lookup x = some .local := by first | exact .inl rfl | exact .inr rfl) : MG X W (.Name x pos) (gN i) := mg_name hN hi hx hf
theorem pg_n {i : Nat} {x : Str} (hN : X.N.Nodup) (hi : X.N[i]? = some x := by kernel_rfl) (hx : Loc X.env.scope x := by first | exact Or.inl rfl | exact Or.inr rfl) (hf : X.fn x = true ∨ X.env.scope.names.lookup x = some .local := by first | exact .inl rfl | exact .inr rfl) : PG X (.Name x pos) (gName i) := pg_name hN hi hx hf
def truM (x : PV) : M Bool := fun st => match x with
  | .non => .ok false st
  | .bl b => .ok b st
  | .int i => .ok (i != 0) st
  | .str z => if z.length ≤ SZ then .ok (!z.isEmpty) st else .bad
  | x => match seqOf x st with
    | some xs => .ok (!xs.isEmpty) st
    | none => match dctOf x st with
      | some kvs => .ok (!kvs.isEmpty) st
      | none => .bad
end
def tyC (T : String) (x : PV) : M Unit := fun st => match x with
  | .str _ => if T = "str" then .ok () st else .bad
  | x => match listOf x st with
    | some _ => if T = "list" then .ok () st else .bad
    | none => match dctOf x st with
      | some _ => if T = "dict" then .ok () st else .bad
      | none => .bad
theorem tyC_at {K : PySem.W.Frag} {H : Hp} {μ : Mu} {st st' : Sto} {T : String} {x : PV} {v : V} (sr : SR K μ st H) (r : VR K H μ x v) (h : tyC T x st = .ok () st') : tyV K T v H ∧ st' = st := by
  have l : ∀ xs, listOf x st = some xs → (if T = "list" then (Res.ok () st) else Res.bad) = .ok () st' → tyV K T v H ∧ st' = st := by
    intro xs hl h
    obtain ⟨a, vs, rfl, h1, _⟩ := listOf_at sr r hl
    by_cases hT : T = "list"
    · rw [if_pos hT] at h
      cases h
      exact ⟨.inl ⟨hT, vs, SqL.of h1⟩, rfl⟩
    · rw [if_neg hT] at h
      cases h
  have d : ∀ kvs, dctOf x st = some kvs → (if T = "dict" then (Res.ok () st) else Res.bad) = .ok () st' → tyV K T v H ∧ st' = st := by
    intro kvs hl h
    obtain ⟨n, a, kv, _, rfl, _, _, h1, _⟩ := dctOf_at sr r hl
    by_cases hT : T = "dict"
    · rw [if_pos hT] at h
      cases h
      exact ⟨.inr (.inr (.inl ⟨hT, .inl ⟨kv, h1⟩⟩)), rfl⟩
    · rw [if_neg hT] at h
      cases h
  have dflt : (match listOf x st with
    | some _ => if T = "list" then Res.ok () st else Res.bad
    | none => match dctOf x st with
      | some _ => if T = "dict" then Res.ok () st else Res.bad
      | none => Res.bad) = .ok () st' → tyV K T v H ∧ st' = st := by
    intro h
    cases q : listOf x st with
    | some xs => rw [q] at h; exact l xs q h
    | none =>
      rw [q] at h
      dsimp only at h
      cases q2 : dctOf x st with
      | some kvs => rw [q2] at h; exact d kvs q2 h
      | none => rw [q2] at h; cases h
  cases x with
  | str z =>
    cases (show v = V.str ⟨z.toArray⟩ from r)
    unfold tyC at h
    dsimp only at h
    by_cases hT : T = "str"
    · rw [if_pos hT] at h
      cases h
      exact ⟨hT, rfl⟩
    · rw [if_neg hT] at h
      cases h
  | _ => exact dflt h
def eMeth (T : String) (f : PV → List PV → M PV) (mo : Rho → M PV) (ma : Rho → M (List PV)) : Rho → M PV := fun ρ => M.bind (mo ρ) fun o => M.bind (tyC T o) fun _ => M.bind (ma ρ) fun xs => f o xs
def TMe (K : PySem.W.Frag) (r : V → List V → Hp → VK → Prop) (f : PV → List PV → M PV) : Prop := ∀ (μ : Mu) (st : Sto) (H : Hp) (o : PV) (xs : List PV) (u : V) (us : List V) (E : XK) (Q : VK), SR K μ st H → VR K H μ o u → VRs K H μ xs us → PostG K E (VR K) Q μ H (f o xs st) → r u us H Q
section
variable {X : Cx} {W : WX} {o e : Expr} {es : List Expr} {name : Str} {apos cpos : Pos} {T id : String} {r : V → List V → Hp → VK → Prop} {f : PV → List PV → M PV} {mo : Rho → M PV} {ma : Rho → M (List PV)}
theorem meth_ty {μ : Mu} {st : Sto} {H : Hp} {x : PV} {v : V} {α β : Type} {E : XK} {R : Hp → Mu → α → β → Prop} {Q : β → Hp → Prop} {k : Unit → M α} (sr : SR X.K μ st H) (rx : VR X.K H μ x v) (h : PostG X.K E R Q μ H (M.bind (tyC T x) k st)) : tyV X.K T v H ∧ PostG X.K E R Q μ H (k () st) := by
  unfold M.bind at h
  cases q : tyC T x st with
  | ok a st' =>
    rw [q] at h
    obtain ⟨h1, rfl⟩ := tyC_at sr rx q
    exact ⟨h1, h⟩
  | err y st' =>
    exfalso
    unfold tyC at q
    repeat (first | split at q | cases q)
  | bad => rw [q] at h; exact h.elim
theorem me_meth (pa : PySem.PlainAttrs T) (slot : PySem.Slot T name id) (hty : typeOf (.builtin id) = pure (.type "method_descriptor")) (hm : MtR X id r) (t : TMe X.K r f) (ho : ME X W o mo) (ha : MA X W (e :: es) ma)
    (hbase : attributeBase o name X.env (eval o X.env) = eval o X.env := by kernel_rfl)
    (hfew : ((backTo cpos (starEach (e :: es) X.env)).all (fun x => !x.1) && (backToKw cpos (keywordEach [] X.env)).all (fun x => x.1.isSome)
      && decide ((e :: es).length + ([] : List Keyword).length + (if ([] : List Keyword).isEmpty then 0 else 1) < 30)) = true := by kernel_rfl)
    (hline : (apos.endLine == cpos.line) = true := by kernel_rfl) (hs : starEach (e :: es) X.env = (false, eval e X.env) :: starEach es X.env := by kernel_rfl) (hplain : (backTo cpos (starEach es X.env)).any (·.1) = false := by kernel_rfl) :
    ME X W (.Call (.Attribute o name apos) (e :: es) [] cpos) (eMeth T f mo ma) :=
  PE.imp (pe_bm pa slot hty hm ho ha hbase hfew hline hs hplain) fun σ H Q ⟨μ, st, ρ, er, sr, h⟩ => ⟨μ, st, ρ, er, sr, (PostG.bind h).mono fun u H1 ⟨μ1, st1, x, g1, s1, rx, h1⟩ => by
    obtain ⟨h2, h3⟩ := meth_ty s1 rx h1
    exact ⟨h2, μ1, st1, ρ, er.mono g1, s1, (PostG.bind h3).mono fun us H2 ⟨μ2, st2, xs, g2, s2, rxs, h4⟩ => t μ2 st2 H2 x xs u us _ Q s2 (VR.mono g2 x u rx) rxs h4⟩⟩
theorem me_meth0 (pa : PySem.PlainAttrs T) (slot : PySem.Slot T name id) (hty : typeOf (.builtin id) = pure (.type "method_descriptor")) (hm : MtR X id r) (t : TMe X.K r f) (ho : ME X W o mo)
    (hbase : attributeBase o name X.env (eval o X.env) = eval o X.env := by kernel_rfl) (hline : (apos.endLine == cpos.line) = true := by kernel_rfl) : ME X W (.Call (.Attribute o name apos) [] [] cpos) (eMeth T f mo aNil) :=
  PE.imp (pe_bm0 pa slot hty hm ho hbase hline) fun σ H Q ⟨μ, st, ρ, er, sr, h⟩ => ⟨μ, st, ρ, er, sr, (PostG.bind h).mono fun u H1 ⟨μ1, st1, x, g1, s1, rx, h1⟩ => by
    obtain ⟨h2, h3⟩ := meth_ty s1 rx h1
    exact ⟨h2, t μ1 st1 H1 x [] u [] _ Q s1 rx rfl h3⟩⟩
end
def lstCell (o : PV) (st : Sto) : Option (Nat × List PV) := match o with
  | .loc n => match st[n]? with
    | some (.lst xs) => some (n, xs)
    | _ => none
  | _ => none
theorem lstCell_at {K : PySem.W.Frag} {H : Hp} {μ : Mu} {st : Sto} {x : PV} {v : V} {n : Nat} {xs : List PV} (sr : SR K μ st H) (r : VR K H μ x v) (h : lstCell x st = some (n, xs)) : ∃ a vs, v = .ref a ∧ μ.l[n]? = some a ∧ H a = some (.lst vs) ∧ VRs K H μ xs vs := by
  cases x with
  | loc m =>
    obtain ⟨a, rfl, ha⟩ := loc_at r
    unfold lstCell at h
    dsimp only at h
    cases q : st[m]? with
    | none => rw [q] at h; cases h
    | some c =>
      rw [q] at h
      cases c with
      | lst ys =>
        cases h
        obtain ⟨vs, h1, h2⟩ := sr.cell n _ a q ha
        exact ⟨a, vs, rfl, ha, h1, h2⟩
      | dct kvs => cases h
      | ins C fs => cases h
  | _ => cases h
def appendM (o : PV) (xs : List PV) : M PV := fun st => match lstCell o st with
  | some (n, ys) => match xs with
    | [x] => if ys.length < SZ then .ok .non (st.set n (.lst (ys ++ [x]))) else .bad
    | _ => .bad
  | none => .bad
theorem t_append {K : PySem.W.Frag} : TMe K rAppend appendM := by
  intro μ st H o xs u us E Q sr ro rs h
  unfold appendM at h
  cases q : lstCell o st with
  | none => rw [q] at h; exact h.elim
  | some p =>
    obtain ⟨n, ys⟩ := p
    rw [q] at h
    dsimp only at h
    cases xs with
    | nil => exact h.elim
    | cons x t =>
      cases t with
      | cons y t => exact h.elim
      | nil =>
        dsimp only at h
        by_cases hz : ys.length < SZ
        · rw [if_pos hz] at h
          obtain ⟨a, vs, rfl, ha, h1, h2⟩ := lstCell_at sr ro q
          obtain ⟨w, rfl, rw'⟩ := one_of rs
          refine ⟨a, vs, w, rfl, rfl, h1, by rw [← VRs.length h2, sz_eq]; exact hz, ?_⟩
          exact h μ _ .non (gr_put ha) (sr.put ha ⟨_, upd_same, VRs.mono (gr_put ha) _ _ (VRs.append h2 (VRs.cons rw' VRs.nil))⟩) rfl
        · rw [if_neg hz] at h
          exact h.elim
def popM (o : PV) (xs : List PV) : M PV := fun st => match lstCell o st with
  | some (n, ys) => match xs with
    | [] => match ys[ys.length - 1]? with
      | some y => .ok y (st.set n (.lst ys.dropLast))
      | none => .bad
    | _ => .bad
  | none => .bad
theorem VRs.dropLast {K : PySem.W.Frag} {H : Hp} {μ : Mu} {ps : List PV} {vs : List V} (r : VRs K H μ ps vs) : VRs K H μ ps.dropLast vs.dropLast := by
  rw [List.dropLast_eq_take, List.dropLast_eq_take, VRs.length r]
  exact VRs.take _ r
theorem t_pop {K : PySem.W.Frag} : TMe K rPop popM := by
  intro μ st H o xs u us E Q sr ro rs h
  unfold popM at h
  cases q : lstCell o st with
  | none => rw [q] at h; exact h.elim
  | some p =>
    obtain ⟨n, ys⟩ := p
    rw [q] at h
    dsimp only at h
    cases xs with
    | cons x t => exact h.elim
    | nil =>
      dsimp only at h
      cases qy : ys[ys.length - 1]? with
      | none => rw [qy] at h; exact h.elim
      | some y =>
        rw [qy] at h
        obtain ⟨a, vs, rfl, ha, h1, h2⟩ := lstCell_at sr ro q
        obtain ⟨w, e, rw'⟩ := VRs.get h2 qy
        refine ⟨a, vs, w, rfl, rs, h1, by rw [← VRs.length h2]; exact e, ?_⟩
        exact h μ _ w (gr_put ha) (sr.put ha ⟨_, upd_same, VRs.mono (gr_put ha) _ _ (VRs.dropLast h2)⟩) (VR.mono (gr_put ha) _ _ rw')
section
variable {X : Cx} {W : WX} {o e : Expr} {apos cpos : Pos} {mo : Rho → M PV} {ma : Rho → M (List PV)}
theorem me_append (ho : ME X W o mo) (ha : MA X W [e] ma)
    (hbase : attributeBase o "append" X.env (eval o X.env) = eval o X.env := by kernel_rfl)
    (hfew : ((backTo cpos (starEach [e] X.env)).all (fun x => !x.1) && (backToKw cpos (keywordEach [] X.env)).all (fun x => x.1.isSome)
      && decide ([e].length + ([] : List Keyword).length + (if ([] : List Keyword).isEmpty then 0 else 1) < 30)) = true := by kernel_rfl)
    (hline : (apos.endLine == cpos.line) = true := by kernel_rfl) (hs : starEach [e] X.env = (false, eval e X.env) :: starEach [] X.env := by kernel_rfl) :
    ME X W (.Call (.Attribute o "append" apos) [e] [] cpos) (eMeth "list" appendM mo ma) :=
  me_meth PySem.F.plainAttrs_list PySem.F.slot_list_append PySem.F.type_list_append mt_append t_append ho ha hbase hfew hline hs rfl
theorem me_pop (ho : ME X W o mo) (hbase : attributeBase o "pop" X.env (eval o X.env) = eval o X.env := by kernel_rfl) (hline : (apos.endLine == cpos.line) = true := by kernel_rfl) :
    ME X W (.Call (.Attribute o "pop" apos) [] [] cpos) (eMeth "list" popM mo aNil) :=
  me_meth0 PySem.F.plainAttrs_list PySem.F.slot_list_pop PySem.F.type_list_pop mt_pop t_pop ho hbase hline
end
theorem FnOk.ex {P : Program} {w : World} {K : PySem.W.Frag} {mg : Str → Option Value} {base : Heap} {CX : CXT} {k : Nat} {f : Addr} {fd : FuncData} {ps : List Str} {sp : Nat → Sp} (F : ∀ n, FnOk P w K mg base CX k f fd ps (sp n)) : FnOk P w K mg base CX k f fd ps (fun vs H Q E => ∃ n, sp n vs H Q E) :=
  ⟨fun vs H Q E ⟨n, h⟩ => (F n).len vs H Q E h, fun A outer s H args us vs Q E hr he hb hv ⟨n, h⟩ => (F n).run A outer s H args us vs Q E hr he hb hv h⟩
theorem law_sp {K : PySem.W.Frag} {m : Nat → List PV → M PV} {ns : List Int} {n : Nat} {st : Sto} {H : Hp} {a : Addr} (hS : SqL K H a (ns.map V.int)) (h : m n [.frz (ns.map .int)] [] = .ok (.bl true) st) :
    ∃ n, spM K (m n) 1 [.ref a] H (fun v _ => v = .bl true) (fun _ _ _ => False) := by
  refine ⟨n, ⟨[], []⟩, [], [.frz (ns.map .int)], ⟨rfl, List.nodup_nil, fun a m => (nomatch m), fun n c a e => by simp at e⟩, VRs.cons ?_ VRs.nil, rfl, ?_⟩
  · refine (show ∃ b vs, V.ref a = .ref b ∧ FrzAt K H ⟨[], []⟩ b vs ∧ VRs K H ⟨[], []⟩ (ns.map .int) vs from ⟨a, _, rfl, ?_, VRs.ints⟩)
    rcases hS with hS | hS
    · exact .inl ⟨hS, fun m => by rcases m with m | m <;> exact (nomatch m)⟩
    · exact .inr hS
  · rw [h]
    exact fun μ' H' b g s r => r
theorem cx_false {P : Program} {w : World} (H : Hp) (s : Shared) (e : Value) (s' : Shared) (h : L2.CX P w [] H s (fun _ _ _ => False) e s') : False := by
  obtain ⟨_, _, _, _, _, _, _, _, _, _, _, _, z⟩ := h
  exact z.elim
end MP

set_option maxRecDepth 100000
set_option maxHeartbeats 1000000
namespace MP
open PySem L2
section
variable {X : Cx} {W : WX} {e a b c : Expr} {pos : Pos} {me : Rho → M PV}
theorem me_globI' {x : Str} {i : Int} (hg : Gl X x) (hm : ∃ t, X.mg x = some (.int i t)) (hd : (x == ("__debug__" : Str)) = false := by kernel_rfl) : ME X W (.Name x pos) (eC (.int i)) := let ⟨_, h⟩ := hm; me_globI hg h hd
theorem me_globS' {x : Str} {l : List Nat} (hg : Gl X x) (hm : ∃ t, X.mg x = some (.str ⟨l.toArray⟩ t)) (hd : (x == ("__debug__" : Str)) = false := by kernel_rfl) : ME X W (.Name x pos) (eC (.str l)) := let ⟨_, h⟩ := hm; me_globS hg h hd
def KV1 (K : PySem.W.Frag) (p : PV) (u : Value) : Prop := ∃ v, RelV v u ∧ ∀ H μ, VR K H μ p v
def KVs (K : PySem.W.Frag) : List PV → List Value → Prop
  | [], us => us = []
  | p :: ps, us => ∃ u t, us = u :: t ∧ KV1 K p u ∧ KVs K ps t
theorem KVs.vals {K : PySem.W.Frag} : ∀ {ps : List PV} {us : List Value}, KVs K ps us → ∃ vs, Vals vs us ∧ ∀ H μ, VRs K H μ ps vs
  | [], us, h => by have e : us = [] := h; subst e; exact ⟨[], .nil, fun _ _ => rfl⟩
  | p :: ps, us, h => by
    obtain ⟨u, t, rfl, ⟨v, r, hv⟩, ht⟩ := h
    obtain ⟨vs, r2, h2⟩ := KVs.vals ht
    exact ⟨v :: vs, .cons r r2, fun H μ => VRs.cons (hv H μ) (h2 H μ)⟩
def TupIn (K : PySem.W.Frag) (a : Addr) (ps : List PV) : Prop := ∃ (o : Obj) (its : List Value) (n : Nat), K.lookup a = some o ∧ o.cls = .type "tuple" ∧ o.data = .seq its.toArray n ∧ its.length ≤ SZ ∧ KVs K ps its
theorem TupIn.kt {K : PySem.W.Frag} {a : Addr} {ps : List PV} (h : TupIn K a ps) : ∃ vs, KT K a vs ∧ ∀ H μ, VRs K H μ ps vs := by
  obtain ⟨o, its, n, h1, h2, h3, h4, h5⟩ := h
  obtain ⟨vs, r, hv⟩ := KVs.vals h5
  exact ⟨vs, ⟨o, its.toArray, n, h1, h2, h3, by rw [List.size_toArray, sz_eq]; exact h4, by simpa using r⟩, hv⟩
theorem TupIn.val {K : PySem.W.Frag} {a : Addr} {ps : List PV} (h : TupIn K a ps) : KV1 K (.tup ps) (.ref a) := by
  obtain ⟨vs, kt, hv⟩ := h.kt
  exact ⟨.ref a, rfl, fun H μ => (show ∃ b ws, V.ref a = .ref b ∧ TupAt K H μ b ws ∧ VRs K H μ ps ws from ⟨a, vs, rfl, .inr kt, hv H μ⟩)⟩
def TupleAt (K : PySem.W.Frag) (mg : Str → Option Value) (x : Str) (ps : List PV) : Prop := ∃ a, mg x = some (.ref a) ∧ TupIn K a ps
theorem me_globT' {x : Str} {ps : List PV} (hg : Gl X x) (hm : TupleAt X.K X.mg x ps) (hd : (x == ("__debug__" : Str)) = false := by kernel_rfl) : ME X W (.Name x pos) (eC (.tup ps)) := by
  obtain ⟨a, h1, h2⟩ := hm
  obtain ⟨vs, kt, hv⟩ := h2.kt
  exact me_globT hg h1 kt hv hd
def RowsT (K : PySem.W.Frag) : List (List Nat × PV) → List DictEntry → Prop
  | [], es => es = []
  | p :: r, es => ∃ e t, es = e :: t ∧ (∃ tk, e.key = .str ⟨p.1.toArray⟩ tk) ∧ KV1 K p.2 e.val ∧ RowsT K r t
def TabIn (w : World) (K : PySem.W.Frag) (a : Addr) (tab : List (List Nat × PV)) : Prop := ∃ (es : List DictEntry) (n : Nat), K.lookup a = some ⟨.type "dict", none, .dict es.toArray n, #[]⟩ ∧ PySem.W.KeysLit w.params es ∧ (a == sysModules) = false ∧ RowsT K tab es
def TabAt (w : World) (K : PySem.W.Frag) (mg : Str → Option Value) (x : Str) (tab : List (List Nat × PV)) : Prop := ∃ a, mg x = some (.ref a) ∧ TabIn w K a tab
def lookT : List (List Nat × PV) → List Nat → Option PV
  | [], _ => none
  | p :: r, k => if p.1 = k then some p.2 else lookT r k
theorem RowsT.find {K : PySem.W.Frag} {z : List Nat} : ∀ {tab : List (List Nat × PV)} {es : List DictEntry}, RowsT K tab es → (lookT tab z = none → (es.find? fun e => Value.isStrOf ⟨z.toArray⟩ e.key) = none) ∧ ∀ p, lookT tab z = some p → ∃ e, (es.find? fun e => Value.isStrOf ⟨z.toArray⟩ e.key) = some e ∧ KV1 K p e.val
  | [], es, h => by have e : es = [] := h; subst e; exact ⟨fun _ => rfl, fun p q => (nomatch q)⟩
  | q :: r, es, h => by
    obtain ⟨e, t, rfl, ⟨tk, ek⟩, hv, hr⟩ := h
    obtain ⟨i1, i2⟩ := RowsT.find (z := z) hr
    have hk : Value.isStrOf ⟨z.toArray⟩ e.key = decide (q.1 = z) := by
      rw [ek]
      show ((⟨q.1.toArray⟩ : Str) == ⟨z.toArray⟩) = decide (q.1 = z)
      rw [Bool.eq_iff_iff]
      simp
    unfold lookT
    rw [List.find?_cons, hk]
    by_cases hq : q.1 = z
    · rw [if_pos hq, decide_eq_true hq]
      exact ⟨fun z => (nomatch z), fun p hp => by cases hp; exact ⟨e, rfl, hv⟩⟩
    · rw [if_neg hq, decide_eq_false hq]
      exact ⟨i1, i2⟩
def getTab (tab : List (List Nat × PV)) (x : PV) : M PV := match x with
  | .str z => M.ret ((lookT tab z).getD .non)
  | _ => M.fail
theorem me_getTab {x : Str} {tab : List (List Nat × PV)} {p apos : Pos} (hm : TabAt X.w X.K X.mg x tab) (he : ME X W e me) (hg : Gl X x := by exact gl_of (by kernel_rfl)) (hd : (x == ("__debug__" : Str)) = false := by kernel_rfl)
    (m : M1 X (.Name x p) "get" apos e pos := by exact ⟨by kernel_rfl, by kernel_rfl, by kernel_rfl, by kernel_rfl⟩) : ME X W (.Call (.Attribute (.Name x p) "get" apos) [e] [] pos) (eUn (getTab tab) me) := by
  obtain ⟨a, h1, es, n, hl, hk, low, rows⟩ := hm
  refine PE.imp (t := fun σ H Q => tM X.K W me σ H fun y H2 => ∃ z, y = .str z ∧ ∀ v, RelV v ((PySem.findBy Value.isStrOf es.toArray z).getD .none) → Q v H2) ⟨fun pins s σ H Q I h => ?_⟩ fun σ H Q ⟨μ, st, ρ, er, sr, h⟩ => ⟨μ, st, ρ, er, sr, (PostG.bind h).mono fun u H1 ⟨μ1, st1, y, g1, s1, ry, h1⟩ => ?_⟩
  · refine wpAny_Call_method m.base m.few m.line PySem.F.plainAttrs_dict PySem.F.slot_dict_get PySem.F.type_dict_get (ld_glob I hg h1 ?_ hd)
    have mp := PySem.W.mapOf_K (prog := X.prog) (w := X.w) I.kIn hl (by simpa using hk)
    refine ⟨mp.typeIs, fun b q => by cases q; exact ⟨_, I.kIn _ _ hl, rfl⟩, ?_⟩
    rw [m.trees]
    refine Calls.callWith_builtin rfl (Calls.evalArgs_plain (Calls.spliced_cons (thn (he.run pins s σ H _ I h) fun iv s2 ⟨y, H2, I2, ry, z, ey, q2⟩ => Calls.spliced_nil ?_)))
    subst ey
    obtain ⟨t, rfl⟩ := ry
    have mp2 := PySem.W.mapOf_K (prog := X.prog) (w := X.w) I2.kIn hl (by simpa using hk)
    refine call_meetsIn PySem.F.slot_dict_get mp2.typeIs PySem.F.entry_dict_get (PySem.F.args_dict_get_2 _ _) (meets_dict_get (strKind X.prog X.w) a (strKind_is X.prog X.w z t) low) ⟨_, mp2, ?_⟩
    have fr : ∃ v, RelV v ((PySem.findBy Value.isStrOf es.toArray z).getD .none) := by
      have q := RowsT.find (z := z.cps.toList) rows
      have ez : (⟨z.cps.toList.toArray⟩ : Str) = z := by simp
      rw [ez] at q
      unfold PySem.findBy
      rw [List.find?_toArray]
      cases hq : lookT tab z.cps.toList with
      | none => rw [q.1 hq]; exact ⟨.non, rfl⟩
      | some p =>
        obtain ⟨e, e1, v, r, _⟩ := q.2 p hq
        rw [e1]
        exact ⟨v, r⟩
    obtain ⟨v, rv⟩ := fr
    exact ⟨v, H2, I2.tok _, rv, q2 v rv⟩
  · cases y with
    | str z =>
      refine ⟨⟨z.toArray⟩, ry, fun v rv => ?_⟩
      have q := RowsT.find (z := z) rows
      unfold PySem.findBy at rv
      rw [List.find?_toArray] at rv
      have h2 : PostG X.K (fun c d H' => W c d σ H') (VR X.K) Q μ1 H1 (.ok ((lookT tab z).getD .non) st1) := h1
      cases hq : lookT tab z with
      | none =>
        rw [q.1 hq] at rv
        rw [hq] at h2
        have ev : v = .non := RelV.inj rv (show RelV .non Value.none from rfl)
        subst ev
        exact post_same h2 s1 rfl
      | some p =>
        obtain ⟨e, e1, v', r, hv⟩ := q.2 p hq
        rw [e1] at rv
        rw [hq] at h2
        have ev : v = v' := RelV.inj rv r
        subst ev
        exact post_same h2 s1 (hv H1 μ1)
    | _ => exact h1.elim
def eChain (f g : PV → PV → M PV) (ma mb mc : Rho → M PV) : Rho → M PV := fun ρ => M.bind (ma ρ) fun x => M.bind (mb ρ) fun y => M.bind (f x y) fun z => M.bind (asB z) fun k => if k = true then M.bind (mc ρ) fun w => g y w else M.ret (.bl false)
variable {ma mb mc : Rho → M PV} {f g : PV → PV → M PV} {r r' : R2}
theorem chain_imp (t : T2 X.K r f) (t' : T2 X.K r' g) : ∀ σ H Q, tM X.K W (eChain f g ma mb mc) σ H Q → tChain r r' (tM X.K W ma) (tM X.K W mb) (tM X.K W mc) σ H Q := fun σ H Q ⟨μ, st, ρ, er, sr, h⟩ =>
  ⟨μ, st, ρ, er, sr, (PostG.bind h).mono fun u H1 ⟨μ1, st1, x, g1, s1, rx, h1⟩ => ⟨μ1, st1, ρ, er.mono g1, s1, (PostG.bind h1).mono fun v H2 ⟨μ2, st2, y, g2, s2, ry, h2⟩ =>
    t μ2 st2 H2 x y u v (fun c d H' => W c d σ H') _ s2 (VR.mono g2 x u rx) ry ((PostG.bind (R' := VR X.K) h2).mono fun z H3 ⟨μ3, st3, z', g3, s3, rz, h3⟩ => by
      obtain ⟨k, e, h4⟩ := asB_bind rz h3
      refine ⟨k, e, ?_⟩
      cases k with
      | true =>
        rw [if_pos rfl] at h4 ⊢
        exact ⟨μ3, st3, ρ, ((er.mono g1).mono g2).mono g3, s3, (PostG.bind h4).mono fun w H4 ⟨μ4, st4, w', g4, s4, rw', h5⟩ => t' μ4 st4 H4 y w' v w _ Q s4 (VR.mono g4 y v (VR.mono g3 y v ry)) rw' h5⟩
      | false => rw [if_neg Bool.false_ne_true] at h4 ⊢; exact h4 μ3 H3 _ (Gr.refl _ _) s3 rfl)⟩⟩
theorem me_chain {op op' : CmpOp} (ho : OpR X (compareOp op) r) (t : T2 X.K r f) (ho' : OpR X (compareOp op') r') (t' : T2 X.K r' g) (ha : ME X W a ma) (hb : ME X W b mb) (hc : ME X W c mc) (hm : lastMarks [op, op'] [b, c] = false := by kernel_rfl) :
    ME X W (.Compare a [op, op'] [b, c] pos) (eChain f g ma mb mc) := PE.imp (pe_chain ho ho' ha hb hc hm) (chain_imp t t')
theorem mt_chain {op op' : CmpOp} (ho : OpR X (compareOp op) r) (t : T2 X.K r f) (ho' : OpR X (compareOp op') r') (t' : T2 X.K r' g) (ha : ME X W a ma) (hb : ME X W b mb) (hc : ME X W c mc) (hm : lastMarks [op, op'] [b, c] = false := by kernel_rfl) :
    MT X W (.Compare a [op, op'] [b, c] pos) (eB (eChain f g ma mb mc)) := PT.imp (pt_chain ho ho' ha hb hc hm) fun σ H Q h => chain_imp t t' σ H _ (test_imp (X := X) (W := W) (m := eChain f g ma mb mc) σ H Q h)
end
end MP

set_option maxRecDepth 100000
set_option maxHeartbeats 1000000
namespace MP
open PySem L2
section
variable {w : World} {K : PySem.W.Frag} {a : Addr}
theorem TabIn.of {es : Array DictEntry} {n : Nat} {tab : List (List Nat × PV)} (hl : K.lookup a = some ⟨.type "dict", none, .dict es n, #[]⟩) (hk : PySem.W.KeysLit w.params es.toList) (low : (a == sysModules) = false) (rows : RowsT K tab es.toList) : TabIn w K a tab := ⟨es.toList, n, by simpa using hl, hk, low, rows⟩
theorem RowsT.nil : RowsT K [] [] := rfl
theorem RowsT.row {s : String} {l : List Nat} {p : PV} {r : List (List Nat × PV)} {h : Int} {tk : Tok} {v : Value} {es : List DictEntry} (e : Str.ofString s = ⟨l.toArray⟩) (hv : KV1 K p v) (hr : RowsT K r es) : RowsT K ((l, p) :: r) (⟨h, .str (Str.ofString s) tk, v⟩ :: es) :=
  ⟨_, _, rfl, ⟨tk, by rw [e]⟩, hv, hr⟩
theorem KV1.non : KV1 K .non Value.none := ⟨.non, rfl, fun _ _ => rfl⟩
theorem KV1.bl {b : Bool} : KV1 K (.bl b) (Value.bool b) := ⟨.bl b, rfl, fun _ _ => rfl⟩
theorem KV1.int {i : Int} {t : Tok} : KV1 K (.int i) (Value.int i t) := ⟨.int i, ⟨t, rfl⟩, fun _ _ => rfl⟩
theorem KV1.str {l : List Nat} {s : String} {t : Tok} (e : Str.ofString s = ⟨l.toArray⟩) : KV1 K (.str l) (Value.str (Str.ofString s) t) := ⟨.str ⟨l.toArray⟩, ⟨t, by rw [e]⟩, fun _ _ => rfl⟩
theorem KVs.nil : KVs K [] [] := rfl
theorem KVs.cons {p : PV} {ps : List PV} {v : Value} {vs : List Value} (h : KV1 K p v) (r : KVs K ps vs) : KVs K (p :: ps) (v :: vs) := ⟨v, vs, rfl, h, r⟩
theorem TupIn.of {its : Array Value} {n : Nat} {dd : Option Addr} {sl : Array (Option Value)} {ps : List PV} (hl : K.lookup a = some ⟨.type "tuple", dd, .seq its n, sl⟩) (hn : its.toList.length ≤ SZ) (hv : KVs K ps its.toList) : TupIn K a ps := ⟨_, its.toList, n, hl, rfl, by simp, hn, hv⟩
end
theorem def_okF {P : Program} {w : World} {K : PySem.W.Frag} {mg : Str → Option Value} {base : Heap} {x qual : Str} {st : Stmt} {f : Addr} {fd : FuncData} (N ps : List Str) {k kk nn : Nat} (m : Rho → M Fl) {g : List PV → M PV} (hg : g = runB m kk) (hN : N.length = kk) (hn : ps.length = nn) (F : Fun K x qual st f fd) (S : FnScope N ps (defScope st))
    (hb : ∀ (cdv : Value) (A : Around) (outer : List Env) (s : Shared) (H : Hp) (E : XK), Room k (A.deeper (PyProof.Rows.envOfC qual (defScope st) s.heap.objs.size f cdv)) →
      MSs (cxOf (L2.CX P w) P w K mg base N qual (defScope st) f cdv A outer s H E) (fun c d _ H => E c d H) (defBody st) m) :
    FnOk P w K mg base (L2.CX P w) (k + 1) f fd ps (spM K g nn) := by
  subst hg hN hn
  exact def_ok F S hb
end MP

set_option maxRecDepth 100000
set_option maxHeartbeats 1000000
namespace MP
open PySem L2
def strsOf : List PV → Option (List (List Nat))
  | [] => some []
  | .str z :: r => (strsOf r).map (z :: ·)
  | _ :: _ => none
theorem strsOf_at {K : PySem.W.Frag} {H : Hp} {μ : Mu} : ∀ {ps : List PV} {vs : List V} {zs : List (List Nat)}, VRs K H μ ps vs → strsOf ps = some zs → vs = (zs.map SX.S).map V.str
  | [], vs, zs, r, h => by cases h; exact r
  | p :: ps, vs, zs, r, h => by
    obtain ⟨v, t, rfl, r1, r2⟩ := (show ∃ v t, vs = v :: t ∧ VR K H μ p v ∧ VRs K H μ ps t from r)
    cases p with
    | str b =>
      unfold strsOf at h
      cases q : strsOf ps with
      | none => rw [q] at h; cases h
      | some cs =>
        rw [q] at h
        cases h
        cases (show v = V.str ⟨b.toArray⟩ from r1)
        rw [strsOf_at r2 q]
        rfl
    | _ => cases h
def joinM (o : PV) (xs : List PV) : M PV := fun st => match o with
  | .str a => match xs with
    | [x] => match seqOf x st with
      | some ys => match strsOf ys with
        | some zs => if (zs.map (·.length)).sum + zs.length * a.length ≤ SZ then .ok (.str (TL.joinL a zs)) st else .bad
        | none => .bad
      | none => .bad
    | _ => .bad
  | _ => .bad
theorem S_len (l : List Nat) : (SX.S l).length = l.length := by show l.toArray.size = _; simp
theorem t_join {K : PySem.W.Frag} : TMe K (fun x xs H Q => ∃ a p, ∃ ys : List Str, x = .str a ∧ xs = [.ref p] ∧ (SqL K H p (ys.map V.str) ∨ SqT K H p (ys.map V.str)) ∧
    (ys.map (·.length)).sum + ys.length * a.length ≤ 16777216 ∧ Q (.str (Txt.join a ys)) H) joinM := by
  intro μ st H o xs u us E Q sr ro rs h
  unfold joinM at h
  cases o with
  | str a =>
    cases (show u = V.str ⟨a.toArray⟩ from ro)
    cases xs with
    | nil => exact h.elim
    | cons x t =>
      cases t with
      | cons y t => exact h.elim
      | nil =>
        dsimp only at h
        obtain ⟨w, rfl, rx⟩ := one_of rs
        cases q : seqOf x st with
        | none => rw [q] at h; exact h.elim
        | some ys =>
          rw [q] at h
          dsimp only at h
          cases q2 : strsOf ys with
          | none => rw [q2] at h; exact h.elim
          | some zs =>
            rw [q2] at h
            dsimp only at h
            by_cases hz : (zs.map (·.length)).sum + zs.length * a.length ≤ SZ
            · rw [if_pos hz] at h
              obtain ⟨p, vs, rfl, hq, r⟩ := seqOf_at sr rx q
              have e := strsOf_at r q2
              subst e
              refine ⟨_, p, zs.map SX.S, rfl, rfl, hq, ?_, ?_⟩
              · rw [SX.lens, List.length_map]
                have e2 : (⟨a.toArray⟩ : Str).length = a.length := S_len a
                rw [e2]
                exact hz
              · have e3 : Txt.join (⟨a.toArray⟩ : Str) (zs.map SX.S) = SX.S (TL.joinL a zs) := SX.join_S a zs
                rw [e3]
                exact post_same h sr rfl
            · rw [if_neg hz] at h; exact h.elim
  | _ => exact h.elim
def splitM (o : PV) (xs : List PV) : M PV := fun st => match o with
  | .str a => match xs with
    | [.str b] => if (b.all (· < 256)) = true ∧ b ≠ [] ∧ a.length + 2 ≤ SZ then .ok (.lst ((TL.spl b 0 [] a).map .str)) st else .bad
    | _ => .bad
  | _ => .bad
theorem VRs.strs {K : PySem.W.Frag} {H : Hp} {μ : Mu} : ∀ zs : List (List Nat), VRs K H μ (zs.map .str) ((zs.map SX.S).map V.str)
  | [] => rfl
  | z :: zs => VRs.cons rfl (VRs.strs zs)
theorem t_split {K : PySem.W.Frag} : TMe K (fun x xs H Q => ∃ a b, x = .str a ∧ xs = [.str b] ∧ (b.length == 0) = false ∧ a.length + 2 ≤ sizeLine ∧ rNewStrs (Txt.split a b) H Q) splitM := by
  intro μ st H o xs u us E Q sr ro rs h
  unfold splitM at h
  cases o with
  | str a =>
    cases (show u = V.str ⟨a.toArray⟩ from ro)
    cases xs with
    | nil => exact h.elim
    | cons x t =>
      cases t with
      | cons y t => cases x <;> exact h.elim
      | nil =>
        obtain ⟨w, rfl, rx⟩ := one_of rs
        cases x with
        | str b =>
          cases (show w = V.str ⟨b.toArray⟩ from rx)
          dsimp only at h
          by_cases hz : (b.all (· < 256)) = true ∧ b ≠ [] ∧ a.length + 2 ≤ SZ
          · rw [if_pos hz] at h
            refine ⟨_, _, rfl, rfl, ?_, ?_, fun p hp => ?_⟩
            · show (b.toArray.size == 0) = false
              rw [List.size_toArray]
              cases b with
              | nil => exact absurd rfl hz.2.1
              | cons c r => rfl
            · show a.toArray.size + 2 ≤ sizeLine
              rw [List.size_toArray, sz_eq]
              exact hz.2.2
            · have e3 : Txt.split (⟨a.toArray⟩ : Str) ⟨b.toArray⟩ = (TL.spl b 0 [] a).map SX.S := SX.split_S hz.2.1 hz.1
              rw [e3]
              exact post_lst sr (VRs.strs _) hp h
          · rw [if_neg hz] at h; exact h.elim
        | _ => exact h.elim
  | _ => exact h.elim
def insertM (o : PV) (xs : List PV) : M PV := fun st => match lstCell o st with
  | some (n, ys) => match xs with
    | [.int i, x] => if ys.length < SZ ∧ 0 ≤ i ∧ i < 4611686018427387904 then .ok .non (st.set n (.lst (ys.take i.toNat ++ [x] ++ ys.drop i.toNat))) else .bad
    | _ => .bad
  | none => .bad
theorem t_insert {K : PySem.W.Frag} : TMe K (fun x vs H Q => ∃ (l : Addr) (xs : List V) (i : Int) (y : V), x = .ref l ∧ vs = [.int i, y] ∧ H l = some (.lst xs) ∧ xs.length < sizeLine ∧ 0 ≤ i ∧ i < 2 ^ 63 ∧
    Q .non (upd H l (.lst (xs.take i.toNat ++ [y] ++ xs.drop i.toNat)))) insertM := by
  intro μ st H o xs u us E Q sr ro rs h
  unfold insertM at h
  cases q : lstCell o st with
  | none => rw [q] at h; exact h.elim
  | some p =>
    obtain ⟨n, ys⟩ := p
    rw [q] at h
    dsimp only at h
    split at h
    · rename_i i x
      by_cases hz : ys.length < SZ ∧ 0 ≤ i ∧ i < 4611686018427387904
      · rw [if_pos hz] at h
        obtain ⟨a, vs, rfl, ha, h1, h2⟩ := lstCell_at sr ro q
        obtain ⟨v, w, rfl, rv, rw'⟩ := two_of rs
        cases (show v = V.int i from rv)
        refine ⟨a, vs, i, w, rfl, rfl, h1, by rw [← VRs.length h2, sz_eq]; exact hz.1, hz.2.1, by omega, ?_⟩
        exact h μ _ .non (gr_put ha) (sr.put ha ⟨_, upd_same, VRs.mono (gr_put ha) _ _ (VRs.append (VRs.append (VRs.take _ h2) (VRs.cons rw' VRs.nil)) (VRs.drop _ h2))⟩) rfl
      · rw [if_neg hz] at h; exact h.elim
    · exact h.elim
section
variable {X : Cx} {W : WX} {o e e2 : Expr} {apos cpos : Pos} {mo : Rho → M PV} {ma : Rho → M (List PV)}
theorem me_join (ho : ME X W o mo) (ha : MA X W [e] ma)
    (hbase : attributeBase o "join" X.env (eval o X.env) = eval o X.env := by kernel_rfl)
    (hfew : ((backTo cpos (starEach [e] X.env)).all (fun x => !x.1) && (backToKw cpos (keywordEach [] X.env)).all (fun x => x.1.isSome)
      && decide ([e].length + ([] : List Keyword).length + (if ([] : List Keyword).isEmpty then 0 else 1) < 30)) = true := by kernel_rfl)
    (hline : (apos.endLine == cpos.line) = true := by kernel_rfl) (hs : starEach [e] X.env = (false, eval e X.env) :: starEach [] X.env := by kernel_rfl) :
    ME X W (.Call (.Attribute o "join" apos) [e] [] cpos) (eMeth "str" joinM mo ma) :=
  me_meth PySem.F.plainAttrs_str PySem.F.slot_str_join PySem.F.type_str_join mt_join t_join ho ha hbase hfew hline hs rfl
theorem me_split (ho : ME X W o mo) (ha : MA X W [e] ma)
    (hbase : attributeBase o "split" X.env (eval o X.env) = eval o X.env := by kernel_rfl)
    (hfew : ((backTo cpos (starEach [e] X.env)).all (fun x => !x.1) && (backToKw cpos (keywordEach [] X.env)).all (fun x => x.1.isSome)
      && decide ([e].length + ([] : List Keyword).length + (if ([] : List Keyword).isEmpty then 0 else 1) < 30)) = true := by kernel_rfl)
    (hline : (apos.endLine == cpos.line) = true := by kernel_rfl) (hs : starEach [e] X.env = (false, eval e X.env) :: starEach [] X.env := by kernel_rfl) :
    ME X W (.Call (.Attribute o "split" apos) [e] [] cpos) (eMeth "str" splitM mo ma) :=
  me_meth PySem.F.plainAttrs_str PySem.F.slot_str_split PySem.F.type_str_split mt_split t_split ho ha hbase hfew hline hs rfl
theorem me_insert (ho : ME X W o mo) (ha : MA X W [e, e2] ma)
    (hbase : attributeBase o "insert" X.env (eval o X.env) = eval o X.env := by kernel_rfl)
    (hfew : ((backTo cpos (starEach [e, e2] X.env)).all (fun x => !x.1) && (backToKw cpos (keywordEach [] X.env)).all (fun x => x.1.isSome)
      && decide ([e, e2].length + ([] : List Keyword).length + (if ([] : List Keyword).isEmpty then 0 else 1) < 30)) = true := by kernel_rfl)
    (hline : (apos.endLine == cpos.line) = true := by kernel_rfl) (hs : starEach [e, e2] X.env = (false, eval e X.env) :: starEach [e2] X.env := by kernel_rfl) (hplain : (backTo cpos (starEach [e2] X.env)).any (·.1) = false := by kernel_rfl) :
    ME X W (.Call (.Attribute o "insert" apos) [e, e2] [] cpos) (eMeth "list" insertM mo ma) :=
  me_meth PySem.F.plainAttrs_list PySem.F.slot_list_insert PySem.F.type_list_insert mt_insert t_insert ho ha hbase hfew hline hs hplain
end
end MP

set_option maxRecDepth 100000
set_option maxHeartbeats 1000000
namespace MP
open PySem L2 PySem.Spec PyProof.Rows
def inTab (n : Bool) (tab : List (List Nat × PV)) (x : PV) : M PV := match x with
  | .str z => M.ret (.bl (ng n (lookT tab z).isSome))
  | _ => M.fail
def ixTab (tab : List (List Nat × PV)) (x : PV) : M PV := match x with
  | .str z => match lookT tab z with
    | some p => M.ret p
    | none => M.fail
  | _ => M.fail
theorem TabIn.isSome {w : World} {K : PySem.W.Frag} {tab : List (List Nat × PV)} {es : List DictEntry} (rows : RowsT K tab es) (z : List Nat) : (PySem.findBy Value.isStrOf es.toArray (⟨z.toArray⟩ : Str)).isSome = (lookT tab z).isSome := by
  have q := RowsT.find (z := z) rows
  unfold PySem.findBy
  rw [List.find?_toArray]
  cases hq : lookT tab z with
  | none => rw [q.1 hq]; rfl
  | some p => obtain ⟨e, e1, _⟩ := q.2 p hq; rw [e1]; rfl
section
variable {X : Cx} {W : WX} {e : Expr} {pos : Pos} {me : Rho → M PV} {x : Str} {tab : List (List Nat × PV)} {p : Pos}
theorem op_inTab {n : Bool} {op : CmpOp} (hop : op = if n = true then .NotIn else .In) {a : Addr} (h : TabIn X.w X.K a tab) : OpR X (compareOp op) (fun u v H Q => ∃ z, u = .str z ∧ v = .ref a ∧ Q (.bl (ng n (lookT tab z.cps.toList).isSome)) H) := by
  intro pins s σ H u v u' v' Q I ru rv q
  obtain ⟨es, k, hl, hk, low, rows⟩ := h
  obtain ⟨z, rfl, rfl, q⟩ := q
  obtain ⟨t, rfl⟩ := ru
  cases rv
  have mp := PySem.W.mapOf_K (prog := X.prog) (w := X.w) I.kIn hl (by simpa using hk)
  have e := TabIn.isSome (w := X.w) rows z.cps.toList
  rw [show (⟨z.cps.toList.toArray⟩ : Str) = z by simp] at e
  cases n with
  | false =>
    rw [if_neg Bool.false_ne_true] at hop
    subst hop
    refine wpAny_in_of (strKind_is X.prog X.w z t) low mp ?_
    rw [e]
    exact ⟨.bl (lookT tab z.cps.toList).isSome, H, I.tok _, rfl, q⟩
  | true =>
    rw [if_pos rfl] at hop
    subst hop
    refine wpAny_notIn_of (strKind_is X.prog X.w z t) low mp ?_
    rw [e]
    exact ⟨.bl (!(lookT tab z.cps.toList).isSome), H, I.tok _, rfl, q⟩
theorem inTab_imp {n : Bool} {a : Addr} : ∀ σ H Q, tM X.K W (eUn (inTab n tab) me) σ H Q → tOp (fun u v H Q => ∃ z, u = .str z ∧ v = .ref a ∧ Q (.bl (ng n (lookT tab z.cps.toList).isSome)) H) (tM X.K W me) (tC (.ref a)) σ H Q := fun σ H Q ⟨μ, st, ρ, er, sr, h⟩ =>
  ⟨μ, st, ρ, er, sr, (PostG.bind h).mono fun u H1 ⟨μ1, st1, y, g1, s1, ry, h1⟩ => by
    cases y with
    | str z =>
      cases (show u = V.str ⟨z.toArray⟩ from ry)
      exact ⟨⟨z.toArray⟩, rfl, rfl, by simpa using post_same (v := V.bl (ng n (lookT tab z).isSome)) h1 s1 rfl⟩
    | _ => exact h1.elim⟩
theorem me_inTabG {n : Bool} {op : CmpOp} (hop : op = if n = true then .NotIn else .In) (hm : TabAt X.w X.K X.mg x tab) (he : ME X W e me) (hg : Gl X x) (hd : (x == ("__debug__" : Str)) = false) (hb : behindInMarks op (.Name x p) = false) : ME X W (.Compare e [op] [.Name x p] pos) (eUn (inTab n tab) me) := by
  obtain ⟨a, h1, h2⟩ := hm
  exact PE.imp (pe_cmpR (op_inTab hop h2) he (pe_glob (v := .ref a) hg h1 rfl hd) hb) inTab_imp
theorem mt_inTabG {n : Bool} {op : CmpOp} (hop : op = if n = true then .NotIn else .In) (hm : TabAt X.w X.K X.mg x tab) (he : ME X W e me) (hg : Gl X x) (hd : (x == ("__debug__" : Str)) = false) (hb : behindInMarks op (.Name x p) = false) : MT X W (.Compare e [op] [.Name x p] pos) (eB (eUn (inTab n tab) me)) := by
  obtain ⟨a, h1, h2⟩ := hm
  exact PT.imp (pt_cmpR (op_inTab hop h2) he (pe_glob (v := .ref a) hg h1 rfl hd) hb) fun σ H Q h => inTab_imp σ H _ (test_imp (X := X) (W := W) (m := eUn (inTab n tab) me) σ H Q h)
theorem me_inTab (hm : TabAt X.w X.K X.mg x tab) (he : ME X W e me) (hg : Gl X x := by exact gl_of (by kernel_rfl)) (hd : (x == ("__debug__" : Str)) = false := by kernel_rfl) : ME X W (.Compare e [.In] [.Name x p] pos) (eUn (inTab false tab) me) := me_inTabG rfl hm he hg hd rfl
theorem me_notinTab (hm : TabAt X.w X.K X.mg x tab) (he : ME X W e me) (hg : Gl X x := by exact gl_of (by kernel_rfl)) (hd : (x == ("__debug__" : Str)) = false := by kernel_rfl) : ME X W (.Compare e [.NotIn] [.Name x p] pos) (eUn (inTab true tab) me) := me_inTabG rfl hm he hg hd rfl
theorem mt_inTab (hm : TabAt X.w X.K X.mg x tab) (he : ME X W e me) (hg : Gl X x := by exact gl_of (by kernel_rfl)) (hd : (x == ("__debug__" : Str)) = false := by kernel_rfl) : MT X W (.Compare e [.In] [.Name x p] pos) (eB (eUn (inTab false tab) me)) := mt_inTabG rfl hm he hg hd rfl
theorem mt_notinTab (hm : TabAt X.w X.K X.mg x tab) (he : ME X W e me) (hg : Gl X x := by exact gl_of (by kernel_rfl)) (hd : (x == ("__debug__" : Str)) = false := by kernel_rfl) : MT X W (.Compare e [.NotIn] [.Name x p] pos) (eB (eUn (inTab true tab) me)) := mt_inTabG rfl hm he hg hd rfl
theorem ix_tab {a : Addr} (h : TabIn X.w X.K a tab) : IxR X (fun u v H Q => ∃ z p, u = .ref a ∧ v = .str ⟨z.toArray⟩ ∧ lookT tab z = some p ∧ ∀ w, (∀ μ, VR X.K H μ p w) → Q w H) := by
  intro value slice pins s σ H u v u' v' Q I ru rv q hs
  obtain ⟨es, k, hl, hk, low, rows⟩ := h
  obtain ⟨z, p, rfl, rfl, hz, q⟩ := q
  cases (show u' = Value.ref a from ru)
  obtain ⟨t, rfl⟩ := rv
  have mp := PySem.W.mapOf_K (prog := X.prog) (w := X.w) I.kIn hl (by simpa using hk)
  obtain ⟨en, e1, w, rw', hv⟩ := (RowsT.find (z := z) rows).2 p hz
  have e2 : PySem.findBy Value.isStrOf es.toArray (⟨z.toArray⟩ : Str) = some en.val := by
    unfold PySem.findBy
    rw [List.find?_toArray, e1]
    rfl
  exact tail_any mp.typeIs slot_dict_getitem.lookup (wpAny_getItem_of (strKind_is X.prog X.w _ t) mp e2 ⟨w, H, I.tok _, rw', q w fun μ => hv H μ⟩) hs
theorem me_ixTab (hm : TabAt X.w X.K X.mg x tab) (he : ME X W e me) (hs : PlainIx e) (hg : Gl X x := by exact gl_of (by kernel_rfl)) (hd : (x == ("__debug__" : Str)) = false := by kernel_rfl) : ME X W (.Subscript (.Name x p) e pos) (eUn (ixTab tab) me) := by
  obtain ⟨a, h1, h2⟩ := hm
  refine PE.imp (pe_ix (ix_tab h2) (pe_glob (v := .ref a) hg h1 rfl hd) he hs) fun σ H Q ⟨μ, st, ρ, er, sr, h⟩ => ?_
  refine ⟨μ, st, ρ, er, sr, (PostG.bind h).mono fun u H1 ⟨μ1, st1, y, g1, s1, ry, h1⟩ => ?_⟩
  cases y with
  | str z =>
    unfold ixTab at h1
    dsimp only at h1
    cases hq : lookT tab z with
    | none => rw [hq] at h1; exact h1.elim
    | some p =>
      rw [hq] at h1
      exact ⟨z, p, rfl, ry, hq, fun w hw => post_same h1 s1 (hw μ1)⟩
  | _ => exact h1.elim
end
def intS (i : Int) : List Nat := (PySem.Str.ofString (toString i)).cps.toList
def strM (xs : List PV) : M PV := match xs with
  | [.int i] => if i.natAbs.log2 < 1920 then M.ret (.str (intS i)) else M.fail
  | [.str a] => M.ret (.str a)
  | _ => M.fail
theorem t_strM {K : PySem.W.Frag} : TL K (fun xs H Q => (∃ i, xs = [.int i] ∧ i.natAbs.log2 < 1920 ∧ Q (.str (toString i)) H) ∨ ∃ a, xs = [.str a] ∧ Q (.str a) H) strM := by
  intro μ st H xs us E Q sr r h
  cases xs with
  | nil => exact h.elim
  | cons x t =>
    cases t with
    | cons y t => cases x <;> exact h.elim
    | nil =>
      obtain ⟨u, rfl, rx⟩ := one_of r
      cases x with
      | int i =>
        cases (show u = V.int i from rx)
        unfold strM at h
        dsimp only at h
        by_cases hz : i.natAbs.log2 < 1920
        · rw [if_pos hz] at h
          refine .inl ⟨i, rfl, hz, ?_⟩
          have e : (⟨(intS i).toArray⟩ : Str) = PySem.Str.ofString (toString i) := by unfold intS; simp
          have q := post_same (v := V.str ⟨(intS i).toArray⟩) h sr rfl
          rw [e] at q
          exact q
        · rw [if_neg hz] at h; exact h.elim
      | str a => cases (show u = V.str ⟨a.toArray⟩ from rx); exact .inr ⟨_, rfl, post_same h sr rfl⟩
      | _ => exact h.elim
section
variable {X : Cx}
theorem CallR.or {f : Value} {r r' : List V → Hp → VK → Prop} (h : CallR X f r) (h' : CallR X f r') : CallR X f (fun xs H Q => r xs H Q ∨ r' xs H Q) := by
  intro pins s σ H xs us Q I rs q
  rcases q with q | q
  · exact h pins s σ H xs us Q I rs q
  · exact h' pins s σ H xs us Q I rs q
variable {W : WX} {e : Expr} {p pos : Pos} {ma : Rho → M (List PV)}
theorem me_strOf (hg : Gl X "str") (hm : X.mg "str" = none) (ha : MA X W [e] ma) (he : starEach [e] X.env = (false, eval e X.env) :: starEach [] X.env := by kernel_rfl) : ME X W (.Call (.Name "str" p) [e] [] pos) (eCall strM ma) :=
  me_callTy (CallR.or call_str_int SkE.call_str_str) t_strM hg hm (by kernel_rfl) ha (he := he) (hpl := rfl)
end
def intsOf : List PV → Option (List Int)
  | [] => some []
  | .int i :: r => (intsOf r).map (i :: ·)
  | _ :: _ => none
theorem intsOf_at {K : PySem.W.Frag} {H : Hp} {μ : Mu} : ∀ {ps : List PV} {vs : List V} {ns : List Int}, VRs K H μ ps vs → intsOf ps = some ns → vs = ns.map V.int
  | [], vs, ns, r, h => by cases h; exact r
  | p :: ps, vs, ns, r, h => by
    obtain ⟨v, t, rfl, r1, r2⟩ := (show ∃ v t, vs = v :: t ∧ VR K H μ p v ∧ VRs K H μ ps t from r)
    cases p with
    | int b =>
      unfold intsOf at h
      cases q : intsOf ps with
      | none => rw [q] at h; cases h
      | some cs =>
        rw [q] at h
        cases h
        cases (show v = V.int b from r1)
        rw [intsOf_at r2 q]
        rfl
    | _ => cases h
def lstOf (p : PV) (st : Sto) : Option (List PV) := match p with
  | .frz xs => some xs
  | p => listOf p st
theorem lstOf_at {K : PySem.W.Frag} {H : Hp} {μ : Mu} {st : Sto} {x : PV} {v : V} {ps : List PV} (sr : SR K μ st H) (r : VR K H μ x v) (h : lstOf x st = some ps) : ∃ a vs, v = .ref a ∧ SqL K H a vs ∧ VRs K H μ ps vs := by
  have g : listOf x st = some ps → ∃ a vs, v = .ref a ∧ SqL K H a vs ∧ VRs K H μ ps vs := fun h => by
    obtain ⟨a, vs, e, l, rs⟩ := listOf_at sr r h
    exact ⟨a, vs, e, SqL.of l, rs⟩
  cases x with
  | frz xs =>
    cases h
    obtain ⟨a, vs, e, l, rs⟩ := frz_at r
    exact ⟨a, vs, e, l.sq, rs⟩
  | _ => exact g h
def sumM (xs : List PV) : M PV := fun st => match xs with
  | [x] => match lstOf x st with
    | some ys => match intsOf ys with
      | some ns => .ok (.int ns.sum) st
      | none => .bad
    | none => .bad
  | _ => .bad
theorem t_sumM {K : PySem.W.Frag} : TL K (rSum K) sumM := by
  intro μ st H xs us E Q sr r h
  unfold sumM at h
  cases xs with
  | nil => exact h.elim
  | cons x t =>
    cases t with
    | cons y t => exact h.elim
    | nil =>
      obtain ⟨u, rfl, rx⟩ := one_of r
      dsimp only at h
      cases q : lstOf x st with
      | none => rw [q] at h; exact h.elim
      | some ys =>
        rw [q] at h
        dsimp only at h
        cases q2 : intsOf ys with
        | none => rw [q2] at h; exact h.elim
        | some ns =>
          rw [q2] at h
          obtain ⟨a, vs, rfl, l, rs⟩ := lstOf_at sr rx q
          have e := intsOf_at rs q2
          subst e
          exact ⟨a, ns, rfl, l, post_same h sr rfl⟩
section
variable {X : Cx} {W : WX} {e : Expr} {p pos : Pos} {ma : Rho → M (List PV)}
theorem me_sum (hc : X.calm = true) (hg : Gl X "sum") (hm : X.mg "sum" = none) (ha : MA X W [e] ma) (he : starEach [e] X.env = (false, eval e X.env) :: starEach [] X.env := by kernel_rfl) : ME X W (.Call (.Name "sum" p) [e] [] pos) (eCall sumM ma) :=
  me_callB (cr_sum hc) t_sumM hg hm (by kernel_rfl) ha (he := he) (hpl := rfl)
end
def indexM (o : PV) (xs : List PV) : M PV := match o, xs with
  | .str a, [.str b] => match Builtin.Str.occurrences ⟨a.toArray⟩ ⟨b.toArray⟩ 0 a.length 1 with
    | i :: _ => M.ret (.int (i : Nat))
    | [] => M.fail
  | _, _ => M.fail
theorem t_index {K : PySem.W.Frag} : TMe K (fun x xs H Q => ∃ a b i rest, x = .str a ∧ xs = [.str b] ∧ Builtin.Str.occurrences a b 0 a.length 1 = i :: rest ∧ Q (.int (i : Nat)) H) indexM := by
  intro μ st H o xs u us E Q sr ro rs h
  unfold indexM at h
  split at h
  · rename_i a b
    obtain ⟨w, rfl, rx⟩ := one_of rs
    cases (show u = V.str ⟨a.toArray⟩ from ro)
    cases (show w = V.str ⟨b.toArray⟩ from rx)
    cases q : Builtin.Str.occurrences ⟨a.toArray⟩ ⟨b.toArray⟩ 0 a.length 1 with
    | nil => rw [q] at h; exact h.elim
    | cons i r =>
      rw [q] at h
      exact ⟨_, _, i, r, rfl, rfl, by rw [str_len]; exact q, post_same h sr rfl⟩
  · exact h.elim
section
variable {X : Cx} {W : WX} {o e : Expr} {apos cpos : Pos} {mo : Rho → M PV} {ma : Rho → M (List PV)}
theorem me_indexS (ho : ME X W o mo) (ha : MA X W [e] ma)
    (hbase : attributeBase o "index" X.env (eval o X.env) = eval o X.env := by kernel_rfl)
    (hfew : ((backTo cpos (starEach [e] X.env)).all (fun x => !x.1) && (backToKw cpos (keywordEach [] X.env)).all (fun x => x.1.isSome)
      && decide ([e].length + ([] : List Keyword).length + (if ([] : List Keyword).isEmpty then 0 else 1) < 30)) = true := by kernel_rfl)
    (hline : (apos.endLine == cpos.line) = true := by kernel_rfl) (hs : starEach [e] X.env = (false, eval e X.env) :: starEach [] X.env := by kernel_rfl) :
    ME X W (.Call (.Attribute o "index" apos) [e] [] cpos) (eMeth "str" indexM mo ma) :=
  me_meth PySem.F.plainAttrs_str PySem.F.slot_str_index PySem.F.type_str_index mt_sindex t_index ho ha hbase hfew hline hs rfl
end
end MP

set_option maxRecDepth 100000
set_option maxHeartbeats 1000000
namespace MP
open PySem L2 PySem.Spec PyProof.Rows
inductive Sk where
  | l (a : Addr)
  | t (a : Addr)
  | s (x : Str)
def Sk.val : Sk → V
  | .l a => .ref a
  | .t a => .ref a
  | .s x => .str x
def Sk.ty : Sk → String
  | .l _ => "list_iterator"
  | .t _ => "tuple_iterator"
  | .s x => strIterType x
def Sk.at (K : PySem.W.Frag) (H : Hp) : Sk → List V → Prop
  | .l a, xs => SqL K H a xs
  | .t a, xs => SqT K H a xs
  | .s x, xs => xs = x.cps.toList.map fun c => V.str ⟨#[c]⟩
def ItS (T : String) (u : Value) (it : Addr) (i : Nat) (h : Heap) : Prop := ∃ o, h.get? it = some o ∧ o.cls = .type T ∧ o.data = .fields #[u, .int i 0]
theorem ItS.at {T : String} {u : Value} {it : Addr} {i : Nat} {h h' : Heap} (st : ItS T u it i h) (k : ∀ o, h.get? it = some o → h'.get? it = some o) : ItS T u it i h' :=
  let ⟨o, e, r⟩ := st
  ⟨o, k o e, r⟩
def IterOf (u : Value) (T : String) (h : Heap) : Prop :=
  (∃ l items, u = .ref l ∧ T = "list_iterator" ∧ h.IsList l items) ∨ (∃ l items, u = .ref l ∧ T = "tuple_iterator" ∧ h.IsTuple l items) ∨ ∃ x t, u = .str x t ∧ T = strIterType x
theorem IterOf.push {u : Value} {T : String} {h : Heap} (k : IterOf u T h) (o : Obj) : IterOf u T (h.push o) := by
  rcases k with ⟨l, is, e, e', k⟩ | ⟨l, is, e, e', k⟩ | k
  · exact .inl ⟨l, is, e, e', k.push _⟩
  · exact .inr (.inl ⟨l, is, e, e', k.push _⟩)
  · exact .inr (.inr k)
section
variable {prog : Program} {w : World} {A : Around} {E : Value → Shared → Prop} {s : Shared}
theorem iter_of {u : Value} {T : String} {Q : Value → Shared → Prop} (k : IterOf u T s.heap) (hQ : Q (.ref s.heap.objs.size) { s with heap := s.heap.push { cls := .type T, data := .fields #[u, .int 0 0] } }) :
    wpAny (model prog w) A (pyIter u) Q E s := by
  rcases k with ⟨l, is, e, e', k⟩ | ⟨l, is, e, e', k⟩ | ⟨x, t, e, e'⟩
  · subst e e'; exact wpAny_pyIter_list k hQ
  · subst e e'; exact wpAny_pyIter_tuple k hQ
  · subst e e'; exact wpAny_pyIter_strU hQ
end
abbrev zG1 (h : Heap) (T1 : String) (u1 : Value) : Heap := h.push { cls := .type T1, data := .fields #[u1, .int 0 0] }
abbrev zG2 (h : Heap) (T1 T2 : String) (u1 u2 : Value) : Heap := (zG1 h T1 u1).push { cls := .type T2, data := .fields #[u2, .int 0 0] }
abbrev zG3 (h : Heap) (T1 T2 : String) (u1 u2 : Value) : Heap := (zG2 h T1 T2 u1 u2).push { cls := .type "tuple", data := .seq #[.ref h.objs.size, .ref (zG1 h T1 u1).objs.size] }
abbrev zG4 (h : Heap) (T1 T2 : String) (u1 u2 : Value) : Heap := (zG3 h T1 T2 u1 u2).push { cls := .type "tuple", data := .seq #[.none, .none] }
abbrev zG5 (h : Heap) (T1 T2 : String) (u1 u2 : Value) : Heap := (zG4 h T1 T2 u1 u2).push { cls := .type "zip", data := .fields #[.none, .bool false, .bool false, .ref (zG2 h T1 T2 u1 u2).objs.size, .ref (zG3 h T1 T2 u1 u2).objs.size] }
theorem meets_zipG_new (T1 T2 : String) (u1 u2 : Value) :
    Meets (Builtin.«zip.__new__» ⟨[.type "zip", u1, u2], []⟩) (fun _ R s => IterOf u1 T1 s.heap ∧ IterOf u2 T2 s.heap ∧
      R (.ok (.ret (.ref (zG4 s.heap T1 T2 u1 u2).objs.size))) { s with heap := zG5 s.heap T1 T2 u1 u2 }) :=
  .of_wp fun prog w A R s h => by
    obtain ⟨hp, g, d, tk, os⟩ := s; obtain ⟨hl1, hl2, h⟩ := h
    have hsub := sub_zip
    have hL1 : IterOf u1 T1 (Shared.heap ⟨hp, g, d, tk, os⟩) := hl1
    have hL2 : IterOf u2 T2 (Shared.heap ⟨hp.push { cls := .type T1, data := .fields #[u1, .int 0 0] }, g, d, tk, os⟩) := hl2.push _
    wp_walk using iter_of hL1, iter_of hL2
    exact ⟨_, rfl, h⟩
section
variable {prog : Program} {w : World} {A : Around} {E : Value → Shared → Prop} {s : Shared}
theorem call_zipG {T1 T2 : String} {u1 u2 : Value} {Q : Value → Shared → Prop} (hl1 : IterOf u1 T1 s.heap) (hl2 : IterOf u2 T2 s.heap)
    (h : ∀ h', IsZip h' (s.heap.objs.size + 4) (s.heap.objs.size + 2) (s.heap.objs.size + 3) .none → IsPair h' (s.heap.objs.size + 2) (.ref s.heap.objs.size) (.ref (s.heap.objs.size + 1)) →
      IsPair h' (s.heap.objs.size + 3) .none .none → ItS T1 u1 s.heap.objs.size 0 h' → ItS T2 u2 (s.heap.objs.size + 1) 0 h' → h'.objs.size = s.heap.objs.size + 5 →
      (∀ c o, s.heap.get? c = some o → h'.get? c = some o) → Q (.ref (s.heap.objs.size + 4)) { s with heap := h' }) :
    wpAny (model prog w) A (call (.type "zip") [u1, u2]) Q E s := by
  refine callType_new F.called_zip (by decide) (F.typeCall_zip_2 _ _) (F.newCall_zip_2 _ _) (fun obj => F.args_object_init_3 obj _ _) F.entry_zip_new
    (meets_zipG_new T1 T2 u1 u2) ⟨hl1, hl2, ?_⟩
  have z1 : (zG1 s.heap T1 u1).objs.size = s.heap.objs.size + 1 := Heap.size_push ..
  have z2 : (zG2 s.heap T1 T2 u1 u2).objs.size = s.heap.objs.size + 2 := by rw [Heap.size_push, z1]
  have z3 : (zG3 s.heap T1 T2 u1 u2).objs.size = s.heap.objs.size + 3 := by rw [Heap.size_push, z2]
  have z4 : (zG4 s.heap T1 T2 u1 u2).objs.size = s.heap.objs.size + 4 := by rw [Heap.size_push, z3]
  have z5 : (zG5 s.heap T1 T2 u1 u2).objs.size = s.heap.objs.size + 5 := by rw [Heap.size_push, z4]
  have g5 : (zG5 s.heap T1 T2 u1 u2).get? (zG4 s.heap T1 T2 u1 u2).objs.size = some _ := Heap.get?_push_size _ rfl
  have g4 : (zG5 s.heap T1 T2 u1 u2).get? (zG3 s.heap T1 T2 u1 u2).objs.size = some _ := Heap.get?_push_of_some _ (Heap.get?_push_size _ rfl)
  have g3 : (zG5 s.heap T1 T2 u1 u2).get? (zG2 s.heap T1 T2 u1 u2).objs.size = some _ := Heap.get?_push_of_some _ (Heap.get?_push_of_some _ (Heap.get?_push_size _ rfl))
  have g2 : (zG5 s.heap T1 T2 u1 u2).get? (zG1 s.heap T1 u1).objs.size = some _ := Heap.get?_push_of_some _ (Heap.get?_push_of_some _ (Heap.get?_push_of_some _ (Heap.get?_push_size _ rfl)))
  have g1 : (zG5 s.heap T1 T2 u1 u2).get? s.heap.objs.size = some _ := Heap.get?_push_of_some _ (Heap.get?_push_of_some _ (Heap.get?_push_of_some _ (Heap.get?_push_of_some _ (Heap.get?_push_size _ rfl))))
  show _ ∧ _
  rw [z2, z3, z4] at g5
  rw [z1, z2] at g3
  rw [z3] at g4
  rw [z1] at g2
  rw [z4]
  exact ⟨⟨_, g5, rfl⟩, h _ g5 g3 g4 ⟨_, g1, rfl, rfl⟩ ⟨_, g2, rfl, rfl⟩ z5 fun c o x =>
    Heap.get?_push_of_some _ (Heap.get?_push_of_some _ (Heap.get?_push_of_some _ (Heap.get?_push_of_some _ (Heap.get?_push_of_some _ x))))⟩
theorem draws_tuple (hh : A.handled = none) (it l : Addr) (hne : l ≠ it) (items : Array Value) :
    Draws prog w A it [it, l] items.size (fun i v => items[i]? = some v) (fun i h => h.IsTupleIter it l i ∧ h.IsTuple l items) where
  live := fun _ _ st => let ⟨o, ho, _⟩ := st.1; ⟨o, ho⟩
  frame := fun _ _ _ st hk => ⟨st.1.at fun o e => hk it (by simp) o e, let ⟨o, ho, r⟩ := st.2; ⟨o, hk l (by simp) o ho, r⟩⟩
  item := fun i s Q E hi st hQ => by
    refine RZ.nextOf_tuple_item st.1 st.2 (x := items[i]) (by simp [hi]) fun h' hit' hs' => ?_
    exact hQ _ h' s.toks (by simp [hi]) ⟨hit', let ⟨o, ho, r⟩ := st.2; ⟨o, hs'.extBut _ _ hne ho, r⟩⟩ hs'
  done := fun s Q E st hE => RZ.nextOf_tuple_end hh st.1 st.2 (by simp) hE
end
theorem vals_back : ∀ {xs : List V} {us : List Value} {i : Nat} {u : Value}, Vals xs us → us[i]? = some u → ∃ x, xs[i]? = some x ∧ RelV x u
  | [], _, i, u, .nil, e => by simp at e
  | x :: xs, _, 0, u, .cons r _, e => by simp at e; subst e; exact ⟨x, rfl, r⟩
  | x :: xs, _, i + 1, u, .cons _ r, e => by simpa using vals_back r (by simpa using e)
theorem fpc {c it a : Addr} (h : c = it ∨ c = a) : c = it ∨ Value.ref a = .ref c := h.imp_right fun e => by rw [e]
theorem draws_of {X : Cx} {A : Around} {pins : List (Addr × Obj)} {σ : L2.St} {H : Hp} {s : Shared} (hh : A.handled = none) (I : Inv X pins σ H s) {k : Sk} {xs : List V} (ha : k.at X.K H xs) {u : Value} (r : RelV k.val u) {it : Addr} {i : Nat}
    (hne : ∀ a, u = .ref a → a ≠ it) (st : ItS k.ty u it i s.heap) :
    ∃ (fp : List Addr) (P : Nat → Value → Prop) (St : Nat → Heap → Prop), Draws X.prog X.w A it fp xs.length P St ∧ St i s.heap ∧ it ∈ fp ∧ (∀ c, c ∈ fp → c = it ∨ u = .ref c) ∧ (∀ j h', St j h' → ItS k.ty u it j h') ∧ ∀ v, P i v → ∃ x, xs[i]? = some x ∧ RelV x v := by
  cases k with
  | l a =>
    cases r
    obtain ⟨its, rv, p, _⟩ := I.list (show SqL X.K H a xs from ha)
    have e : xs.length = its.toArray.size := by rw [rv.length]; simp
    rw [e]
    refine ⟨_, _, _, Draws.list hh it a (hne a rfl) its.toArray, ⟨st, p.isList⟩, by simp, fun c hc => fpc (by simpa using hc), fun j h' q => q.1, fun v hv => ?_⟩
    exact vals_back rv (by simpa using hv)
  | t a =>
    cases r
    obtain ⟨its, rv, p, _⟩ := I.tuple (show SqT X.K H a xs from ha)
    have e : xs.length = its.toArray.size := by rw [rv.length]; simp
    rw [e]
    refine ⟨_, _, _, draws_tuple hh it a (hne a rfl) its.toArray, ⟨st, p⟩, by simp, fun c hc => fpc (by simpa using hc), fun j h' q => q.1, fun v hv => ?_⟩
    exact vals_back rv (by simpa using hv)
  | s x =>
    obtain ⟨tk, r⟩ := (show ∃ t, u = Value.str x t from r)
    subst r
    have hx : xs = x.cps.toList.map fun c => V.str ⟨#[c]⟩ := ha
    have e : xs.length = x.cps.size := by rw [hx]; simp
    rw [e]
    have fin : ∀ v, (∃ c u, x.cps[i]? = some c ∧ v = Value.str ⟨#[c]⟩ u) → ∃ y, xs[i]? = some y ∧ RelV y v := by
      rintro v ⟨c, u, hc, rfl⟩
      exact ⟨.str ⟨#[c]⟩, by rw [hx]; simp [hc], ⟨u, rfl⟩⟩
    cases hA : x.cps.all (· < 128)
    · have et : strIterType x = "str_iterator" := by simp [strIterType, hA]
      have st' : ItS (strIterType x) _ it i s.heap := st
      simp only [Sk.ty]
      rw [et] at st' ⊢
      exact ⟨_, _, _, Draws.strWide hh it x _, st', by simp, fun c hc => by simpa using hc, fun j h' q => q, fin⟩
    · have et : strIterType x = "str_ascii_iterator" := by simp [strIterType, hA]
      have st' : ItS (strIterType x) _ it i s.heap := st
      simp only [Sk.ty]
      rw [et] at st' ⊢
      exact ⟨_, _, _, Draws.strAscii hh it x _, st', by simp, fun c hc => by simpa using hc, fun j h' q => q, fin⟩

def ItG (K : PySem.W.Frag) (k1 k2 : Sk) : It :=
  ⟨fun i H => ∃ (xs ys : List V) (x y : V), k1.at K H xs ∧ k2.at K H ys ∧ xs[i]? = some x ∧ ys[i]? = some y,
    fun i H v H' => ∃ T x y, v = .ref T ∧ H T = none ∧ H' = upd H T (.tup [x, y]) ∧ (∀ xs, k1.at K H xs → xs[i]? = some x) ∧ ∀ ys, k2.at K H ys → ys[i]? = some y,
    fun i H => ∃ xs ys : List V, k1.at K H xs ∧ k2.at K H ys ∧ i = min xs.length ys.length⟩
theorem at_inj {X : Cx} {pins : List (Addr × Obj)} {σ : L2.St} {H : Hp} {s : Shared} (I : Inv X pins σ H s) : ∀ {k : Sk} {xs ys : List V}, k.at X.K H xs → k.at X.K H ys → xs = ys
  | .l _, _, _, h, h' => I.list_inj h h'
  | .t _, _, _, h, h' => I.tuple_inj h h'
  | .s _, _, _, h, h' => h.trans h'.symm
theorem sep_of {B : Nat} {u1 u2 : Value} {fp1 fp2 : List Addr} (h1 : ∀ a, u1 = .ref a → a < B) (h2 : ∀ a, u2 = .ref a → a < B) (m1 : B ∈ fp1) (m2 : B + 1 ∈ fp2) (f1 : ∀ c, c ∈ fp1 → c = B ∨ u1 = .ref c) (f2 : ∀ c, c ∈ fp2 → c = B + 1 ∨ u2 = .ref c) :
    ZipSep2 (B + 4) (B + 2) (B + 3) B (B + 1) fp1 fp2 := by
  have q1 : ∀ c, c ∈ fp1 → c = B ∨ c < B := fun c hc => (f1 c hc).imp_right fun e => h1 c e
  have q2 : ∀ c, c ∈ fp2 → c = B + 1 ∨ c < B := fun c hc => (f2 c hc).imp_right fun e => h2 c e
  have ne : ∀ (a b : Nat), a ≠ b → ((a : Addr) ≠ b) := fun _ _ h => h
  refine ⟨ne _ _ (by omega), ne _ _ (by omega), ne _ _ (by omega), ne _ _ (by omega), m1, fun h => ?_, fun h => ?_, ne _ _ (by omega), m2, fun h => ?_, fun h => ?_, fun h => ?_, fun h => ?_⟩
  · rcases q1 _ h with z | z
    · exact absurd z (ne _ _ (by omega))
    · exact absurd (show (B + 4 : Nat) < B from z) (by omega)
  · rcases q1 _ h with z | z
    · exact absurd z (ne _ _ (by omega))
    · exact absurd (show (B + 3 : Nat) < B from z) (by omega)
  · rcases q2 _ h with z | z
    · exact absurd z (ne _ _ (by omega))
    · exact absurd (show (B + 4 : Nat) < B from z) (by omega)
  · rcases q2 _ h with z | z
    · exact absurd z (ne _ _ (by omega))
    · exact absurd (show (B + 3 : Nat) < B from z) (by omega)
  · rcases q2 _ h with z | z
    · exact absurd z (ne _ _ (by omega))
    · exact absurd (show (B : Nat) < B from z) (by omega)
  · rcases q1 _ h with z | z
    · exact absurd z (ne _ _ (by omega))
    · exact absurd (show (B + 1 : Nat) < B from z) (by omega)
theorem turn_zipG {P : Program} {w : World} {K : PySem.W.Frag} {elts : List Expr} {kk : Nat} {tpos : Pos} {k1 k2 : Sk} {u1 u2 : Value} {B : Nat} (r1 : RelV k1.val u1) (r2 : RelV k2.val u2) (h1 : ∀ a, u1 = .ref a → a < B) (h2 : ∀ a, u2 = .ref a → a < B) :
    Turn P w K (.Tuple elts kk tpos) (ItG K k1 k2) [B + 4, B + 2, B + 3, B, B + 1] (B + 4) (fun i h => IsZip h (B + 4) (B + 2) (B + 3) .none ∧ IsPair h (B + 2) (.ref B) (.ref (B + 1)) ∧ (∃ x y, IsPair h (B + 3) x y) ∧ ItS k1.ty u1 B i h ∧ ItS k2.ty u2 (B + 1) i h) where
  mem := by simp
  obj := fun i h st c hc => by
    obtain ⟨hz, hTI, ⟨x, y, hTO⟩, ⟨o1, e1, _, d1⟩, ⟨o2, e2, _, d2⟩⟩ := st
    have e' : c = B + 4 ∨ c = B + 2 ∨ c = B + 3 ∨ c = B ∨ c = B + 1 := by simpa using hc
    rcases e' with q | q | q | q | q
    · rw [q]; exact ⟨_, hz, fun v q => nomatch q⟩
    · rw [q]; exact ⟨_, hTI, fun v q => nomatch q⟩
    · rw [q]; exact ⟨_, hTO, fun v q => nomatch q⟩
    · rw [q]; exact ⟨o1, e1, fun v q => by rw [d1] at q; cases q⟩
    · rw [q]; exact ⟨o2, e2, fun v q => by rw [d2] at q; cases q⟩
  keep := fun i h h' st k => by
    obtain ⟨hz, hTI, ⟨x, y, hTO⟩, h1, h2⟩ := st
    exact ⟨k (B + 4) (by simp) _ hz, k (B + 2) (by simp) _ hTI, ⟨x, y, k (B + 3) (by simp) _ hTO⟩, h1.at fun o q => k B (by simp) o q, h2.at fun o q => k (B + 1) (by simp) o q⟩
  item := by
    intro X hP hw hK hc i pins s σ H E I hf st hg
    subst hP hw hK
    obtain ⟨hz, hTI, ⟨x0, y0, hTO⟩, s1, s2⟩ := st
    obtain ⟨xs, ys, x, y, hqx, hqy, hx, hy⟩ := hg
    obtain ⟨fp1, P1, St1, D1, t1, m1, f1, b1, v1⟩ := draws_of (A := X.A.in1) (show X.A.in1.handled = none from I.ok.hd hc) I hqx r1 (fun a e => Nat.ne_of_lt (h1 a e)) s1
    obtain ⟨fp2, P2, St2, D2, t2, m2, f2, b2, v2⟩ := draws_of (A := X.A.in1) (show X.A.in1.handled = none from I.ok.hd hc) I hqy r2 (fun a e => Nat.ne_of_lt (Nat.lt_succ_of_lt (h2 a e))) s2
    have S := sep_of h1 h2 m1 m2 f1 f2
    have hzl : B + 4 < s.heap.objs.size := Heap.lt_size hz
    refine wpAny_pyNext_zipD2_item S D1 D2 hz hTI hTO t1 t2 (List.getElem?_eq_some_iff.mp hx).1 (List.getElem?_eq_some_iff.mp hy).1 fun w1 w2 h' tk p1 p2 z' TO' d1 d2 hT hsz hk => ?_
    obtain ⟨x', ex, rx⟩ := v1 w1 p1
    obtain ⟨y', ey, ry⟩ := v2 w2 p2
    have ex' : x = x' := Option.some.inj (hx.symm.trans ex)
    have ey' : y = y' := Option.some.inj (hy.symm.trans ey)
    subst ex' ey'
    refine ⟨_, rfl, wpAny_letOwnedTupleGo_zip (s := { s with heap := h', toks := tk }) z' fun h'' z'' sb => ?_⟩
    have hT2 : h''.get? s.heap.objs.size = some { cls := .type "tuple", data := .seq #[w1, w2] } := (sb.2 _ (Nat.ne_of_gt hzl)).trans hT
    have new : ObjOk X.prog X.w (upd H s.heap.objs.size (.tup [x, y])) h'' s.heap.objs.size (.tup [x, y]) :=
      ⟨by show 2 ≤ sizeLine; decide, [w1, w2], .cons rx (.cons ry .nil), ⟨_, hT2, rfl, _, rfl⟩⟩
    have I1 : Inv X pins σ (upd H s.heap.objs.size (.tup [x, y])) { s with heap := h'', toks := tk } :=
      I.turnedNew (t' := tk) (ch := [B + 4, B + 2, B + 3, B, B + 1]) (fun c o hb q => (sb.2 c (fun q' => hb (by simp [q']))).trans (hk c o (fun q' => hb (by simp [q'])) (fun q' => hb (by simp [q'])) (fun q' => hb (by simp [q'])) (fun q' => hb (by simp [q'])) q)) hf (Nat.le_refl _) new
    have ne : ∀ (a b : Nat), a ≠ b → ((a : Addr) ≠ b) := fun _ _ h => h
    refine ⟨.ref s.heap.objs.size, _, I1, rfl, ⟨_, x, y, rfl, I.hok.fresh (Nat.le_refl _), rfl, fun l hl => by rw [at_inj I hl hqx]; exact hx, fun l hl => by rw [at_inj I hl hqy]; exact hy⟩, ⟨z'', ?_, ⟨w1, w2, ?_⟩, ?_, ?_⟩, fun c hcm => ?_⟩
    · exact (sb.2 _ S.TIz).trans (hk _ _ S.TIz S.TITO S.TIi1 S.TIi2 hTI)
    · exact (sb.2 _ S.TOz).trans TO'
    · exact (b1 _ _ d1).at fun o q => (sb.2 _ (ne _ _ (by omega))).trans q
    · exact (b2 _ _ d2).at fun o q => (sb.2 _ (ne _ _ (by omega))).trans q
    · have hlt : c < s.heap.objs.size := by
        have e' : c = B + 4 ∨ c = B + 2 ∨ c = B + 3 ∨ c = B ∨ c = B + 1 := by simpa using hcm
        rcases e' with q | q | q | q | q
        · rw [q]; exact hzl
        · rw [q]; exact Heap.lt_size hTI
        · rw [q]; exact Heap.lt_size hTO
        · rw [q]; obtain ⟨_, e1, _⟩ := s1; exact Heap.lt_size e1
        · rw [q]; obtain ⟨_, e2, _⟩ := s2; exact Heap.lt_size e2
      rw [upd_ne (Nat.ne_of_lt hlt)]
      exact (hf c hcm).1
  done := by
    intro X hP hw hK hc i pins s σ H E I hf st hg
    subst hP hw hK
    obtain ⟨hz, hTI, ⟨x0, y0, hTO⟩, s1, s2⟩ := st
    obtain ⟨xs, ys, hqx, hqy, hend⟩ := hg
    obtain ⟨fp1, P1, St1, D1, t1, m1, f1, b1, v1⟩ := draws_of (A := X.A.in1) (show X.A.in1.handled = none from I.ok.hd hc) I hqx r1 (fun a e => Nat.ne_of_lt (h1 a e)) s1
    obtain ⟨fp2, P2, St2, D2, t2, m2, f2, b2, v2⟩ := draws_of (A := X.A.in1) (show X.A.in1.handled = none from I.ok.hd hc) I hqy r2 (fun a e => Nat.ne_of_lt (Nat.lt_succ_of_lt (h2 a e))) s2
    have S := sep_of h1 h2 m1 m2 f1 f2
    refine wpAny_pyNext_zipD2_end S D1 D2 hz hTI hTO t1 t2 (by rw [hend]; exact Nat.min_le_left _ _) (by rw [hend]; exact Nat.min_le_right _ _) (by rw [hend]; omega) fun h' tk hk => ⟨rfl, I.turnedL (t' := tk) (ch := [B + 4, B + 2, B + 3, B, B + 1]) (fun c o hb q =>
      hk c o (fun q' => hb (by simp [q'])) (fun q' => hb (by simp [q'])) (fun q' => hb (by simp [q'])) (fun q' => hb (by simp [q'])) q) hf⟩
  self := fun A i s Q E st h => wpAny_pyIter_zip st.1 h
def iZipG (K : PySem.W.Frag) (ta : TA) : TI := fun σ H R => ta σ H fun vs H1 => ∃ (k1 k2 : Sk) (xs ys : List V), vs = [k1.val, k2.val] ∧ k1.at K H1 xs ∧ k2.at K H1 ys ∧ R (ItG K k1 k2) H1
theorem iterOf_of {X : Cx} {pins : List (Addr × Obj)} {σ : L2.St} {H : Hp} {s : Shared} (I : Inv X pins σ H s) {k : Sk} {xs : List V} (ha : k.at X.K H xs) {u : Value} (r : RelV k.val u) : IterOf u k.ty s.heap ∧ ∀ a, u = .ref a → a < s.heap.objs.size := by
  cases k with
  | l a =>
    cases r
    obtain ⟨its, rv, p, _⟩ := I.list (show SqL X.K H a xs from ha)
    exact ⟨.inl ⟨a, _, rfl, rfl, p.isList⟩, fun b e => by cases e; exact p.lt⟩
  | t a =>
    cases r
    obtain ⟨its, rv, p, _⟩ := I.tuple (show SqT X.K H a xs from ha)
    obtain ⟨o1, ho1, _⟩ := id p
    exact ⟨.inr (.inl ⟨a, _, rfl, rfl, p⟩), fun b e => by cases e; exact Heap.lt_size ho1⟩
  | s x =>
    obtain ⟨tk, r⟩ := (show ∃ t, u = Value.str x t from r)
    subst r
    exact ⟨.inr (.inr ⟨x, tk, rfl, rfl⟩), fun b e => by cases e⟩
theorem pi_zipG {X : Cx} {e e2 : Expr} {ta : TA} {p pos tpos : Pos} {elts : List Expr} {kk : Nat} (hg : Gl X "zip") (hm : X.mg "zip" = none) (ha : PA X [e, e2] ta)
    (hs : starEach [e, e2] X.env = (false, eval e X.env) :: starEach [e2] X.env := by rfl) (hpl : (backTo pos (starEach [e2] X.env)).any (·.1) = false := by rfl) :
    PI X (.Tuple elts kk tpos) (.Call (.Name "zip" p) [e, e2] [] pos) (iZipG X.K ta) := by
  refine ⟨fun pins s σ H R I h => ?_⟩
  refine Call_ (ld_blt I hg hm PyProof.Rows.boot_zip (PyProof.Rows.callWith_type1 (thn (ha.run pos pins s σ H _ I h) fun us s1 ⟨vs, H1, I1, r1, q1⟩ => ?_) hs hpl))
  obtain ⟨k1, k2, xs, ys, ex, hqx, hqy, q⟩ := q1
  subst ex
  cases r1 with
  | cons r rr =>
    cases rr with
    | cons r' rr =>
      cases rr
      have fresh5 : ∀ c, c ∈ [s1.heap.objs.size + 4, s1.heap.objs.size + 2, s1.heap.objs.size + 3, s1.heap.objs.size, s1.heap.objs.size + 1] → FpOk X pins H1 c := fun c hcm => by
        have e' : c = s1.heap.objs.size + 4 ∨ c = s1.heap.objs.size + 2 ∨ c = s1.heap.objs.size + 3 ∨ c = s1.heap.objs.size ∨ c = s1.heap.objs.size + 1 := by simpa using hcm
        have hle : s1.heap.objs.size ≤ c := by
          rcases e' with z | z | z | z | z
          · rw [z]; exact Nat.le_add_right _ _
          · rw [z]; exact Nat.le_add_right _ _
          · rw [z]; exact Nat.le_add_right _ _
          · rw [z]; exact Nat.le_refl _
          · rw [z]; exact Nat.le_add_right _ _
        exact I1.fpOk hle (I1.hok.fresh hle)
      obtain ⟨i1, l1⟩ := iterOf_of I1 hqx r
      obtain ⟨i2, l2⟩ := iterOf_of I1 hqy r'
      refine call_zipG i1 i2 fun h' hz hTI hTO h1 h2 hsz hk => wpAny_pyIter_zip hz ?_
      have I2 : Inv X pins σ H1 { s1 with heap := h' } := I1.kept (t' := s1.toks) hk
      exact ⟨s1.heap.objs.size + 4, [s1.heap.objs.size + 4, s1.heap.objs.size + 2, s1.heap.objs.size + 3, s1.heap.objs.size, s1.heap.objs.size + 1], _, _, H1, rfl, I2, turn_zipG r r' l1 l2, ⟨hz, hTI, ⟨_, _, hTO⟩, h1, h2⟩, fresh5, q⟩
def zipP : List PV → List PV → List PV
  | x :: xs, y :: ys => .tup [x, y] :: zipP xs ys
  | _, _ => []
theorem zipP_length : ∀ (xs ys : List PV), (zipP xs ys).length = min xs.length ys.length
  | [], ys => by simp [zipP]
  | x :: xs, [] => by simp [zipP]
  | x :: xs, y :: ys => by simp [zipP, zipP_length xs ys]
theorem zipP_get : ∀ (xs ys : List PV) (i : Nat) (p : PV), (zipP xs ys)[i]? = some p → ∃ x y, xs[i]? = some x ∧ ys[i]? = some y ∧ p = .tup [x, y]
  | [], ys, i, p, h => by simp [zipP] at h
  | x :: xs, [], i, p, h => by simp [zipP] at h
  | x :: xs, y :: ys, 0, p, h => by simp [zipP] at h; exact ⟨x, y, rfl, rfl, h.symm⟩
  | x :: xs, y :: ys, i + 1, p, h => by
    simp only [zipP, List.getElem?_cons_succ] at h ⊢
    exact zipP_get xs ys i p h
section
variable {K : PySem.W.Frag} {H : Hp} {μ : Mu} {ps qs : List PV} {vs ws : List V}
theorem sup_zipG {k1 k2 : Sk} (t1 : ∀ μ' H', Gr μ H μ' H' → k1.at K H' vs) (t2 : ∀ μ' H', Gr μ H μ' H' → k2.at K H' ws) (r : VRs K H μ ps vs) (r' : VRs K H μ qs ws) : Sup K (ItG K k1 k2) (zipP ps qs) μ H := fun μ' H' st g sr => by
  have q1 := t1 μ' H' g
  have q2 := t2 μ' H' g
  refine ⟨fun i p hp => ?_, ⟨vs, ws, q1, q2, by rw [zipP_length, VRs.length r, VRs.length r']⟩⟩
  obtain ⟨x, y, h1, h2, rfl⟩ := zipP_get _ _ _ _ hp
  obtain ⟨u, e1, f1⟩ := VRs.get (VRs.mono g ps vs r) h1
  obtain ⟨w, e2, f2⟩ := VRs.get (VRs.mono g qs ws r') h2
  refine ⟨⟨vs, ws, u, w, q1, q2, e1, e2⟩, fun z H2 hz => ?_⟩
  obtain ⟨T, x', y', ex, hT, eh, hx, hy'⟩ := hz
  subst ex eh
  have ev : u = x' := Option.some.inj (e1.symm.trans (hx vs q1))
  have ew : w = y' := Option.some.inj (e2.symm.trans (hy' ws q2))
  subst ev ew
  refine ⟨gr_new hT, sr.new hT, ?_⟩
  refine (show ∃ a zs, V.ref T = .ref a ∧ TupAt K (upd H' T (.tup [u, w])) μ' a zs ∧ VRs K (upd H' T (.tup [u, w])) μ' [x, y] zs from ⟨T, _, rfl, ?_, VRs.cons (VR.mono (gr_new hT) _ _ f1) (VRs.cons (VR.mono (gr_new hT) _ _ f2) VRs.nil)⟩)
  exact .inl ⟨upd_same, sr.free hT⟩
end
def skOf : PV → Option (List PV)
  | .tup ps => some ps
  | .lst ps => some ps
  | .frz ps => some ps
  | .str x => some (x.map fun c => .str [c])
  | _ => none
theorem VRs.chars {K : PySem.W.Frag} {H : Hp} {μ : Mu} : ∀ (x : List Nat), VRs K H μ (x.map fun c => .str [c]) (x.map fun c => V.str ⟨#[c]⟩)
  | [] => rfl
  | c :: x => VRs.cons rfl (VRs.chars x)
theorem sk_at {K : PySem.W.Frag} {H : Hp} {μ : Mu} {p : PV} {v : V} {ps : List PV} (r : VR K H μ p v) (e : skOf p = some ps) : ∃ (k : Sk) (vs : List V), v = k.val ∧ (∀ μ' H', Gr μ H μ' H' → k.at K H' vs) ∧ VRs K H μ ps vs := by
  cases p <;> simp [skOf] at e
  case str x =>
    subst e
    cases (show v = V.str ⟨x.toArray⟩ from r)
    exact ⟨.s ⟨x.toArray⟩, x.map fun c => V.str ⟨#[c]⟩, rfl, fun _ _ _ => by show _ = _; simp, VRs.chars x⟩
  case tup xs =>
    subst e
    obtain ⟨a, vs, rfl, t, rs⟩ := tup_at r
    exact ⟨.t a, vs, rfl, fun _ _ g => (t.grow g).sq, rs⟩
  case lst xs =>
    subst e
    obtain ⟨a, vs, rfl, t, rs⟩ := lst_at r
    exact ⟨.l a, vs, rfl, fun _ _ g => (t.grow g).sq, rs⟩
  case frz xs =>
    subst e
    obtain ⟨a, vs, rfl, t, rs⟩ := frz_at r
    exact ⟨.l a, vs, rfl, fun _ _ g => (t.grow g).sq, rs⟩
def zipM (xs : List PV) : M (List PV) := match xs with
  | [p, q] => match skOf p, skOf q with
    | some ps, some qs => M.ret (zipP ps qs)
    | _, _ => M.fail
  | _ => M.fail
section
variable {X : Cx} {W : WX} {e e2 : Expr} {p pos : Pos} {ma : Rho → M (List PV)}
theorem mi_zip {tpos : Pos} {elts : List Expr} {kk : Nat} (hg : Gl X "zip") (hm : X.mg "zip" = none) (ha : MA X W [e, e2] ma)
    (hs : starEach [e, e2] X.env = (false, eval e X.env) :: starEach [e2] X.env := by kernel_rfl) (hpl : (backTo pos (starEach [e2] X.env)).any (·.1) = false := by kernel_rfl) :
    MI X W (.Tuple elts kk tpos) (.Call (.Name "zip" p) [e, e2] [] pos) (iCall zipM ma) :=
  PI.imp (pi_zipG hg hm ha hs hpl) fun σ H R ⟨μ, st, ρ, er, sr, h⟩ => ⟨μ, st, ρ, er, sr, (PostG.bind h).mono fun us H1 ⟨μ1, st1, xs, g1, s1, rxs, h1⟩ => by
    unfold zipM at h1
    split at h1
    · rename_i p q
      cases e1 : skOf p with
      | none => rw [e1] at h1; exact h1.elim
      | some ps =>
        cases e2 : skOf q with
        | none => rw [e1, e2] at h1; exact h1.elim
        | some qs =>
          rw [e1, e2] at h1
          obtain ⟨u, w, rfl, ru, rw'⟩ := two_of rxs
          obtain ⟨k1, vs, rfl, t1, r1⟩ := sk_at ru e1
          obtain ⟨k2, ws, rfl, t2, r2⟩ := sk_at rw' e2
          exact ⟨k1, k2, vs, ws, rfl, t1 _ _ (Gr.refl _ _), t2 _ _ (Gr.refl _ _), h1 μ1 H1 _ (Gr.refl _ _) s1 (sup_zipG t1 t2 r1 r2)⟩
    · exact h1.elim⟩
end
theorem fnOk_no {P : Program} {w : World} {K : PySem.W.Frag} {mg : Str → Option Value} {base : Heap} {k : Nat} {f : Addr} {fd : FuncData} {ps : List Str} {nn : Nat} : FnOk P w K mg base (L2.CX P w) k f fd ps (spM K (fun _ => M.fail) nn) :=
  ⟨fun vs H Q E h => let ⟨_, _, _, _, _, _, h⟩ := h; h.elim, fun _ _ _ _ _ _ _ _ _ _ _ _ _ h => let ⟨_, _, _, _, _, _, h⟩ := h; h.elim⟩
section
variable {X : Cx} {W : WX} {pos : Pos}
theorem me_call0 {x : Str} {f : Addr} {fd : FuncData} {ps : List Str} {k : Nat} {p : Pos} {mf : List PV → M PV} (F : FnOk X.prog X.w X.K X.mg X.base (L2.CX X.prog X.w) k f fd ps (spM X.K mf 0)) (hr : Room k X.A) (hg : Gl X x) (hm : X.mg x = some (.ref f))
    (hk : PySem.W.keepIn X.K (.ref f) = true) (hb : Binds X.K fd ps []) (tk : Takes X W) (hdb : (x == ("__debug__" : Str)) = false := by kernel_rfl) :
    ME X W (.Call (.Name x p) [] [] pos) (eCall mf aNil) := by
  refine PE.imp (t := fun σ H Q => spM X.K mf 0 [] H Q (WE W σ)) ⟨fun pins s σ H Q I h => ?_⟩ fun σ H Q ⟨μ, st, ρ, er, sr, h⟩ => ⟨μ, st, [], sr, VRs.nil, rfl, h⟩
  refine wpAny_Call_Name_kw (ld_glob I hg hm ?_ hdb)
  exact PySem.W.callWith_K0 I.kIn hk (run_fnSD (us := []) (vs := []) (dvs := []) (ds := []) (E := WE W) F hr hb .nil (passAt tk σ) I .nil h)
end
end MP

set_option maxRecDepth 100000
set_option maxHeartbeats 1000000
namespace MP
open PySem L2
def forG (G : Sto → Bool) (g : GM) (b : Rho → M Fl) : List PV → Rho → M Fl
  | [], ρ => fun st => if G st = true then .ok (.next ρ) st else .bad
  | p :: ps, ρ => fun st => if G st = true then onErr ρ (g p ρ) (fun ρ1 => turnL (forG G g b ps) (b ρ1)) st else .bad
def SupG (K : PySem.W.Frag) (J : It) (ps : List PV) (G : Sto → Bool) (μ0 : Mu) (H0 : Hp) : Prop :=
  ∀ μ H st, Gr μ0 H0 μ H → SR K μ st H → G st = true → (∀ (i : Nat) (p : PV), ps[i]? = some p → J.go i H ∧ ∀ x H', J.yld i H x H' → Gr μ H μ H' ∧ SR K μ st H' ∧ VR K H' μ p x) ∧ J.stop ps.length H
theorem PostS.ifG {K : PySem.W.Frag} {W : WX} {D : Ends} {μ : Mu} {H : Hp} {c : Bool} {r : Res Fl} (h : PostS K W D μ H (if c = true then r else .bad)) : c = true ∧ PostS K W D μ H r := by
  cases c with
  | true => exact ⟨rfl, h⟩
  | false => exact h.elim
theorem PostG.ifG {α β : Type} {K : PySem.W.Frag} {E : XK} {R : Hp → Mu → α → β → Prop} {Q : β → Hp → Prop} {μ : Mu} {H : Hp} {c : Bool} {r : Res α} (h : PostG K E R Q μ H (if c = true then r else .bad)) : c = true ∧ PostG K E R Q μ H r := by
  cases c with
  | true => exact ⟨rfl, h⟩
  | false => exact h.elim
theorem for_impG {K : PySem.W.Frag} {W : WX} {D : Ends} {J : It} {ps : List PV} {G : Sto → Bool} {g : GM} {b : Rho → M Fl} {μ : Mu} {H : Hp} {σ : St} {ρ : Rho} {st : Sto} (su : SupG K J ps G μ H) (er : ER K H μ ρ σ) (sr : SR K μ st H) (h : PostS K W D μ H (forG G g b ps ρ st)) :
    ∃ V : Nat → Nat → St → Hp → Prop, (∃ m, V 0 m σ H) ∧ ∀ i m σ H, V i m σ H →
      (J.stop i H ∧ D.nx σ H) ∨ (J.go i H ∧ ∃ N : St → Hp → Prop, (∀ σ' H', N σ' H' → ∃ m', m' < m ∧ V (i + 1) m' σ' H') ∧ ∀ x H', J.yld i H x H' → tMG K W g x σ H' fun σ2 H2 => tMS K W b { D with nx := N, ct := N, bk := D.nx } σ2 H2) := by
  refine ⟨fun i m σ' H' => m = ps.length - i ∧ i ≤ ps.length ∧ ∃ μ' st' ρ', Gr μ H μ' H' ∧ ER K H' μ' ρ' σ' ∧ SR K μ' st' H' ∧ PostS K W D μ' H' (forG G g b (ps.drop i) ρ' st'), ⟨ps.length, by simp, Nat.zero_le _, μ, st, ρ, Gr.refl _ _, er, sr, by rw [List.drop_zero]; exact h⟩, ?_⟩
  rintro i m σ1 H1 ⟨rfl, hi, μ1, st1, ρ1, g1, e1, s1, h1⟩
  by_cases hlt : i < ps.length
  · have hp : ps[i]? = some ps[i] := by simp [hlt]
    rw [List.drop_eq_getElem_cons hlt] at h1
    unfold forG at h1
    obtain ⟨hG, h1⟩ := PostS.ifG h1
    obtain ⟨go, yl⟩ := (su μ1 H1 st1 g1 s1 hG).1 i ps[i] hp
    refine .inr ⟨go, fun σ' H' => ∃ μ' st' ρ', Gr μ H μ' H' ∧ ER K H' μ' ρ' σ' ∧ SR K μ' st' H' ∧ PostS K W D μ' H' (forG G g b (ps.drop (i + 1)) ρ' st'), fun σ' H' q => ⟨ps.length - (i + 1), by omega, rfl, hlt, q⟩, fun x H' y => ?_⟩
    obtain ⟨g2, s2, rx⟩ := yl x H' y
    refine ⟨μ1, st1, ρ1, ps[i], e1.mono g2, s2, rx, (PostS.onErr (PostS.grow h1 g2) (e1.mono g2)).mono fun σ3 H3 ⟨μ3, st3, ρ3, g3, s3, e3, h3⟩ => ⟨μ3, st3, ρ3, e3, s3, ?_⟩⟩
    have gg := (g1.trans g2 fun a m => (s2.ban a m).1).trans g3 fun a m => (s3.ban a m).1
    unfold turnL at h3
    cases q : b ρ3 st3 with
    | ok f st' =>
      rw [q] at h3
      cases f with
      | next ρ' => exact fun μ' H' σ' g4 s4 e4 => ⟨μ', st', ρ', gg.trans g4 (fun a m => (s4.ban a m).1), e4, s4, PostS.grow h3 g4⟩
      | cont ρ' => exact fun μ' H' σ' g4 s4 e4 => ⟨μ', st', ρ', gg.trans g4 (fun a m => (s4.ban a m).1), e4, s4, PostS.grow h3 g4⟩
      | brk ρ' => exact h3
      | ret p => exact h3
      | exc x ρ' => exact h3
    | err x st' => rw [q] at h3; exact h3
    | bad => rw [q] at h3; exact h3
  · have e : i = ps.length := by omega
    subst e
    rw [List.drop_length] at h1
    unfold forG at h1
    obtain ⟨hG, h1⟩ := PostS.ifG h1
    exact .inl ⟨(su μ1 H1 st1 g1 s1 hG).2, h1 μ1 H1 σ1 (Gr.refl _ _) s1 e1⟩
def gd (n : Nat) (xs : List PV) (st : Sto) : Bool := match st[n]? with
  | some (.lst ys) => decide (ys = xs)
  | _ => false
def atCell (v : PV) : M (Nat × List PV) := fun st => match v with
  | .loc n => match st[n]? with
    | some (.lst xs) => .ok (n, xs) st
    | _ => .bad
  | _ => .bad
def iCell (m : Rho → M PV) : Rho → M (Nat × List PV) := fun ρ => M.bind (m ρ) atCell
def tMIC (K : PySem.W.Frag) (W : WX) (f : List PV → List PV) (m : Rho → M (Nat × List PV)) : TI := fun σ H R => ∃ μ st ρ, ER K H μ ρ σ ∧ SR K μ st H ∧ PostG K (fun c d H' => W c d σ H') (fun H μ nx (J : It) => SupG K J (f nx.2) (gd nx.1 nx.2) μ H) R μ H (m ρ st)
def MIC (X : Cx) (W : WX) (tg iter : Expr) (f : List PV → List PV) (m : Rho → M (Nat × List PV)) : Prop := PI X tg iter (tMIC X.K W f m)
def enumP (xs : List PV) : List PV := xs.mapIdx fun i p => .tup [.int (i : Nat), p]
theorem gd_at {n : Nat} {xs : List PV} {st : Sto} (h : gd n xs st = true) : st[n]? = some (.lst xs) := by
  unfold gd at h
  split at h
  · rename_i ys e
    rw [e, of_decide_eq_true h]
  · cases h
theorem sup_cell {K : PySem.W.Frag} {H : Hp} {μ : Mu} {a : Addr} {n : Nat} {xs : List PV} (ha : μ.l[n]? = some a) : SupG K (Itl K a) xs (gd n xs) μ H := fun μ' H' st g sr hG => by
  obtain ⟨vs, q0, r⟩ := sr.cell n _ a (gd_at hG) (g.get ha)
  have q : SqL K H' a vs := SqL.of q0
  refine ⟨fun i p hp => ?_, ⟨vs, q, by rw [VRs.length r]; exact Nat.le_refl _⟩⟩
  obtain ⟨v, e1, e2⟩ := VRs.get r hp
  refine ⟨⟨vs, v, q, e1⟩, fun x H2 ⟨eh, y⟩ => ?_⟩
  subst eh
  have ex : v = x := Option.some.inj (e1.symm.trans (y vs q))
  subst ex
  exact ⟨Gr.refl _ _, sr, e2⟩
theorem PostG.tieA {K : PySem.W.Frag} {E : XK} {Q : V → Hp → Prop} {Q' : List V → Hp → Prop} {μ : Mu} {H : Hp} {m : M PV} {st : Sto} (h : PostG K E (VR K) Q μ H (m st)) (i : ∀ u H1, Q u H1 → Q' [u] H1) : PostG K E (VRs K) Q' μ H (M.bind m (fun x => M.bind (M.ret []) fun xs => M.ret (x :: xs)) st) := by
  unfold M.bind
  cases q : m st with
  | ok a s' =>
    rw [q] at h
    intro μ1 H1 us g s r
    obtain ⟨u, rfl, ru⟩ := one_of r
    exact i _ _ (h μ1 H1 u g s ru)
  | err x s' => rw [q] at h; exact h
  | bad => rw [q] at h; exact h.elim
section
variable {X : Cx} {W : WX} {tg e : Expr} {me : Rho → M PV}
theorem mic_cell (he : ME X W e me) : MIC X W tg e id (iCell me) := PI.imp (pi_list he) fun σ H R ⟨μ, st, ρ, er, sr, h⟩ => ⟨μ, st, ρ, er, sr, (PostG.bind h).mono fun u H1 ⟨μ1, st1, v, g1, s1, rv, h1⟩ => by
  unfold atCell at h1
  cases v with
  | loc n =>
    dsimp only at h1
    cases q : st1[n]? with
    | none => rw [q] at h1; exact h1.elim
    | some c =>
      rw [q] at h1
      cases c with
      | lst xs =>
        obtain ⟨a, rfl, ha⟩ := loc_at rv
        obtain ⟨vs, q0, r⟩ := s1.cell n _ a q ha
        exact ⟨a, rfl, ⟨vs, SqL.of q0⟩, h1 μ1 H1 _ (Gr.refl _ _) s1 (sup_cell ha)⟩
      | dct kvs => exact h1.elim
      | ins C fs => exact h1.elim
  | _ => exact h1.elim⟩
theorem sup_cellE {K : PySem.W.Frag} {H : Hp} {μ : Mu} {a : Addr} {n : Nat} {xs : List PV} (ha : μ.l[n]? = some a) : SupG K (Ite K a) (enumP xs) (gd n xs) μ H := fun μ' H' st g sr hG => by
  obtain ⟨vs, q0, r⟩ := sr.cell n _ a (gd_at hG) (g.get ha)
  have q : SqL K H' a vs := SqL.of q0
  refine ⟨fun i p hp => ?_, ⟨vs, q, by unfold enumP; rw [List.length_mapIdx, VRs.length r]; exact Nat.le_refl _⟩⟩
  unfold enumP at hp
  rw [List.getElem?_mapIdx] at hp
  cases hq : xs[i]? with
  | none => rw [hq] at hp; cases hp
  | some p0 =>
    rw [hq] at hp
    cases hp
    obtain ⟨v, e1, e2⟩ := VRs.get r hq
    refine ⟨⟨vs, v, q, e1⟩, fun x H2 ⟨T, y, ex, hT, eh, hy⟩ => ?_⟩
    subst ex eh
    have ev : v = y := Option.some.inj (e1.symm.trans (hy vs q))
    subst ev
    refine ⟨gr_new hT, sr.new hT, ?_⟩
    refine (show ∃ a ws, V.ref T = .ref a ∧ TupAt K (upd H' T (.tup [.int (i : Nat), v])) μ' a ws ∧ VRs K (upd H' T (.tup [.int (i : Nat), v])) μ' [.int (i : Nat), p0] ws from ⟨T, _, rfl, ?_, VRs.cons rfl (VRs.cons (VR.mono (gr_new hT) _ _ e2) VRs.nil)⟩)
    exact .inl ⟨upd_same, sr.free hT⟩
theorem mic_enum {p pos tpos : Pos} {elts : List Expr} {kk : Nat} (hg : Gl X "enumerate") (hm : X.mg "enumerate" = none) (he : ME X W e me) (hs : starEach [e] X.env = [(false, eval e X.env)] := by kernel_rfl) :
    MIC X W (.Tuple elts kk tpos) (.Call (.Name "enumerate" p) [e] [] pos) enumP (iCell me) := PI.imp (pi_enum hg hm (ma_cons he ma_nil hs) hs) fun σ H R ⟨μ, st, ρ, er, sr, h⟩ => ⟨μ, st, ρ, er, sr, by
  have h0 := (PostG.bind (R' := VR X.K) h)
  unfold aCons
  refine PostG.tieA h0 fun u H1 ⟨μ1, st1, v, g1, s1, rv, h1⟩ => ?_
  unfold atCell at h1
  cases v with
  | loc n =>
    dsimp only at h1
    cases q : st1[n]? with
    | none => rw [q] at h1; exact h1.elim
    | some c =>
      rw [q] at h1
      cases c with
      | lst xs =>
        obtain ⟨a, rfl, ha⟩ := loc_at rv
        obtain ⟨vs, q0, r⟩ := s1.cell n _ a q ha
        exact ⟨a, vs, rfl, SqL.of q0, h1 μ1 H1 _ (Gr.refl _ _) s1 (sup_cellE ha)⟩
      | dct kvs => exact h1.elim
      | ins C fs => exact h1.elim
  | _ => exact h1.elim⟩
variable {pos : Pos} {m : Rho → M Fl}
def sForC (f : List PV → List PV) (mi : Rho → M (Nat × List PV)) (g : GM) (b : Rho → M Fl) : Rho → M Fl := fun ρ => onErr ρ (mi ρ) fun nx => forG (gd nx.1 nx.2) g b (f nx.2) ρ
theorem ms_forC {f : List PV → List PV} {iter : Expr} {body : List Stmt} {mi : Rho → M (Nat × List PV)} {g : GM} (hp : PassesOwn (model X.prog X.w) X.A X.env X.xe) (hc : X.calm = true) (hi : MIC X W tg iter f mi) (hg : MG X W tg g) (hb : MSs X W body m)
    (hs : ∀ x, foldedSetIterable iter X.env x = pure x := by intro _; kernel_rfl) : MS X W (.For tg iter body [] pos) (sForC f mi g m) :=
  PS.imp (ps_for hp hc hi hg hb hs) fun D σ H ⟨μ, st, ρ, er, sr, h⟩ => ⟨μ, st, ρ, er, sr, (PostS.onErr h er).mono fun J H1 ⟨μ1, st1, nx, g1, s1, su, h1⟩ => for_impG su (er.mono g1) s1 h1⟩
end
def lcG (G : Sto → Bool) (g : GM) (t : Rho → M Bool) (e : Rho → M PV) (ρ0 : Rho) : List PV → List PV → M (List PV)
  | [], acc => fun st => if G st = true then .ok acc st else .bad
  | p :: ps, acc => fun st => if G st = true then (M.bind (M.calm (g p ρ0)) fun ρ1 => M.bind (M.calm (t ρ1)) fun c => if c = true then M.bind (M.calm (e ρ1)) fun y => if acc.length < SZ then lcG G g t e ρ0 ps (acc ++ [y]) else M.fail else lcG G g t e ρ0 ps acc) st else .bad
theorem bind_ifG {α β : Type} {G : Sto → Bool} {m : M α} {k : α → M β} : M.bind (fun st => if G st = true then m st else .bad) k = fun st => if G st = true then M.bind m k st else .bad := by
  funext st
  unfold M.bind
  dsimp only
  cases G st <;> rfl
theorem lc_impG {K : PySem.W.Frag} {E : XK} {Q : VK} {J : It} {ps : List PV} {G : Sto → Bool} {g0 : TG} {g : GM} {t : Rho → M Bool} {e : Rho → M PV} {k : List PV → M PV} {vs : List Nat} {μ : Mu} {H : Hp} {σ : St} {ρ : Rho} {st : Sto} {D : Addr} (su : SupG K J ps G μ H) (er : ER K H μ ρ σ) (sr : SR K μ st H) (tg : TGo K vs g0 g) (le : LcEnd K k)
    (hD : H D = none) (h : PostG K E (VR K) Q μ H (M.bind (lcG G g t e (wipeP ρ vs) ps []) k st)) :
    ∃ V : Nat → Nat → Hp → Prop, (∃ m, V 0 m (upd H D (.lst []))) ∧ ∀ i m H, V i m H →
      (J.stop i H ∧ Q (.ref D) H) ∨ (J.go i H ∧ ∃ Nx : Hp → Prop, (∀ H', Nx H' → ∃ m', m' < m ∧ V (i + 1) m' H') ∧ ∀ x H', J.yld i H x H' → g0 x (L2.wipe σ vs) H' fun σ2 H2 => L2.wipe σ2 vs = L2.wipe σ vs ∧ tMT K W0 t σ2 H2 fun b H3 =>
        if b = true then tM K W0 e σ2 H3 fun y H4 => ∃ acc, H4 D = some (.lst acc) ∧ acc.length < sizeLine ∧ Nx (upd H4 D (.lst (acc ++ [y]))) else Nx H3) := by
  let P : Nat → Hp → Prop := fun i H' => ∃ μ' st' acc va, Gr μ H μ' H' ∧ SR K μ' st' H' ∧ D ∈ μ'.b ∧ H' D = some (.lst va) ∧ VRs K H' μ' acc va ∧ PostG K E (VR K) Q μ H (M.bind (lcG G g t e (wipeP ρ vs) (ps.drop i) acc) k st')
  refine ⟨fun i m H' => m = ps.length - i ∧ i ≤ ps.length ∧ P i H', ⟨ps.length, by simp, Nat.zero_le _, ?_⟩, ?_⟩
  · have gb : Gr μ H (μ.bar D) (upd H D (.lst [])) := ⟨⟨[], by simp [Mu.bar]⟩, fun a m => List.mem_cons_of_mem _ m, fun a m => by
      rcases List.mem_cons.mp m with z | z
      · rw [z]; exact .inr hD
      · exact .inl z, fun a m => .inl m, fun a o q _ => by rw [upd_ne (ne_of_none q hD)]; exact q⟩
    refine ⟨μ.bar D, st, [], [], gb, ?_, List.mem_cons_self, upd_same, rfl, by rw [List.drop_zero]; exact h⟩
    refine ⟨sr.len, sr.nd, fun a m => ?_, fun n c a e1 e2 => (sr.cell n c a e1 e2).mono gb (upd_ne fun z => ?_)⟩
    · rcases List.mem_cons.mp m with z | z
      · subst z
        exact ⟨fun q => sr.free hD (.inl q), _, upd_same⟩
      · obtain ⟨n1, o, q⟩ := sr.ban a z
        exact ⟨n1, o, by rw [upd_ne (ne_of_none q hD)]; exact q⟩
    · obtain ⟨u, q⟩ := (sr.cell n c a e1 e2).has
      rw [z, hD] at q; cases q
  · rintro i m H1 ⟨rfl, hi, μ1, st1, acc, va, g1, s1, b1, d1, r1, h1⟩
    by_cases hlt : i < ps.length
    · have hp : ps[i]? = some ps[i] := by simp [hlt]
      rw [List.drop_eq_getElem_cons hlt] at h1
      unfold lcG at h1
      rw [bind_ifG] at h1
      obtain ⟨hG, h1⟩ := PostG.ifG h1
      obtain ⟨go, yl⟩ := (su μ1 H1 st1 g1 s1 hG).1 i ps[i] hp
      refine .inr ⟨go, P (i + 1), fun H' q => ⟨ps.length - (i + 1), by omega, rfl, hlt, q⟩, fun x H2 y => ?_⟩
      obtain ⟨g2, s2, rx⟩ := yl x H2 y
      have gg2 := g1.trans g2 fun a m => (s2.ban a m).1
      rw [M.bind_assoc] at h1
      refine tg x _ H2 _ μ1 st1 _ ps[i] ((er.mono gg2).wipe vs) s2 rx ((PostG.calm (PostG.bindAt h1 gg2)).mono fun σ3 H3 ⟨μ3, st3, ρ3, g3, s3, ⟨e3, w3⟩, h3⟩ => ⟨w3.trans (wipe_wipe fun _ z => z), ?_⟩)
      have gg3 := gg2.trans g3 fun a m => (s3.ban a m).1
      rw [M.bind_assoc] at h3
      refine ⟨μ3, st3, ρ3, e3, s3, (PostG.calm (PostG.bindAt h3 gg3)).mono fun c H4 ⟨μ4, st4, c', g4, s4, ec, h4⟩ => ?_⟩
      subst ec
      have gg4 := gg3.trans g4 fun a m => (s4.ban a m).1
      have keepD : ∀ {μa μb : Mu} {Ha Hb : Hp} {sa : Sto} {w : List V}, Gr μa Ha μb Hb → SR K μa sa Ha → D ∈ μa.b → Ha D = some (.lst w) → Hb D = some (.lst w) := fun g s m q => g.keep D _ q (s.ban D m).1
      have d2 := keepD g2 s1 b1 d1
      have b2 := g2.ban D b1
      have d3 := keepD g3 s2 b2 d2
      have b3 := g3.ban D b2
      have d4 := keepD g4 s3 b3 d3
      have b4 := g4.ban D b3
      have r4 : VRs K H4 μ4 acc va := VRs.mono g4 _ _ (VRs.mono g3 _ _ (VRs.mono g2 _ _ r1))
      cases c' with
      | false =>
        rw [if_neg Bool.false_ne_true] at h4 ⊢
        exact ⟨μ4, st4, acc, va, gg4, s4, b4, d4, r4, h4⟩
      | true =>
        rw [if_pos rfl] at h4 ⊢
        rw [M.bind_assoc] at h4
        refine ⟨μ4, st4, ρ3, e3.mono g4, s4, (PostG.calm (PostG.bindAt h4 gg4)).mono fun w H5 ⟨μ5, st5, py, g5, s5, rw5, h5⟩ => ?_⟩
        have gg5 := gg4.trans g5 fun a m => (s5.ban a m).1
        have d5 := keepD g5 s4 b4 d4
        have b5 := g5.ban D b4
        have r5 : VRs K H5 μ5 acc va := VRs.mono g5 _ _ r4
        by_cases hz : acc.length < SZ
        · rw [if_pos hz] at h5
          refine ⟨va, d5, by rw [← VRs.length r5, sz_eq]; exact hz, μ5, st5, acc ++ [py], va ++ [w], ?_, sr_bar b5 s5, b5, upd_same, VRs.monov (gv_bar b5) _ _ (VRs.append r5 (VRs.cons rw5 VRs.nil)), h5⟩
          exact ⟨gg5.pre, gg5.ban, gg5.bnew, gg5.new, fun a o q n => by rw [upd_ne (ne_of_none q hD)]; exact gg5.keep a o q n⟩
        · rw [if_neg hz] at h5
          exact h5.elim
    · have ei : i = ps.length := by omega
      subst ei
      rw [List.drop_length] at h1
      unfold lcG at h1
      rw [show (fun st => if G st = true then Res.ok acc st else Res.bad) = (fun st => if G st = true then M.ret acc st else .bad) from rfl, bind_ifG] at h1
      obtain ⟨hG, h1⟩ := PostG.ifG h1
      exact .inl ⟨(su μ1 H1 st1 g1 s1 hG).2, le μ μ1 st st1 H H1 D acc va E Q sr hD g1 s1 b1 d1 r1 h1⟩
def eLcC (f : List PV → List PV) (k : List PV → M PV) (mi : Rho → M (Nat × List PV)) (g : GM) (t : Rho → M Bool) (e : Rho → M PV) (vs : List Nat) : Rho → M PV := fun ρ => M.bind (mi ρ) fun nx => M.bind (lcG (gd nx.1 nx.2) g t e (wipeP ρ vs) (f nx.2) []) k
section
variable {X : Cx} {W : WX}
theorem lc_tieC {f : List PV → List PV} {mi : Rho → M (Nat × List PV)} {g0 : TG} {g : GM} {t : Rho → M Bool} {e : Rho → M PV} {k : List PV → M PV} {vs : List Nat} (tg : TGo X.K vs g0 g) (le : LcEnd X.K k) : ∀ σ H Q, tM X.K W (eLcC f k mi g t e vs) σ H Q → tLc (tMIC X.K W f mi) g0 (tMT X.K W0 t) (tM X.K W0 e) vs σ H Q :=
  fun σ H Q ⟨μ, st, ρ, er, sr, h⟩ => ⟨μ, st, ρ, er, sr, (PostG.bind h).mono fun J H1 ⟨μ1, st1, nx, g1, s1, su, h1⟩ D hD => lc_impG su (er.mono g1) s1 tg le hD h1⟩
theorem me_lcC {f : List PV → List PV} {elt tgt iter : Expr} {ifs : List Expr} {scope : Scope} {own : List (Str × Nat)} {pos : Pos} {mi : Rho → M (Nat × List PV)} {g0 : TG} {g : GM} {t : Rho → M Bool} {e : Rho → M PV} {k : List PV → M PV} (hc : X.calm = true) (hN : X.N.Nodup) (hi : MIC X W tgt iter f mi) (ok : BlkOk X.N X.env.scope scope own) (tg : TGo X.K (own.map (·.2)) g0 g) (le : LcEnd X.K k)
    (hg : ∀ (s : Shared) (H : Hp) (C : Addr) (cl : List (Str × Addr)) (fp : List Addr), PG (X.blk s H scope (compEnvC scope cl C X.env) fp) tgt g0)
    (ht : ∀ (s : Shared) (H : Hp) (C : Addr) (cl : List (Str × Addr)) (fp : List Addr), MTs (X.blk s H scope (compEnvC scope cl C X.env) fp) W0 ifs t)
    (he : ∀ (s : Shared) (H : Hp) (C : Addr) (cl : List (Str × Addr)) (fp : List Addr), ME (X.blk s H scope (compEnvC scope cl C X.env) fp) W0 elt e) (hs : ∀ x, foldedSetIterable iter X.env x = pure x := by intro _; kernel_rfl) :
    ME X W (.ListComp elt [⟨tgt, iter, ifs, 0⟩] scope pos) (eLcC f k mi g t e (own.map (·.2))) := PE.imp (pe_lc (tt := tMT X.K W0 t) (te := tM X.K W0 e) hc hN hi ok hg ht he hs) (lc_tieC tg le)
theorem ms_setLcC {f : List PV → List PV} {i : Nat} {y : Str} {py spos : Pos} {elt tgt iter : Expr} {ifs : List Expr} {scope : Scope} {own : List (Str × Nat)} {pos : Pos} {mi : Rho → M (Nat × List PV)} {g0 : TG} {g : GM} {t : Rho → M Bool} {e : Rho → M PV} {k : List PV → M PV} (hc : X.calm = true) (hN : X.N.Nodup) (hy : X.N[i]? = some y) (hyl : X.env.scope.names.lookup y = some .local)
    (hsw : swapsWith (.ListComp elt [⟨tgt, iter, ifs, 0⟩] scope pos) (some (.Name y py)) spos.line X.env = pure true) (hi : MIC X W tgt iter f mi) (ok : BlkOk X.N X.env.scope scope own) (tg : TGo X.K (own.map (·.2)) g0 g) (le : LcEnd X.K k)
    (hg : ∀ (s : Shared) (H : Hp) (C : Addr) (cl : List (Str × Addr)) (fp : List Addr), PG (X.blk s H scope (compEnvC scope cl C X.env) fp) tgt g0)
    (ht : ∀ (s : Shared) (H : Hp) (C : Addr) (cl : List (Str × Addr)) (fp : List Addr), MTs (X.blk s H scope (compEnvC scope cl C X.env) fp) W0 ifs t)
    (he : ∀ (s : Shared) (H : Hp) (C : Addr) (cl : List (Str × Addr)) (fp : List Addr), ME (X.blk s H scope (compEnvC scope cl C X.env) fp) W0 elt e) (hs : ∀ x, foldedSetIterable iter X.env x = pure x := by intro _; kernel_rfl) :
    MS X W (.Assign [.Name y py] (.ListComp elt [⟨tgt, iter, ifs, 0⟩] scope pos) spos) (sSet i (eLcC f k mi g t e (own.map (·.2)))) := PS.imp (ps_setLc (tt := tMT X.K W0 t) (te := tM X.K W0 e) hc hN hy hyl hsw hi ok hg ht he hs) fun D σ H ⟨μ, st, ρ, er, sr, h⟩ =>
      lc_tieC tg le σ H _ ⟨μ, st, ρ, er, sr, (PostS.onErr h er).mono fun u H1 ⟨μ1, st1, x, g1, s1, rx, h1⟩ => h1 μ1 H1 _ (Gr.refl _ _) s1 ((er.mono g1).set rx i)⟩
end
end MP

set_option maxRecDepth 100000
set_option maxHeartbeats 3200000
namespace MP
open PySem L2 PySem.Spec PyProof.Rows
def ddS {κ : Type} [DecidableEq κ] (acc : List κ) (k : κ) : List κ := if k ∈ acc then acc else acc ++ [k]
def dd {κ : Type} [DecidableEq κ] (l : List κ) : List κ := l.foldl ddS []
def mem1 {κ : Type} [DecidableEq κ] (l : List κ) (k : κ) : Bool := decide (k ∈ l)
section
variable {κ : Type} [DecidableEq κ]
theorem dd_snoc (l : List κ) (k : κ) : dd (l ++ [k]) = ddS (dd l) k := by simp [dd]
theorem ddS_len (l : List κ) (k : κ) : (ddS l k).length ≤ l.length + 1 := by unfold ddS; split <;> simp
theorem dd_len (l : List κ) : (dd l).length ≤ l.length := by
  have : ∀ (l acc : List κ), (l.foldl ddS acc).length ≤ acc.length + l.length := by
    intro l; induction l with
    | nil => intro acc; simp
    | cons k l ih => intro acc; have := ih (ddS acc k); have := ddS_len acc k; simp; omega
  have q := this l []
  simp only [List.length_nil, Nat.zero_add] at q
  exact q
theorem ddS_mem (l : List κ) (k j : κ) : mem1 (ddS l k) j = (mem1 l j || decide (j = k)) := by
  unfold ddS mem1
  by_cases h : k ∈ l
  · rw [if_pos h]
    by_cases e : j = k
    · subst e; simp [h]
    · simp [e]
  · rw [if_neg h]; simp
theorem ddS_count (l : List κ) (k : κ) : (ddS l k).length = if mem1 l k = true then l.length else l.length + 1 := by
  unfold ddS mem1
  by_cases h : k ∈ l <;> simp [h]
end
section
variable {prog : Program} {w : World} {A : Around} {R : Result → Shared → Prop} {it : Addr} {fp wr : List Addr} {G : Array GenState → Array GenState → Prop} {n : Nat} {P : Nat → Value → Prop} {St : Nat → Shared → Prop} {κ : Type} [DecidableEq κ] {knd : KeyKind prog w κ}
theorem set_stays {h h' : Heap} {a : Addr} {F : κ → Bool} {m : Nat} (x : h.SetOf knd a F m) (hk : ∀ o, h.get? a = some o → h'.get? a = some o) : h'.SetOf knd a F m := by
  obtain ⟨o, es, ep, tb, ho, rest⟩ := x
  exact ⟨o, es, ep, tb, hk o ho, rest⟩
theorem set_like {h : Heap} {a : Addr} {F F' : κ → Bool} {m m' : Nat} (x : h.SetOf knd a F m) (e : ∀ k, F k = F' k) (em : m = m') : h.SetOf knd a F' m' := by
  rw [← em, ← show F = F' from funext e]; exact x
theorem set_loop (W : WalksS prog w A.in1 it fp wr G n P St) (S : Addr) (nS : S ∉ fp) (ks : List κ) (hn : ks.length = n) (hv : ∀ i v, P i v → ∃ k, ks[i]? = some k ∧ knd.is k v = true ∧ v.scannable = true) (hb : n + 1 < scanBound) :
    ∀ (j i : Nat) (sh : Shared), n - i = j → i ≤ n → St i sh → sh.heap.SetOf knd S (mem1 (dd (ks.take i))) (dd (ks.take i)).length →
      (∀ s2, Moved (S :: wr) G sh s2 → s2.heap.SetOf knd S (mem1 (dd ks)) (dd ks).length → R (.ok (.ret .none)) s2) → codeAny (model prog w) A (.builtin "set.update.loop" ⟨[.ref S, .ref it], []⟩) R sh := by
  have nw : S ∉ wr := fun q => nS (W.sub _ q)
  have sb : ∀ b ∈ wr, b ∈ S :: wr := fun b q => List.mem_cons_of_mem _ q
  intro j
  induction j with
  | zero =>
    intro i sh hj hi st hS hR
    have ei : i = n := by omega
    subst ei
    rw [List.take_of_length_le (by omega)] at hS
    refine codeAny_builtin F.entry_set_update_loop ?_
    rw [Around.under_plainId F.plain_set_update_loop _]
    refine (show wpAny _ A.in1 (pyNext (.ref it) >>= _) _ _ sh from wpAny_bind (W.done sh _ _ st fun s2 mv => ?_))
    exact (show wpAny _ A.in1 (ret Value.none) _ _ s2 from wpAny_pure (hR s2 (mv.mono sb) (set_stays hS fun o ho => mv.heap S o nw ho)))
  | succ j ih =>
    intro i sh hj hi st hS hR
    have hlt : i < n := by omega
    refine codeAny_builtin F.entry_set_update_loop ?_
    rw [Around.under_plainId F.plain_set_update_loop _]
    refine (show wpAny _ A.in1 (pyNext (.ref it) >>= _) _ _ sh from wpAny_bind (W.item i sh _ _ hlt st fun v s2 hP st2 mv => ?_))
    obtain ⟨k, ek, isk, sck⟩ := hv i v hP
    have hS2 := set_stays hS (h' := s2.heap) fun o ho => mv.heap S o nw ho
    refine (show wpAny _ A.in1 (holding [v] (setAdd S v) >>= _) _ _ s2 from wpAny_bind (wpAny_holding ?_))
    unfold setAdd
    refine wpAny_holding (wpAny_bind (knd.pyHash isk ?_))
    have room : (dd (ks.take i)).length + 1 < scanBound := by
      have := dd_len (ks.take i)
      have := List.length_take_le i ks
      omega
    refine wpAny_setAddHashed_of (knd := knd) (s := { s2 with toks := s2.toks + 1 }) isk sck hS2 room fun h3 same hS3 => ?_
    have et : ks.take (i + 1) = ks.take i ++ [k] := by rw [List.take_succ, ek]; rfl
    have hS4 : h3.SetOf knd S (mem1 (dd (ks.take (i + 1)))) (dd (ks.take (i + 1))).length :=
      set_like hS3 (fun q => by rw [et, dd_snoc, ddS_mem]) (by rw [et, dd_snoc, ddS_count])
    refine wpAny_pure ⟨plainId_quiet F.plain_set_update_loop _, ih (i + 1) _ (by omega) hlt (W.frame _ s2 _ _ st2 (Nat.le_succ _) fun b hb o e => ?_) hS4 fun s5 mv5 hS5 => ?_⟩
    · rw [same.2 b (fun q => nS (by rw [← q]; exact hb))]; exact e
    · refine hR s5 (Moved.trans W.gtrans ((mv.mono sb).then_heap (Nat.le_succ _) fun b o hb e => ?_) mv5) hS5
      rw [same.2 b (fun q => hb (by rw [q]; exact List.mem_cons_self))]; exact e
end
section
variable {prog : Program} {w : World} {A : Around} {E : Value → Shared → Prop} {sh : Shared} {κ : Type} [DecidableEq κ] {knd : KeyKind prog w κ}
abbrev set0 (led : Bool) : Obj := { cls := .type "set", dict := none, data := .set #[] 0 (.fresh 0 0 led) }
theorem sub_tuple_set : isSubtype (.type "tuple") (.type "set") = pure false := by rw [isSubtype_type]; kernel_rfl
theorem sub_tuple_frozenset : isSubtype (.type "tuple") (.type "frozenset") = pure false := by rw [isSubtype_type]; kernel_rfl
theorem call_setList {l : Addr} {its : Array Value} {ks : List κ} {Q : Value → Shared → Prop} (hh : A.handled = none) (hl : sh.heap.IsList l its)
    (hn : ks.length = its.size) (hv : ∀ (i : Nat) (v : Value), its[i]? = some v → ∃ k, ks[i]? = some k ∧ knd.is k v = true ∧ v.scannable = true) (hb : its.size + 1 < scanBound)
    (hQ : ∀ (h' : Heap) (tk : Nat), h'.SetOf knd sh.heap.objs.size (mem1 (dd ks)) (dd ks).length → (∀ b o, b < sh.heap.objs.size → sh.heap.get? b = some o → h'.get? b = some o) → Q (.ref sh.heap.objs.size) { sh with heap := h', toks := tk }) :
    wpAny (model prog w) A (call (.type "set") [.ref l]) Q E sh := by
  obtain ⟨c0, tl0, hmro⟩ := F.called_set.mro
  have hmade := F.called_set.made
  have hsub := F.called_set.sub
  refine wpAny_call (codeAny_of_tree (show wpAny _ _ (callAny (.type "set") _) _ _ _ from wpAny_pure ⟨Code.quiet_builtin _ (by decide +kernel), codeAny_builtin F.entry_type_call ?_⟩))
  rw [Around.under_plain (weight_type_call_type "set" [.ref l] []) rfl]
  have h1 := F.called_set.notType
  have h2 := F.called_set.canCreate
  have hct := F.typeCall_set_1 (.ref l)
  repeat (any_goals (first | assumption | wp_step))
  refine codeAny_mono (code_set_new_1 (.ref l) (E := E) (Q₁ := fun ob s1 => ∃ led : Bool, ob = .ref sh.heap.objs.size ∧ s1 = { sh with heap := sh.heap.push (set0 led) }) fun led => ⟨led, rfl, rfl⟩) fun r s1 hr => ?_
  cases r with
  | error e => exact hr
  | ok fl =>
    cases fl with
    | ret ob =>
      obtain ⟨led, rfl, rfl⟩ := hr
      have hS : (sh.heap.push (set0 led)).get? sh.heap.objs.size = some (set0 led) := Heap.get?_push_size _ rfl
      have hT : Shared.TypeIs { sh with heap := sh.heap.push (set0 led) } (.ref sh.heap.objs.size) "set" := ⟨_, hS, rfl⟩
      have hli := F.called_set.init.lookup
      have hbi := F.called_set.init.bind (.ref sh.heap.objs.size)
      repeat (any_goals (first | assumption | wp_step))
      refine codeAny_mono (codeAny_call_builtin (R := wants (fun r s2 => r = .none ∧ ∃ h' tk, s2 = { sh with heap := h', toks := tk } ∧ h'.SetOf knd sh.heap.objs.size (mem1 (dd ks)) (dd ks).length ∧
          (∀ b o, b < sh.heap.objs.size → sh.heap.get? b = some o → h'.get? b = some o)) E) F.called_set.init.plain F.entry_set_init (check_set_init_1 hT ?_)) fun r2 s2 hr2 => ?_
      · obtain ⟨ol, hol, hcl, nl, hdl⟩ := hl
        obtain ⟨ocls, odict, odata, oslots⟩ := ol
        simp only at hcl hdl
        subst hcl; subst hdl
        have hol' : (sh.heap.push (set0 led)).get? l = some { cls := .type "list", dict := odict, data := .seq its nl, slots := oslots } := Heap.get?_push_of_some _ hol
        have hsls := F.sub_list_set
        have hslf := F.sub_list_frozenset
        have hne : (Value.type "list" == Value.type "dict") = false := by decide
        have hl1 : (sh.heap.push (set0 led)).IsList l its := ⟨_, hol', rfl, nl, rfl⟩
        unfold Builtin.«set.__init__» noKeywords Builtin.Frozenset.updateFrom
        generalize hPI : pyIter = PI
        wp_walk
        subst hPI
        refine wpAny_pyIter_list hl1 (wpAny_bind (wpAny_runValue ?_))
        have hlS : l < sh.heap.objs.size := Heap.lt_size hol
        have hh3 : A.in1.in1.in1.handled = none := by simp [hh]
        have hz : (sh.heap.push (set0 led)).objs.size = sh.heap.objs.size + 1 := Heap.size_push ..
        have hneI : l ≠ (sh.heap.push (set0 led)).objs.size := by rw [hz]; exact Nat.ne_of_lt (Nat.lt_succ_of_lt hlS)
        have hSf : sh.heap.objs.size ∉ [(sh.heap.push (set0 led)).objs.size, l] := by
          rw [hz]; simp only [List.mem_cons, List.mem_singleton, List.not_mem_nil, or_false, not_or]
          exact ⟨Nat.ne_of_lt (Nat.lt_succ_self _), Nat.ne_of_gt hlS⟩
        refine set_loop ((Walks.list hh3 _ l hneI its).toS) sh.heap.objs.size hSf ks hn hv hb (its.size - 0) 0 _ (by omega) (Nat.zero_le _) ⟨⟨_, Heap.get?_push_size _ rfl, rfl, rfl⟩, (hl1.push _)⟩ ?hS0 ?hR
        case hS0 =>
          have hget : ((sh.heap.push (set0 led)).push { cls := .type "list_iterator", data := .fields #[.ref l, .int 0 0] }).get? sh.heap.objs.size = some (set0 led) := Heap.get?_push_of_some _ hS
          exact set_like ((setObjOf_fresh (knd := knd) led).setOf hget (by unfold scanBound; omega)) (fun k => by simp [dd, mem1]) (by simp [dd])
        case hR =>
          intro s3 hm hS3
          obtain ⟨h3, g3, d3, tk3, os3⟩ := s3
          have eg : g3 = sh.gens := hm.gens
          have ed : d3 = sh.drawn := hm.drawn
          have eo : os3 = sh.os := hm.os
          subst eg; subst ed; subst eo
          refine (show wpAny _ _ _ _ _ _ from wpAny_pure (show wpAny _ _ (ret Value.none) _ _ _ from wpAny_pure ⟨rfl, h3, tk3, rfl, hS3, fun b o hb e => ?_⟩))
          have hb1 : b ≠ sh.heap.objs.size := Nat.ne_of_lt hb
          have hb2 : b ≠ (sh.heap.push (set0 led)).objs.size := by rw [hz]; exact Nat.ne_of_lt (Nat.lt_succ_of_lt hb)
          exact hm.heap b o (by simp only [List.mem_cons, List.mem_singleton, List.not_mem_nil, or_false, not_or]; exact ⟨hb1, hb2⟩) (Heap.get?_push_of_some _ (Heap.get?_push_of_some _ e))
      · cases r2 with
        | error e => exact hr2
        | ok fl2 =>
          cases fl2 with
          | ret r =>
            obtain ⟨rfl, h', tk, rfl, hS', hk'⟩ := hr2
            repeat (any_goals (first | assumption | wp_step))
            exact hQ _ _ hS' hk'
          | _ => exact hr2.elim
    | _ => exact hr.elim
theorem call_setTuple {l : Addr} {its : Array Value} {ks : List κ} {Q : Value → Shared → Prop} (hh : A.handled = none) (hl : sh.heap.IsTuple l its)
    (hn : ks.length = its.size) (hv : ∀ (i : Nat) (v : Value), its[i]? = some v → ∃ k, ks[i]? = some k ∧ knd.is k v = true ∧ v.scannable = true) (hb : its.size + 1 < scanBound)
    (hQ : ∀ (h' : Heap) (tk : Nat), h'.SetOf knd sh.heap.objs.size (mem1 (dd ks)) (dd ks).length → (∀ b o, b < sh.heap.objs.size → sh.heap.get? b = some o → h'.get? b = some o) → Q (.ref sh.heap.objs.size) { sh with heap := h', toks := tk }) :
    wpAny (model prog w) A (call (.type "set") [.ref l]) Q E sh := by
  obtain ⟨c0, tl0, hmro⟩ := F.called_set.mro
  have hmade := F.called_set.made
  have hsub := F.called_set.sub
  refine wpAny_call (codeAny_of_tree (show wpAny _ _ (callAny (.type "set") _) _ _ _ from wpAny_pure ⟨Code.quiet_builtin _ (by decide +kernel), codeAny_builtin F.entry_type_call ?_⟩))
  rw [Around.under_plain (weight_type_call_type "set" [.ref l] []) rfl]
  have h1 := F.called_set.notType
  have h2 := F.called_set.canCreate
  have hct := F.typeCall_set_1 (.ref l)
  repeat (any_goals (first | assumption | wp_step))
  refine codeAny_mono (code_set_new_1 (.ref l) (E := E) (Q₁ := fun ob s1 => ∃ led : Bool, ob = .ref sh.heap.objs.size ∧ s1 = { sh with heap := sh.heap.push (set0 led) }) fun led => ⟨led, rfl, rfl⟩) fun r s1 hr => ?_
  cases r with
  | error e => exact hr
  | ok fl =>
    cases fl with
    | ret ob =>
      obtain ⟨led, rfl, rfl⟩ := hr
      have hS : (sh.heap.push (set0 led)).get? sh.heap.objs.size = some (set0 led) := Heap.get?_push_size _ rfl
      have hT : Shared.TypeIs { sh with heap := sh.heap.push (set0 led) } (.ref sh.heap.objs.size) "set" := ⟨_, hS, rfl⟩
      have hli := F.called_set.init.lookup
      have hbi := F.called_set.init.bind (.ref sh.heap.objs.size)
      repeat (any_goals (first | assumption | wp_step))
      refine codeAny_mono (codeAny_call_builtin (R := wants (fun r s2 => r = .none ∧ ∃ h' tk, s2 = { sh with heap := h', toks := tk } ∧ h'.SetOf knd sh.heap.objs.size (mem1 (dd ks)) (dd ks).length ∧
          (∀ b o, b < sh.heap.objs.size → sh.heap.get? b = some o → h'.get? b = some o)) E) F.called_set.init.plain F.entry_set_init (check_set_init_1 hT ?_)) fun r2 s2 hr2 => ?_
      · obtain ⟨ol, hol, hcl, nl, hdl⟩ := hl
        obtain ⟨ocls, odict, odata, oslots⟩ := ol
        simp only at hcl hdl
        subst hcl; subst hdl
        have hol' : (sh.heap.push (set0 led)).get? l = some { cls := .type "tuple", dict := odict, data := .seq its nl, slots := oslots } := Heap.get?_push_of_some _ hol
        have hsls := sub_tuple_set
        have hslf := sub_tuple_frozenset
        have hne : (Value.type "tuple" == Value.type "dict") = false := by decide
        have hl1 : (sh.heap.push (set0 led)).IsTuple l its := ⟨_, hol', rfl, nl, rfl⟩
        unfold Builtin.«set.__init__» noKeywords Builtin.Frozenset.updateFrom
        generalize hPI : pyIter = PI
        wp_walk
        subst hPI
        refine wpAny_pyIter_tuple hl1 (wpAny_bind (wpAny_runValue ?_))
        have hlS : l < sh.heap.objs.size := Heap.lt_size hol
        have hh3 : A.in1.in1.in1.handled = none := by simp [hh]
        have hz : (sh.heap.push (set0 led)).objs.size = sh.heap.objs.size + 1 := Heap.size_push ..
        have hneI : l ≠ (sh.heap.push (set0 led)).objs.size := by rw [hz]; exact Nat.ne_of_lt (Nat.lt_succ_of_lt hlS)
        have hSf : sh.heap.objs.size ∉ [(sh.heap.push (set0 led)).objs.size, l] := by
          rw [hz]; simp only [List.mem_cons, List.mem_singleton, List.not_mem_nil, or_false, not_or]
          exact ⟨Nat.ne_of_lt (Nat.lt_succ_self _), Nat.ne_of_gt hlS⟩
        refine set_loop ((Walks.tuple hh3 _ l hneI its).toS) sh.heap.objs.size hSf ks hn hv hb (its.size - 0) 0 _ (by omega) (Nat.zero_le _) ⟨⟨_, Heap.get?_push_size _ rfl, rfl, rfl⟩, (hl1.push _)⟩ ?hS0 ?hR
        case hS0 =>
          have hget : ((sh.heap.push (set0 led)).push { cls := .type "tuple_iterator", data := .fields #[.ref l, .int 0 0] }).get? sh.heap.objs.size = some (set0 led) := Heap.get?_push_of_some _ hS
          exact set_like ((setObjOf_fresh (knd := knd) led).setOf hget (by unfold scanBound; omega)) (fun k => by simp [dd, mem1]) (by simp [dd])
        case hR =>
          intro s3 hm hS3
          obtain ⟨h3, g3, d3, tk3, os3⟩ := s3
          have eg : g3 = sh.gens := hm.gens
          have ed : d3 = sh.drawn := hm.drawn
          have eo : os3 = sh.os := hm.os
          subst eg; subst ed; subst eo
          refine (show wpAny _ _ _ _ _ _ from wpAny_pure (show wpAny _ _ (ret Value.none) _ _ _ from wpAny_pure ⟨rfl, h3, tk3, rfl, hS3, fun b o hb e => ?_⟩))
          have hb1 : b ≠ sh.heap.objs.size := Nat.ne_of_lt hb
          have hb2 : b ≠ (sh.heap.push (set0 led)).objs.size := by rw [hz]; exact Nat.ne_of_lt (Nat.lt_succ_of_lt hb)
          exact hm.heap b o (by simp only [List.mem_cons, List.mem_singleton, List.not_mem_nil, or_false, not_or]; exact ⟨hb1, hb2⟩) (Heap.get?_push_of_some _ (Heap.get?_push_of_some _ e))
      · cases r2 with
        | error e => exact hr2
        | ok fl2 =>
          cases fl2 with
          | ret r =>
            obtain ⟨rfl, h', tk, rfl, hS', hk'⟩ := hr2
            repeat (any_goals (first | assumption | wp_step))
            exact hQ _ _ hS' hk'
          | _ => exact hr2.elim
    | _ => exact hr.elim
end
def keysOf : List PV → Option (List Key)
  | [] => some []
  | p :: r => match keyOf p, keysOf r with
    | some k, some ks => some (k :: ks)
    | _, _ => none
theorem keysOf_at {K : PySem.W.Frag} {H : Hp} {μ : Mu} : ∀ {ps : List PV} {vs : List V} {ks : List Key}, VRs K H μ ps vs → keysOf ps = some ks → vs = ks.map kV
  | [], vs, ks, r, h => by cases h; exact r
  | p :: ps, vs, ks, r, h => by
    obtain ⟨v, t, rfl, r1, r2⟩ := (show ∃ v t, vs = v :: t ∧ VR K H μ p v ∧ VRs K H μ ps t from r)
    unfold keysOf at h
    cases q1 : keyOf p with
    | none => rw [q1] at h; cases h
    | some k =>
      cases q2 : keysOf ps with
      | none => rw [q1, q2] at h; cases h
      | some cs =>
        rw [q1, q2] at h
        cases h
        rw [List.map_cons, keysOf_at r2 q2, keyOf_kV q1 r1]
def lenSetM (x : PV) : M PV := fun st => match seqOf x st with
  | some xs => match keysOf xs with
    | some ks => if ks.length ≤ 1000 then .ok (.int ((dd ks).length : Nat)) st else .bad
    | none => .bad
  | none => .bad
theorem keys_items {ks : List Key} {us : List Value} (r : Vals (ks.map kV) us) {P : Program} {w : World} : ∀ (i : Nat) (v : Value), us.toArray[i]? = some v → ∃ k, ks[i]? = some k ∧ (mixKind P w).is k v = true ∧ v.scannable = true := by
  intro i v h
  have h' : us[i]? = some v := by simpa using h
  have hl := r.length
  rw [List.length_map] at hl
  have hi : i < ks.length := by rw [hl]; exact (List.getElem?_eq_some_iff.mp h').1
  obtain ⟨u, e1, e2⟩ := r.get (show (ks.map kV)[i]? = some (kV ks[i]) by simp [hi])
  have eu : u = v := Option.some.inj (e1.symm.trans h')
  subst eu
  exact ⟨ks[i], by simp [hi], kV_is e2, key_scan e2⟩
section
variable {X : Cx} {W : WX} {a : Expr} {ma : Rho → M PV} {p p2 q pos : Pos}
def tLenSetK (K : PySem.W.Frag) (ta : TE) : TE := fun σ H Q => ta σ H fun x H1 => ∃ (l : Addr) (ks : List Key), x = V.ref l ∧ (SqL K H1 l (ks.map kV) ∨ SqT K H1 l (ks.map kV)) ∧ ks.length ≤ 1000 ∧ Q (.int ((dd ks).length : Nat)) H1
theorem pe_lenSetK {ta : TE} (hc : X.calm = true) (hg : Gl X "len") (hm : X.mg "len" = none) (hg2 : Gl X "set") (hm2 : X.mg "set" = none) (ha : PE X a ta) (na : starEach [a] X.env = (false, eval a X.env) :: starEach [] X.env)
    (nb : starEach [.Call (.Name "set" p2) [a] [] q] X.env = (false, eval (.Call (.Name "set" p2) [a] [] q) X.env) :: starEach [] X.env) : PE X (.Call (.Name "len" p) [.Call (.Name "set" p2) [a] [] q] [] pos) (tLenSetK X.K ta) := by
  refine ⟨fun pins s σ H Q I h => Call_ (ld_blt I hg hm PySem.boot_len (callWith_builtin1 (args_cons (Call_ (ld_blt I hg2 hm2 boot_set ?_)) nb) nb rfl))⟩
  refine callWith_type1 (args_cons (thn (ha.run pins s σ H _ I h) fun v s1 ⟨x, H1, I1, r1, q1⟩ => args_nil ?_) na) na rfl
  obtain ⟨l, ks, rfl, hq, h1, q1⟩ := q1
  cases r1
  have fin : ∀ (h' : Heap) (tk : Nat), h'.SetOf (mixKind X.prog X.w) s1.heap.objs.size (mem1 (dd ks)) (dd ks).length → (∀ b o, b < s1.heap.objs.size → s1.heap.get? b = some o → h'.get? b = some o) →
      wpAny (model X.prog X.w) X.A (call (.builtin "len") [.ref s1.heap.objs.size]) (EP X pins σ Q) X.xe { s1 with heap := h', toks := tk } := fun h' tk hS hk => by
    obtain ⟨o, es, ep, t, ho, hex, hd, _, _, hsz, hf, hn⟩ := hS
    have I2 : Inv X pins σ H1 { s1 with heap := h', toks := tk } := I1.kept fun b o e => hk b o (Heap.lt_size e) e
    have := dd_len ks
    exact call_len_set ho hex hd hf (by rw [hn]; omega) ⟨.int ((dd ks).length : Nat), H1, I2.tok _, ⟨_, by rw [hn]⟩, q1⟩
  rcases hq with hq | hq
  · obtain ⟨its, r, pl, hz⟩ := I1.list hq
    have hl : its.toArray.size = ks.length := by rw [List.size_toArray, ← r.length, List.length_map]
    exact call_setList (I1.ok.hd hc) pl.isList hl.symm (keys_items r) (by rw [hl]; unfold scanBound; omega) fun h' tk hS hk => args_nil (fin h' tk hS hk)
  · obtain ⟨its, r, pl, hz⟩ := I1.tuple hq
    have hl : its.toArray.size = ks.length := by rw [List.size_toArray, ← r.length, List.length_map]
    exact call_setTuple (I1.ok.hd hc) pl hl.symm (keys_items r) (by rw [hl]; unfold scanBound; omega) fun h' tk hS hk => args_nil (fin h' tk hS hk)
theorem me_lenSet (hc : X.calm = true) (hg : Gl X "len") (hm : X.mg "len" = none) (hg2 : Gl X "set") (hm2 : X.mg "set" = none) (ha : ME X W a ma) (na : starEach [a] X.env = (false, eval a X.env) :: starEach [] X.env := by kernel_rfl)
    (nb : starEach [.Call (.Name "set" p2) [a] [] q] X.env = (false, eval (.Call (.Name "set" p2) [a] [] q) X.env) :: starEach [] X.env := by kernel_rfl) : ME X W (.Call (.Name "len" p) [.Call (.Name "set" p2) [a] [] q] [] pos) (eUn lenSetM ma) :=
  PE.imp (pe_lenSetK hc hg hm hg2 hm2 ha na nb) fun σ H Q ⟨μ, st, ρ, er, sr, h⟩ => ⟨μ, st, ρ, er, sr, (PostG.bind h).mono fun u H1 ⟨μ1, st1, x, g1, s1, rx, h1⟩ => by
    unfold lenSetM at h1
    cases q1 : seqOf x st1 with
    | none => rw [q1] at h1; exact h1.elim
    | some xs =>
      rw [q1] at h1
      dsimp only at h1
      cases q2 : keysOf xs with
      | none => rw [q2] at h1; exact h1.elim
      | some ks =>
        rw [q2] at h1
        dsimp only at h1
        by_cases hk : ks.length ≤ 1000
        · rw [if_pos hk] at h1
          obtain ⟨l, vs, rfl, hq, rs⟩ := seqOf_at s1 rx q1
          have ev := keysOf_at rs q2
          subst ev
          exact ⟨l, ks, rfl, hq, hk, post_same h1 s1 rfl⟩
        · rw [if_neg hk] at h1; exact h1.elim⟩
end
end MP

set_option maxRecDepth 100000
set_option maxHeartbeats 1000000
namespace MP
open PySem L2 PySem.Spec PyProof.Rows
theorem ofString_inj {a b : String} (h : Str.ofString a = Str.ofString b) : a = b := by
  have e : (Str.ofString a).cps.toList = (Str.ofString b).cps.toList := by rw [h]
  rw [signs_ofString, signs_ofString] at e
  have inj : ∀ (x y : List Char), x.map Char.toNat = y.map Char.toNat → x = y := by
    intro x
    induction x with
    | nil => intro y h; cases y with
      | nil => rfl
      | cons c y => cases h
    | cons c x ih => intro y h; cases y with
      | nil => cases h
      | cons d y =>
        rw [List.map_cons, List.map_cons] at h
        injection h with h1 h2
        rw [ih y h2, Char.ext (UInt32.toNat_inj.mp h1)]
  exact String.toList_inj.mp (inj _ _ e)
def lookA : List (String × PV) → String → Option PV
  | [], _ => none
  | p :: r, f => if p.1 = f then some p.2 else lookA r f
def putA (f : String) (v : PV) : List (String × PV) → List (String × PV)
  | [] => [(f, v)]
  | p :: r => if p.1 = f then (p.1, v) :: r else p :: putA f v r
section
variable {K : PySem.W.Frag} {H : Hp} {μ : Mu}
theorem FRs.look {f : String} : ∀ {fs : List (String × PV)} {fv : List (Str × V)}, FRs K H μ fs fv → (∀ p, lookA fs f = some p → ∃ v, fv.lookup (Str.ofString f) = some v ∧ VR K H μ p v) ∧ (lookA fs f = none → fv.lookup (Str.ofString f) = none)
  | [], fv, h => by
    have e : fv = [] := h
    subst e
    exact ⟨fun p q => (nomatch q), fun _ => rfl⟩
  | p :: r, fv, h => by
    obtain ⟨v, t, rfl, rv, rt⟩ := h
    unfold lookA
    rw [List.lookup_cons]
    by_cases e : p.1 = f
    · subst e
      rw [if_pos rfl, beq_self_eq_true]
      exact ⟨fun q hq => by cases hq; exact ⟨v, rfl, rv⟩, fun hq => (nomatch hq)⟩
    · have e' : (Str.ofString f == Str.ofString p.1) = false := beq_eq_false_iff_ne.mpr fun q => e (ofString_inj q).symm
      rw [if_neg e, e']
      exact FRs.look rt
theorem FRs.put {f : String} {p : PV} {v : V} (rv : VR K H μ p v) : ∀ {fs : List (String × PV)} {fv : List (Str × V)}, FRs K H μ fs fv → FRs K H μ (putA f p fs) (putF (Str.ofString f) v fv)
  | [], fv, h => by
    have e : fv = [] := h
    subst e
    exact ⟨v, [], rfl, rv, rfl⟩
  | q :: r, fv, h => by
    obtain ⟨w, t, rfl, rw', rt⟩ := h
    unfold putA putF
    by_cases e : q.1 = f
    · subst e
      rw [if_pos rfl, if_pos rfl]
      exact ⟨v, t, rfl, rv, rt⟩
    · have e' : ¬ Str.ofString q.1 = Str.ofString f := fun z => e (ofString_inj z)
      rw [if_neg e, if_neg e']
      exact ⟨w, _, rfl, rw', FRs.put rv rt⟩
theorem FRs.length : ∀ {fs : List (String × PV)} {fv : List (Str × V)}, FRs K H μ fs fv → fs.length = fv.length
  | [], fv, h => by have e : fv = [] := h; subst e; rfl
  | q :: r, fv, h => by obtain ⟨w, t, rfl, _, rt⟩ := h; rw [List.length_cons, List.length_cons, FRs.length rt]
end
def attrM (cs : List String) (f : String) (x : PV) : M PV := fun st => match x with
  | .loc n => match st[n]? with
    | some (.ins c fs) => if c ∈ cs then (match lookA fs f with
      | some v => .ok v st
      | none => .bad) else .bad
    | _ => .bad
  | _ => .bad
def AttrOk (K : PySem.W.Frag) (cs : List String) (f : String) : Prop := ∀ c ∈ cs, ∀ C, ClsIn K c C → Cls K C ∧ NoAttr K C (Str.ofString f)
section
variable {X : Cx} {W : WX} {e o value : Expr} {pos p' : Pos} {me mo mv : Rho → M PV} {cs : List String} {f : String}
theorem me_attr (hc : AttrOk X.K cs f) (he : ME X W e me) (hb : attributeBase e (Str.ofString f) X.env (eval e X.env) = eval e X.env := by kernel_rfl) : ME X W (.Attribute e (Str.ofString f) pos) (eUn (attrM cs f) me) :=
  PE.imp (pe_fld he hb) fun σ H Q ⟨μ, st, ρ, er, sr, h⟩ => ⟨μ, st, ρ, er, sr, (PostG.bind h).mono fun u H1 ⟨μ1, st1, x, g1, s1, rx, h1⟩ => by
    unfold attrM at h1
    cases x with
    | loc n =>
      obtain ⟨a, rfl, ha⟩ := loc_at rx
      dsimp only at h1
      cases q : st1[n]? with
      | none => rw [q] at h1; exact h1.elim
      | some c =>
        rw [q] at h1
        cases c with
        | lst xs => exact h1.elim
        | dct xs => exact h1.elim
        | ins c fs =>
          dsimp only at h1
          by_cases hcs : c ∈ cs
          · rw [if_pos hcs] at h1
            obtain ⟨C, dx, fv, hC, eh, rf⟩ := s1.cell n _ a q ha
            obtain ⟨k1, k2⟩ := hc c hcs C hC
            cases hl : lookA fs f with
            | none => rw [hl] at h1; exact h1.elim
            | some p =>
              rw [hl] at h1
              obtain ⟨v, e1, rv⟩ := rf.look.1 p hl
              exact ⟨a, C, dx, fv, v, rfl, eh, k1, k2, e1, post_same h1 s1 rv⟩
          · rw [if_neg hcs] at h1; exact h1.elim
    | _ => exact h1.elim⟩
def setA (cs : List String) (f : String) (y x : PV) : M Unit := fun st => match x with
  | .loc n => match st[n]? with
    | some (.ins c fs) => if c ∈ cs ∧ fs.length < 1000 then .ok () (st.set n (.ins c (putA f y fs))) else .bad
    | _ => .bad
  | _ => .bad
def sAttr (cs : List String) (f : String) (mo mv : Rho → M PV) : Rho → M Fl := fun ρ => onErr ρ (mv ρ) fun y => onErr ρ (mo ρ) fun x => onErr ρ (setA cs f y x) fun _ => M.ret (.next ρ)
theorem ms_attr (hc : AttrOk X.K cs f) (ho : ME X W o mo) (hv : ME X W value mv) (hs : swapsWith value (some (.Attribute o (Str.ofString f) p')) pos.line X.env = pure false := by kernel_rfl) : MS X W (.Assign [.Attribute o (Str.ofString f) p'] value pos) (sAttr cs f mo mv) :=
  PS.imp (ps_fld ho hv hs) fun D σ H ⟨μ, st, ρ, er, sr, h⟩ => ⟨μ, st, ρ, er, sr, (PostS.onErr h er).mono fun u H1 ⟨μ1, st1, y, g1, s1, ry, h1⟩ =>
    ⟨μ1, st1, ρ, er.mono g1, s1, (PostS.onErr h1 (er.mono g1)).mono fun w H2 ⟨μ2, st2, x, g2, s2, rx, h2⟩ => by
      unfold onErr setA at h2
      cases x with
      | loc n =>
        obtain ⟨a, rfl, ha⟩ := loc_at rx
        dsimp only at h2
        cases q : st2[n]? with
        | none => rw [q] at h2; exact h2.elim
        | some c =>
          rw [q] at h2
          cases c with
          | lst xs => exact h2.elim
          | dct xs => exact h2.elim
          | ins c fs =>
            dsimp only at h2
            by_cases hcs : c ∈ cs ∧ fs.length < 1000
            · rw [if_pos hcs] at h2
              obtain ⟨C, dx, fv, hC, eh, rf⟩ := s2.cell n _ a q ha
              obtain ⟨k1, k2⟩ := hc c hcs.1 C hC
              have gp : Gr μ2 H2 μ2 (upd H2 a (.ins C dx (putF (Str.ofString f) u fv))) := gr_put ha
              refine ⟨a, C, dx, fv, rfl, eh, k1, k2, by rw [← rf.length]; exact hcs.2, ?_⟩
              refine h2 μ2 _ σ gp (s2.put ha ⟨C, dx, _, hC, upd_same, FRs.mono gp.v _ _ (rf.put (VR.mono g2 _ _ ry))⟩) ((er.mono g1).mono g2 |>.mono gp)
            · rw [if_neg hcs] at h2; exact h2.elim
      | _ => exact h2.elim⟩⟩
end
def insC (c m : String) (o : PV) : M Unit := fun st => match o with
  | .loc n => match st[n]? with
    | some (.ins c' fs) => if c' = c ∧ lookA fs m = none then .ok () st else .bad
    | _ => .bad
  | _ => .bad
def eMth (c m : String) (mf : List PV → M PV) (mo : Rho → M PV) (ma : Rho → M (List PV)) : Rho → M PV := fun ρ => M.bind (mo ρ) fun o => M.bind (insC c m o) fun _ => M.bind (ma ρ) fun xs => mf (o :: xs)
section
variable {X : Cx} {W : WX} {e o : Expr} {es : List Expr} {pos apos : Pos} {mo : Rho → M PV} {ma : Rho → M (List PV)} {c m : String} {C f : Addr} {fd : FuncData} {ps : List Str} {k n : Nat} {mf : List PV → M PV}
theorem ins_at {E : XK} {Q : VK} {α : Type} {μ : Mu} {H : Hp} {st : Sto} {x : PV} {u : V} {g : Unit → M PV} (hC : ClsIn X.K c C) (sr : SR X.K μ st H) (rx : VR X.K H μ x u) (h : PostG X.K E (VR X.K) Q μ H (M.bind (insC c m x) g st)) :
    ∃ a dx fs, u = .ref a ∧ H a = some (.ins C dx fs) ∧ fs.lookup (Str.ofString m) = none ∧ PostG X.K E (VR X.K) Q μ H (g () st) := by
  unfold M.bind insC at h
  cases x with
  | loc n =>
    obtain ⟨a, rfl, ha⟩ := loc_at rx
    dsimp only at h
    cases q : st[n]? with
    | none => rw [q] at h; exact h.elim
    | some cc =>
      rw [q] at h
      cases cc with
      | lst xs => exact h.elim
      | dct xs => exact h.elim
      | ins c' fs =>
        dsimp only at h
        by_cases hcs : c' = c ∧ lookA fs m = none
        · rw [if_pos hcs] at h
          obtain ⟨C', dx, fv, hC', eh, rf⟩ := sr.cell n _ a q ha
          rw [hcs.1] at hC'
          have ee := hC.one hC'
          subst ee
          exact ⟨a, dx, fv, rfl, eh, rf.look.2 hcs.2, h⟩
        · rw [if_neg hcs] at h; exact h.elim
  | _ => exact h.elim
theorem me_mth {pl : Sem Bool} (cl : Cls X.K C) (hC : ClsIn X.K c C) (hm : Meth X.K C (Str.ofString m) f) (F : FnOk X.prog X.w X.K X.mg X.base (L2.CX X.prog X.w) k f fd ps (spM X.K mf (n + 1))) (hr : Room k X.A) (hb : Binds X.K fd ps []) (tk : Takes X W)
    (ho : ME X W o mo) (ha : MA X W (e :: es) ma) (hl : aLen n ma) (hst : starEach (e :: es) X.env = (false, eval e X.env) :: starEach es X.env := by kernel_rfl) (hpl : (backTo pos (starEach es X.env)).any (·.1) = false := by kernel_rfl)
    (ht : eval (.Call (.Attribute o (Str.ofString m) apos) (e :: es) [] pos) X.env = (do
      let ov ← eval o X.env
      standAt apos.atName
      let (f, first) ← holding [ov] (getMethod ov (Str.ofString m) pl)
      callWith pos f first (backTo pos (starEach (e :: es) X.env)) (backToKw pos (keywordEach [] X.env))) := by rfl) :
    ME X W (.Call (.Attribute o (Str.ofString m) apos) (e :: es) [] pos) (eMth c m mf mo ma) := by
  refine PE.imp (t := fun σ H Q => tM X.K W mo σ H fun x H1 => ∃ a dx fs, x = .ref a ∧ H1 a = some (.ins C dx fs) ∧ fs.lookup (Str.ofString m) = none ∧ tMA X.K W ma σ H1 fun vs H2 => spM X.K mf (n + 1) (x :: vs) H2 Q (WE W σ)) ⟨fun pins s σ H Q I h => ?_⟩ fun σ H Q ⟨μ, st, ρ, er, sr, h⟩ => ?_
  · refine PySem.W.methodCall_KW (pl := pl) (thn (ho.run pins s σ H _ I h) fun u s1 ⟨x, H1, I1, rx, a, dx, fs, ex, ea, l, q⟩ => ?_) ht
    subst ex
    cases (show u = Value.ref a from rx)
    refine getmeth_ok I1 ea cl hm l (PySem.W.callWith_K (first := [.ref a]) (h₀ := X.base) I.ok.mod.kin hm.kp (thn (ha.run pos pins s1 σ H1 _ I1 q) fun us s2 ⟨vs, H2, I2, r, q2⟩ => ⟨I2.kIn, ?_⟩) hst hpl)
    exact run_fnSD (us := .ref a :: us) (vs := .ref a :: vs) (dvs := []) (ds := []) (E := WE W) F hr hb .nil (passAt tk σ) I2 (.cons rfl r) (by rw [List.append_nil]; exact q2)
  · refine ⟨μ, st, ρ, er, sr, (PostG.bind h).mono fun u H1 ⟨μ1, st1, x, g1, s1, rx, h1⟩ => ?_⟩
    obtain ⟨a, dx, fs, e1, e2, e3, h2⟩ := ins_at (α := PV) hC s1 rx h1
    exact ⟨a, dx, fs, e1, e2, e3, μ1, st1, ρ, er.mono g1, s1, PostG.lens hl ((PostG.bind h2).mono fun us H2 ⟨μ2, st2, xs, g2, s2, ⟨rxs, hn⟩, h3⟩ => ⟨μ2, st2, x :: xs, s2, VRs.cons (VR.mono g2 _ _ rx) rxs, by rw [List.length_cons, hn], h3⟩)⟩
theorem me_mth0 {pl : Sem Bool} (cl : Cls X.K C) (hC : ClsIn X.K c C) (hm : Meth X.K C (Str.ofString m) f) (F : FnOk X.prog X.w X.K X.mg X.base (L2.CX X.prog X.w) k f fd ps (spM X.K mf 1)) (hr : Room k X.A) (hb : Binds X.K fd ps []) (tk : Takes X W)
    (ho : ME X W o mo)
    (ht : eval (.Call (.Attribute o (Str.ofString m) apos) [] [] pos) X.env = (do
      let ov ← eval o X.env
      standAt apos.atName
      let (f, first) ← holding [ov] (getMethod ov (Str.ofString m) pl)
      callWith pos f first (backTo pos (starEach [] X.env)) (backToKw pos (keywordEach [] X.env))) := by rfl) :
    ME X W (.Call (.Attribute o (Str.ofString m) apos) [] [] pos) (eMth c m mf mo aNil) := by
  refine PE.imp (t := fun σ H Q => tM X.K W mo σ H fun x H1 => ∃ a dx fs, x = .ref a ∧ H1 a = some (.ins C dx fs) ∧ fs.lookup (Str.ofString m) = none ∧ spM X.K mf 1 [x] H1 Q (WE W σ)) ⟨fun pins s σ H Q I h => ?_⟩ fun σ H Q ⟨μ, st, ρ, er, sr, h⟩ => ?_
  · refine PySem.W.methodCall_KW (pl := pl) (thn (ho.run pins s σ H _ I h) fun u s1 ⟨x, H1, I1, rx, a, dx, fs, ex, ea, l, q⟩ => ?_) ht
    subst ex
    cases (show u = Value.ref a from rx)
    exact getmeth_ok I1 ea cl hm l (PySem.W.callWith_K0 (first := [.ref a]) I1.kIn hm.kp (run_fnSD (us := [.ref a]) (vs := [.ref a]) (dvs := []) (ds := []) (E := WE W) F hr hb .nil (passAt tk σ) I1 (.cons rfl .nil) q))
  · refine ⟨μ, st, ρ, er, sr, (PostG.bind h).mono fun u H1 ⟨μ1, st1, x, g1, s1, rx, h1⟩ => ?_⟩
    obtain ⟨a, dx, fs, e1, e2, e3, h2⟩ := ins_at (α := PV) hC s1 rx h1
    exact ⟨a, dx, fs, e1, e2, e3, μ1, st1, [x], s1, VRs.cons rx VRs.nil, rfl, h2⟩
def mkIns (c : String) (mf : List PV → M PV) (xs : List PV) : M PV := fun st => match mf (.loc st.length :: xs) (st ++ [.ins c []]) with
  | .ok .non st' => .ok (.loc st.length) st'
  | _ => .bad
theorem new_at {E : XK} {Q : VK} {μ : Mu} {H : Hp} {st : Sto} {xs : List PV} {vs : List V} (hC : ClsIn X.K c C) (sr : SR X.K μ st H) (rs : VRs X.K H μ xs vs) (hn : xs.length = n) (h : PostG X.K E (VR X.K) Q μ H (mkIns c mf xs st)) :
    ∀ x dx, H x = none → H dx = none → dx ≠ x → spM X.K mf (n + 1) (.ref x :: vs) (upd (upd H dx (.own x)) x (.ins C dx [])) (fun v H2 => v = .non ∧ Q (.ref x) H2) (fun _ _ _ => False) := by
  intro x dx hx hd hne
  have g1 : Gr μ H μ (upd H dx (.own x)) := gr_new hd
  have s1 := sr.new (o := .own x) hd
  have hx1 : upd H dx (.own x) x = none := by rw [upd_ne (fun q => hne q.symm)]; exact hx
  have g2 : Gr μ (upd H dx (.own x)) (μ.add x) (upd (upd H dx (.own x)) x (.ins C dx [])) := gr_alloc hx1
  have s2 : SR X.K (μ.add x) (st ++ [.ins c []]) (upd (upd H dx (.own x)) x (.ins C dx [])) := s1.alloc hx1 ⟨C, dx, [], hC, upd_same, rfl⟩
  have g := g1.trans g2 fun a m => (s2.ban a m).1
  have hloc : (μ.add x).l[st.length]? = some x := by rw [← sr.len]; simp [Mu.add]
  refine ⟨μ.add x, st ++ [.ins c []], .loc st.length :: xs, s2, VRs.cons (show ∃ a, V.ref x = .ref a ∧ (μ.add x).l[st.length]? = some a from ⟨x, rfl, hloc⟩) (VRs.mono g _ _ rs), by rw [List.length_cons, hn], ?_⟩
  unfold mkIns at h
  cases q : mf (.loc st.length :: xs) (st ++ [.ins c []]) with
  | ok v st' =>
    rw [q] at h
    cases v with
    | non =>
      intro μ' H' b gg ss rb
      refine ⟨rb, ?_⟩
      exact h μ' H' (.ref x) (g.trans gg fun a m => (ss.ban a m).1) ss (show ∃ a, V.ref x = .ref a ∧ μ'.l[st.length]? = some a from ⟨x, rfl, gg.get hloc⟩)
    | _ => exact h.elim
  | err y st' => rw [q] at h; exact h.elim
  | bad => rw [q] at h; exact h.elim
theorem me_new {x : Str} {p : Pos} (M : Mk X.K C f) (hC : ClsIn X.K c C) (F : FnOk X.prog X.w X.K X.mg X.base (L2.CX X.prog X.w) k f fd ps (spM X.K mf (n + 1))) (hr : Room (k + 1) X.A) (hg : Gl X x) (hm : X.mg x = some (.ref C)) (hb : Binds X.K fd ps []) (hx : Passes (L2.CX X.prog X.w) X (fun _ _ _ => False))
    (ha : MA X W (e :: es) ma) (hl : aLen n ma) (hdb : (x == ("__debug__" : Str)) = false := by kernel_rfl) (he : starEach (e :: es) X.env = (false, eval e X.env) :: starEach es X.env := by kernel_rfl) (hpl : (backTo pos (starEach es X.env)).any (·.1) = false := by kernel_rfl) :
    ME X W (.Call (.Name x p) (e :: es) [] pos) (eCall (mkIns c mf) ma) :=
  PE.imp (pe_make (dvs := []) (ds := []) (E := fun _ _ _ => False) M F hr hg hm hb .nil hx ha hdb he hpl) fun σ H Q ⟨μ, st, ρ, er, sr, h⟩ =>
    ⟨μ, st, ρ, er, sr, PostG.lens hl ((PostG.bind h).mono fun us H1 ⟨μ1, st1, xs, g1, s1, ⟨rxs, hn⟩, h1⟩ => by
      simp only [List.append_nil]
      exact new_at hC s1 rxs hn h1)⟩
theorem me_new0 {x : Str} {p : Pos} (M : Mk X.K C f) (hC : ClsIn X.K c C) (F : FnOk X.prog X.w X.K X.mg X.base (L2.CX X.prog X.w) k f fd ps (spM X.K mf 1)) (hr : Room (k + 1) X.A) (hg : Gl X x) (hm : X.mg x = some (.ref C)) (hb : Binds X.K fd ps []) (hx : Passes (L2.CX X.prog X.w) X (fun _ _ _ => False))
    (hdb : (x == ("__debug__" : Str)) = false := by kernel_rfl) : ME X W (.Call (.Name x p) [] [] pos) (eCall (mkIns c mf) aNil) :=
  PE.imp (pe_make0 (dvs := []) (ds := []) (E := fun _ _ _ => False) M F hr hg hm hb .nil hx hdb) fun σ H Q ⟨μ, st, ρ, er, sr, h⟩ =>
    new_at hC sr VRs.nil rfl h
end
theorem passes_no {X : Cx} : Passes (L2.CX X.prog X.w) X (fun _ _ _ => False) := fun _ _ _ _ _ _ _ c => let ⟨_, _, _, _, _, _, _, _, _, _, _, _, h⟩ := c; h.elim
theorem attr_ok1 {K : PySem.W.Frag} {c f : String} {C : Addr} (hC : ClsIn K c C) (cl : Cls K C) (na : NoAttr K C (Str.ofString f)) : AttrOk K [c] f := fun c' h C' hC' => by
  rw [List.mem_singleton.mp h] at hC'
  rw [← hC.one hC']
  exact ⟨cl, na⟩
theorem attr_ok2 {K : PySem.W.Frag} {cs : List String} {c f : String} {C : Addr} (hC : ClsIn K c C) (cl : Cls K C) (na : NoAttr K C (Str.ofString f)) (r : AttrOk K cs f) : AttrOk K (c :: cs) f := fun c' h C' hC' => by
  rcases List.mem_cons.mp h with h | h
  · rw [h] at hC'
    rw [← hC.one hC']
    exact ⟨cl, na⟩
  · exact r c' h C' hC'
end MP

set_option maxRecDepth 100000
set_option maxHeartbeats 1000000
namespace MP
open PySem L2 PySem.Spec PyProof.Rows
def sBad : Rho → M Fl := fun _ => M.fail
def eBad : Rho → M PV := fun _ => M.fail
theorem ms_bad {X : Cx} {W : WX} {s : Stmt} : MS X W s sBad := ⟨fun _ _ _ _ _ _ ⟨_, _, _, _, _, h⟩ => h.elim⟩
theorem me_bad {X : Cx} {W : WX} {e : Expr} : ME X W e eBad := ⟨fun _ _ _ _ _ _ ⟨_, _, _, _, _, h⟩ => h.elim⟩
def isDct (x : PV) : M Unit := fun st => match dctOf x st with
  | some _ => .ok () st
  | none => .bad
def dgetM (x y z : PV) : M PV := fun st => match dctOf x st with
  | some kvs => if (keyOf y).isSome = true then .ok ((lookP kvs y).getD z) st else .bad
  | none => .bad
def eGet1 (mo me : Rho → M PV) : Rho → M PV := fun ρ => M.bind (mo ρ) fun x => M.bind (isDct x) fun _ => M.bind (me ρ) fun y => dgetM x y .non
def eGet2 (mo me mz : Rho → M PV) : Rho → M PV := fun ρ => M.bind (mo ρ) fun x => M.bind (isDct x) fun _ => M.bind (me ρ) fun y => M.bind (mz ρ) fun z => dgetM x y z
theorem isDct_at {K : PySem.W.Frag} {H : Hp} {μ : Mu} {st : Sto} {x : PV} {v : V} {α β : Type} {E : XK} {R : Hp → Mu → α → β → Prop} {Q : β → Hp → Prop} {k : Unit → M α} (sr : SR K μ st H) (r : VR K H μ x v)
    (h : PostG K E R Q μ H (M.bind (isDct x) k st)) : (∃ a, v = .ref a ∧ IsD H a) ∧ PostG K E R Q μ H (k () st) := by
  unfold M.bind isDct at h
  cases q : dctOf x st with
  | none => rw [q] at h; exact h.elim
  | some kvs =>
    rw [q] at h
    obtain ⟨n, a, kv, ex, rfl, ha, hc, h1, h2⟩ := dctOf_at sr r q
    exact ⟨⟨a, rfl, .inl ⟨kv, .inl h1⟩⟩, h⟩
theorem dget_at {K : PySem.W.Frag} {H : Hp} {μ : Mu} {st : Sto} {x y z : PV} {a : Addr} {v w : V} {E : XK} {Q : V → Hp → Prop} (sr : SR K μ st H) (r : VR K H μ x (.ref a)) (ry : VR K H μ y v) (rz : VR K H μ z w)
    (h : PostG K E (VR K) Q μ H (dgetM x y z st)) : ∃ o, DGet H a v o ∧ Q (o.getD w) H := by
  unfold dgetM at h
  cases hd : dctOf x st with
  | none => rw [hd] at h; exact h.elim
  | some kvs =>
    rw [hd] at h
    dsimp only at h
    by_cases hk : (keyOf y).isSome = true
    · rw [if_pos hk] at h
      obtain ⟨k', ek⟩ := Option.isSome_iff_exists.mp hk
      obtain ⟨n, a', kv, ex, e, ha, hc, h1, h2⟩ := dctOf_at sr r hd
      cases e
      rw [keyOf_kV ek ry]
      refine ⟨_, DGet.k h1, ?_⟩
      cases q : lookP kvs y with
      | none =>
        rw [(KRs.look ek h2).2 q]
        rw [q] at h
        exact post_same h sr rz
      | some p =>
        obtain ⟨u, e, ru⟩ := (KRs.look ek h2).1 p q
        rw [e]
        rw [q] at h
        exact post_same h sr ru
    · rw [if_neg hk] at h
      exact h.elim
section
variable {X : Cx} {W : WX} {o e f : Expr} {apos cpos : Pos} {mo me mz : Rho → M PV}
theorem me_get1 (hu : X.A.units + 1 < cLine) (ho : ME X W o mo) (he : ME X W e me) (hb : attributeBase o "get" X.env (eval o X.env) = eval o X.env := by kernel_rfl)
    (hf : ((backTo cpos (starEach [e] X.env)).all (fun x => !x.1) && (backToKw cpos (keywordEach [] X.env)).all (fun x => x.1.isSome)
      && decide (([e] : List Expr).length + ([] : List Keyword).length + (if ([] : List Keyword).isEmpty then 0 else 1) < 30)) = true := by kernel_rfl)
    (hl : (apos.endLine == cpos.line) = true := by kernel_rfl) (ht : backTo cpos (starEach [e] X.env) = [(false, eval e X.env)] := by kernel_rfl) :
    ME X W (.Call (.Attribute o "get" apos) [e] [] cpos) (eGet1 mo me) :=
  PE.imp (pe_dget1 hu ho he ⟨hb, hf, hl, ht⟩) fun σ H Q ⟨μ, st, ρ, er, sr, h⟩ => ⟨μ, st, ρ, er, sr, (PostG.bind h).mono fun u H1 ⟨μ1, st1, x, g1, s1, rx, h1⟩ => by
    obtain ⟨⟨a, rfl, d⟩, h2⟩ := isDct_at s1 rx h1
    exact ⟨a, rfl, d, μ1, st1, ρ, er.mono g1, s1, (PostG.bind h2).mono fun v H2 ⟨μ2, st2, y, g2, s2, ry, h3⟩ => dget_at s2 (VR.mono g2 x _ rx) ry (z := .non) (show VR X.K H2 μ2 .non .non from rfl) h3⟩⟩
theorem me_get2 (hu : X.A.units + 1 < cLine) (ho : ME X W o mo) (he : ME X W e me) (hz : ME X W f mz) (hb : attributeBase o "get" X.env (eval o X.env) = eval o X.env := by kernel_rfl)
    (hf : ((backTo cpos (starEach [e, f] X.env)).all (fun x => !x.1) && (backToKw cpos (keywordEach [] X.env)).all (fun x => x.1.isSome)
      && decide (([e, f] : List Expr).length + ([] : List Keyword).length + (if ([] : List Keyword).isEmpty then 0 else 1) < 30)) = true := by kernel_rfl)
    (hl : (apos.endLine == cpos.line) = true := by kernel_rfl) (ht : backTo cpos (starEach [e, f] X.env) = [(false, eval e X.env), (false, eval f X.env)] := by kernel_rfl) :
    ME X W (.Call (.Attribute o "get" apos) [e, f] [] cpos) (eGet2 mo me mz) :=
  PE.imp (pe_dget2 hu ho he hz ⟨hb, hf, hl, ht⟩) fun σ H Q ⟨μ, st, ρ, er, sr, h⟩ => ⟨μ, st, ρ, er, sr, (PostG.bind h).mono fun u H1 ⟨μ1, st1, x, g1, s1, rx, h1⟩ => by
    obtain ⟨⟨a, rfl, d⟩, h2⟩ := isDct_at s1 rx h1
    exact ⟨a, rfl, d, μ1, st1, ρ, er.mono g1, s1, (PostG.bind h2).mono fun v H2 ⟨μ2, st2, y, g2, s2, ry, h3⟩ => ⟨μ2, st2, ρ, (er.mono g1).mono g2, s2, (PostG.bind h3).mono fun w H3 ⟨μ3, st3, z, g3, s3, rz, h4⟩ =>
      dget_at s3 (VR.mono g3 x _ (VR.mono g2 x _ rx)) (VR.mono g3 y _ ry) rz h4⟩⟩⟩
end
def idxP (y : PV) : List PV → Option Nat
  | [] => none
  | p :: r => if eqb p y = true then some 0 else (idxP y r).map (· + 1)
theorem idxP_some {y : PV} : ∀ {xs : List PV} {j : Nat}, idxP y xs = some j → (∃ p, xs[j]? = some p ∧ eqb p y = true) ∧ ∀ m p, m < j → xs[m]? = some p → eqb p y = false
  | [], _, h => by cases h
  | p :: r, j, h => by
    unfold idxP at h
    by_cases e : eqb p y = true
    · rw [if_pos e] at h; cases h
      exact ⟨⟨p, rfl, e⟩, fun m _ q => absurd q (Nat.not_lt_zero m)⟩
    · rw [if_neg e] at h
      cases q : idxP y r with
      | none => rw [q] at h; cases h
      | some k =>
        rw [q] at h; cases h
        obtain ⟨⟨z, hz, ez⟩, h2⟩ := idxP_some q
        refine ⟨⟨z, by simpa using hz, ez⟩, fun m p' hm hp => ?_⟩
        cases m with
        | zero => simp at hp; subst hp; simpa using e
        | succ m => exact h2 m p' (Nat.lt_of_succ_lt_succ hm) (by simpa using hp)
def indexL (o : PV) (xs : List PV) : M PV := match o, xs with
  | .lst ys, [y] => if (flatP y && ys.all flatP) = true then (match idxP y ys with
    | some j => M.ret (.int (j : Nat))
    | none => M.fail) else M.fail
  | _, _ => M.fail
theorem VRs.back {K : PySem.W.Frag} {H : Hp} {μ : Mu} {i : Nat} {v : V} : ∀ {ps : List PV} {vs : List V} {i : Nat}, VRs K H μ ps vs → vs[i]? = some v → ∃ p, ps[i]? = some p ∧ VR K H μ p v
  | [], vs, i, h, e => by have z : vs = [] := h; rw [z] at e; simp at e
  | p :: ps, vs, i, h, e => by
    obtain ⟨w, r, rfl, h1, h2⟩ := (show ∃ v r, vs = v :: r ∧ VR K H μ p v ∧ VRs K H μ ps r from h)
    cases i with
    | zero => simp at e; subst e; exact ⟨p, rfl, h1⟩
    | succ i =>
      obtain ⟨q, e1, e2⟩ := VRs.back (i := i) h2 (by simpa using e)
      exact ⟨q, by simpa using e1, e2⟩
theorem t_indexL {K : PySem.W.Frag} : TMe K (rIndex K) indexL := by
  intro μ st H o xs u us E Q sr ro rs h
  unfold indexL at h
  split at h
  · rename_i ys y
    obtain ⟨w, rfl, ry⟩ := one_of rs
    obtain ⟨a, vs, rfl, t, rvs⟩ := lst_at ro
    by_cases hf : (flatP y && ys.all flatP) = true
    · rw [if_pos hf] at h
      obtain ⟨fy, fys⟩ := Bool.and_eq_true_iff.mp hf
      cases q : idxP y ys with
      | none => rw [q] at h; exact h.elim
      | some j =>
        rw [q] at h
        obtain ⟨⟨p, hp, ep⟩, hno⟩ := idxP_some q
        obtain ⟨v, hv, rv⟩ := VRs.get rvs hp
        have fl : ∀ {q : PV} {x : V} {i : Nat}, ys[i]? = some q → VR K H μ q x → flatV x = true ∧ flatV w = true ∧ L2.eqV x w = eqb q y := fun hq rq => flat_eq rq ry (List.all_eq_true.mp fys _ (List.mem_of_getElem? hq)) fy
        obtain ⟨_, fw, ev⟩ := fl hp rv
        refine ⟨a, vs, w, j, v, rfl, rfl, t.sq, fw, ?_, hv, by rw [ev]; exact ep, fun m z hm hz => ?_, post_same h sr rfl⟩
        · refine List.all_eq_true.mpr fun z hz => ?_
          obtain ⟨i, hi⟩ := List.mem_iff_getElem?.mp hz
          obtain ⟨q, hq, rq⟩ := VRs.back (i := i) rvs hi
          exact (fl hq rq).1
        · obtain ⟨q, hq, rq⟩ := VRs.back (i := m) rvs hz
          rw [(fl hq rq).2.2]
          exact hno m q hm hq
    · rw [if_neg hf] at h; exact h.elim
  · exact h.elim
section
variable {X : Cx} {W : WX} {o e : Expr} {apos cpos : Pos} {mo : Rho → M PV} {ma : Rho → M (List PV)}
theorem me_indexL (ho : ME X W o mo) (ha : MA X W [e] ma)
    (hbase : attributeBase o "index" X.env (eval o X.env) = eval o X.env := by kernel_rfl)
    (hfew : ((backTo cpos (starEach [e] X.env)).all (fun x => !x.1) && (backToKw cpos (keywordEach [] X.env)).all (fun x => x.1.isSome)
      && decide ([e].length + ([] : List Keyword).length + (if ([] : List Keyword).isEmpty then 0 else 1) < 30)) = true := by kernel_rfl)
    (hline : (apos.endLine == cpos.line) = true := by kernel_rfl) (hs : starEach [e] X.env = (false, eval e X.env) :: starEach [] X.env := by kernel_rfl) :
    ME X W (.Call (.Attribute o "index" apos) [e] [] cpos) (eMeth "list" indexL mo ma) :=
  me_meth PySem.F.plainAttrs_list PySem.F.slot_list_index PySem.F.type_list_index mt_index t_indexL ho ha hbase hfew hline hs rfl
end
def mulL (x y : PV) : M PV := match x, y with
  | .lst a, .int k => if -1000000 ≤ k ∧ k ≤ 1000 ∧ a.length ≤ 1000 then M.ret (.lst (List.replicate k.toNat a).flatten) else M.fail
  | _, _ => M.fail
theorem t_mulL {K : PySem.W.Frag} : T2 K rRep mulL := by
  intro μ st H x y u v E Q sr rx ry h
  unfold mulL at h
  split at h
  · rename_i a k
    obtain ⟨p, vs, rfl, h1, r1⟩ := lst_at rx
    cases (show v = V.int k from ry)
    by_cases hz : -1000000 ≤ k ∧ k ≤ 1000 ∧ a.length ≤ 1000
    · rw [if_pos hz] at h
      refine ⟨p, k, vs, rfl, rfl, h1.1, by omega, by omega, ?_, fun q hq => post_lst sr (VRs.rep r1 _) hq h⟩
      rw [← VRs.length r1, sz_eq]
      have h3 : a.length * k.toNat ≤ 1000 * 1000 := Nat.mul_le_mul hz.2.2 (by omega)
      refine Nat.le_trans h3 ?_
      decide
    · rw [if_neg hz] at h
      exact h.elim
  · exact h.elim
section
variable {X : Cx} {W : WX} {a b : Expr} {pos : Pos} {ma mb : Rho → M PV}
theorem me_mulL (ha : ME X W a ma) (hb : ME X W b mb) : ME X W (.BinOp a .Mult b pos) (eBin mulL ma mb) := me_bin op_rep t_mulL ha hb
end
def addN (x y : PV) : M PV := fun st => match listOf x st, listOf y st with
  | some a, some b => if a.length + b.length ≤ SZ then .ok (.loc st.length) (st ++ [.lst (a ++ b)]) else .bad
  | _, _ => .bad
theorem t_addN {K : PySem.W.Frag} : T2 K rCat addN := by
  intro μ st H x y u v E Q sr rx ry h
  unfold addN at h
  cases q1 : listOf x st with
  | none => rw [q1] at h; exact h.elim
  | some a =>
    cases q2 : listOf y st with
    | none => rw [q1, q2] at h; exact h.elim
    | some b =>
      rw [q1, q2] at h
      dsimp only at h
      by_cases hz : a.length + b.length ≤ SZ
      · rw [if_pos hz] at h
        obtain ⟨p, vs, rfl, h1, r1⟩ := listOf_at sr rx q1
        obtain ⟨p', vs', rfl, h2, r2⟩ := listOf_at sr ry q2
        exact ⟨p, p', vs, vs', rfl, rfl, h1, h2, by rw [← VRs.length r1, ← VRs.length r2, sz_eq]; exact hz, fun q hq => post_cell h sr hq ⟨_, upd_same, VRs.mono (gr_alloc hq) _ _ (VRs.append r1 r2)⟩⟩
      · rw [if_neg hz] at h; exact h.elim
section
variable {X : Cx} {W : WX} {a b : Expr} {pos : Pos} {ma mb : Rho → M PV}
theorem me_addN (ha : ME X W a ma) (hb : ME X W b mb) : ME X W (.BinOp a .Add b pos) (eBin addN ma mb) := me_bin op_cat t_addN ha hb
end
end MP

set_option maxRecDepth 100000
set_option maxHeartbeats 1000000
namespace MP
open PySem L2
def Z {α : Type} (r : Res α) (Q : α → Sto → Prop) (E : Exn → Sto → Prop) : Prop := match r with
  | .ok a st => Q a st
  | .err x st => E x st
  | .bad => False
def E0 : Exn → Sto → Prop := fun _ _ => False
abbrev KP := PV → Sto → Prop
abbrev KB := Bool → Sto → Prop
abbrev KLs := List PV → Sto → Prop
abbrev KR := Rho → Sto → Prop
abbrev KF := Fl → Sto → Prop
abbrev KU := Unit → Sto → Prop
abbrev KO := Option Int → Sto → Prop
abbrev KI := Int → Sto → Prop
abbrev KX := Exn → Sto → Prop
abbrev KD := List (PV × PV) → Sto → Prop
abbrev ME1 := Rho → M PV
abbrev MT1 := Rho → M Bool
abbrev MS1 := Rho → M Fl
abbrev ML1 := Rho → M (List PV)
section
variable {α β : Type} {st : Sto} {ρ : Rho} {Q : α → Sto → Prop} {E : KX} {QP : KP} {QF : KF} {QB : KB} {QL : KLs} {QR : KR} {QO : KO} {QI : KI} {QU : KU} {QD : KD}
@[simp ↓] theorem Z_ok {a : α} : Z (.ok a st) Q E = Q a st := propext Iff.rfl
@[simp ↓] theorem Z_err {x : Exn} : Z (.err x st : Res α) Q E = E x st := propext Iff.rfl
@[simp ↓] theorem Z_bad : Z (.bad : Res α) Q E = False := propext Iff.rfl
theorem Z.imp {r : Res α} {Q Q' : α → Sto → Prop} {E E' : KX} (h : Z r Q E) (hq : ∀ a st, Q a st → Q' a st) (he : ∀ x st, E x st → E' x st) : Z r Q' E' := by
  cases r with
  | ok a st => exact hq a st h
  | err x st => exact he x st h
  | bad => exact h
theorem Z.go {r : Res α} {Q Q' : α → Sto → Prop} {E' : KX} (h : Z r Q E0) (hq : ∀ a st, Q a st → Q' a st) : Z r Q' E' := h.imp hq fun _ _ h => False.elim h
@[simp ↓] theorem Z_ret {a : α} : Z (M.ret a st) Q E = Q a st := propext Iff.rfl
@[simp ↓] theorem Z_fail : Z ((M.fail : M α) st) Q E = False := propext Iff.rfl
theorem Z_bind {m : M β} {f : β → M α} : Z (M.bind m f st) Q E = Z (m st) (fun a st' => Z (f a st') Q E) E := by
  unfold M.bind; cases m st <;> rfl
@[simp ↓] theorem Z_calm {m : M α} : Z (M.calm m st) Q E = Z (m st) Q E0 := by
  unfold M.calm; cases m st <;> rfl
theorem Z_onErr {m : M α} {k : α → M Fl} : Z (onErr ρ m k st) QF E = Z (m st) (fun a s => Z (k a s) QF E) (fun x s => QF (.exc x ρ) s) := by
  unfold onErr; cases m st <;> rfl
theorem Z_ite {c : Prop} [Decidable c] {m m' : M α} : Z ((if c then m else m') st) Q E = if c then Z (m st) Q E else Z (m' st) Q E := by split <;> rfl
theorem Z_iteR {c : Prop} [Decidable c] {r r' : Res α} : Z (if c then r else r') Q E = if c then Z r Q E else Z r' Q E := by split <;> rfl
@[simp ↓] theorem Z_eVar {i : Nat} {p : PV} (h : ρ[i]? = some (some p)) : Z (eVar i ρ st) QP E = QP p st := by unfold eVar; rw [h]; rfl
@[simp ↓] theorem Z_eC {p : PV} : Z (eC p ρ st) QP E = QP p st := propext Iff.rfl
@[simp ↓] theorem Z_asB {b : Bool} : Z (asB (.bl b) st) QB E = QB b st := propext Iff.rfl
@[simp ↓] theorem Z_asI {i : Int} : Z (asI (.int i) st) QI E = QI i st := propext Iff.rfl
@[simp ↓] theorem Z_aNil : Z (aNil ρ st) QL E = QL [] st := propext Iff.rfl
@[simp ↓] theorem Z_oNone : Z (oNone ρ st) QO E = QO none st := propext Iff.rfl
@[simp ↓] theorem Z_sNext : Z (sNext ρ st) QF E = QF (.next ρ) st := propext Iff.rfl
@[simp ↓] theorem Z_sPass : Z (sPass ρ st) QF E = QF (.next ρ) st := propext Iff.rfl
@[simp ↓] theorem Z_sBreak : Z (sBreak ρ st) QF E = QF (.brk ρ) st := propext Iff.rfl
@[simp ↓] theorem Z_sCont : Z (sCont ρ st) QF E = QF (.cont ρ) st := propext Iff.rfl
@[simp ↓] theorem Z_sRetN : Z (sRetN ρ st) QF E = QF (.ret .non) st := propext Iff.rfl
@[simp ↓] theorem Z_gN {i : Nat} {p : PV} : Z (gN i p ρ st) QR E = QR (ρ.set i (some p)) st := propext Iff.rfl
def kB2 (g : PV → PV → M PV) (x : PV) (QP : KP) (E : KX) : PV → Sto → Prop := fun y s => Z (g x y s) QP E
@[simp ↓] theorem kB2_at {g : PV → PV → M PV} {x : PV} {QP : KP} {E : KX} {y : PV} {s : Sto} : kB2 g x QP E y s = (Z (g x y s) QP E) := propext Iff.rfl
def kB1 (g : PV → PV → M PV) (mb : ME1) (ρ : Rho) (QP : KP) (E : KX) : PV → Sto → Prop := fun x s => Z (mb ρ s) (kB2 g x QP E) E
@[simp ↓] theorem kB1_at {g : PV → PV → M PV} {mb : ME1} {ρ : Rho} {QP : KP} {E : KX} {x : PV} {s : Sto} : kB1 g mb ρ QP E x s = (Z (mb ρ s) (kB2 g x QP E) E) := propext Iff.rfl
@[simp ↓] theorem Z_eBin {g : PV → PV → M PV} {ma mb : ME1} : Z (eBin g ma mb ρ st) QP E = Z (ma ρ st) (kB1 g mb ρ QP E) E := by
  unfold eBin; rw [Z_bind]; simp only [Z_bind]; rfl
def kU (g : PV → M PV) (QP : KP) (E : KX) : PV → Sto → Prop := fun x s => Z (g x s) QP E
@[simp ↓] theorem kU_at {g : PV → M PV} {QP : KP} {E : KX} {x : PV} {s : Sto} : kU g QP E x s = (Z (g x s) QP E) := propext Iff.rfl
@[simp ↓] theorem Z_eUn {g : PV → M PV} {ma : ME1} : Z (eUn g ma ρ st) QP E = Z (ma ρ st) (kU g QP E) E := by
  unfold eUn; rw [Z_bind]; rfl
def kAs (QB : KB) (E : KX) : PV → Sto → Prop := fun x s => Z (asB x s) QB E
@[simp ↓] theorem kAs_bl {QB : KB} {E : KX} {b : Bool} {s : Sto} : kAs QB E (.bl b) s = QB b s := propext Iff.rfl
@[simp ↓] theorem Z_eB {m : ME1} : Z (eB m ρ st) QB E = Z (m ρ st) (kAs QB E) E := by
  unfold eB; rw [Z_bind]; rfl
def kAnd (u : MT1) (ρ : Rho) (QB : KB) (E : KX) : Bool → Sto → Prop := fun c s => if c = true then Z (u ρ s) QB E else QB false s
@[simp ↓] theorem kAnd_t {u : MT1} {ρ : Rho} {QB : KB} {E : KX} {s : Sto} : kAnd u ρ QB E true s = (Z (u ρ s) QB E) := propext Iff.rfl
@[simp ↓] theorem kAnd_f {u : MT1} {ρ : Rho} {QB : KB} {E : KX} {s : Sto} : kAnd u ρ QB E false s = (QB false s) := propext Iff.rfl
theorem kAnd_of {u : MT1} {ρ : Rho} {QB : KB} {E : KX} {c : Bool} {s : Sto} (h : c = true → Z (u ρ s) QB E) (h' : c = false → QB false s) : kAnd u ρ QB E c s := by
  cases c
  · exact h' rfl
  · exact h rfl
@[simp ↓] theorem Z_tAnd {t u : MT1} : Z (tAndM t u ρ st) QB E = Z (t ρ st) (kAnd u ρ QB E) E := by
  unfold tAndM; rw [Z_bind]; congr 1; funext c s; cases c <;> rfl
def kOr (u : MT1) (ρ : Rho) (QB : KB) (E : KX) : Bool → Sto → Prop := fun c s => if c = true then QB true s else Z (u ρ s) QB E
@[simp ↓] theorem kOr_t {u : MT1} {ρ : Rho} {QB : KB} {E : KX} {s : Sto} : kOr u ρ QB E true s = (QB true s) := propext Iff.rfl
@[simp ↓] theorem kOr_f {u : MT1} {ρ : Rho} {QB : KB} {E : KX} {s : Sto} : kOr u ρ QB E false s = (Z (u ρ s) QB E) := propext Iff.rfl
theorem kOr_of {u : MT1} {ρ : Rho} {QB : KB} {E : KX} {c : Bool} {s : Sto} (h : c = true → QB true s) (h' : c = false → Z (u ρ s) QB E) : kOr u ρ QB E c s := by
  cases c
  · exact h' rfl
  · exact h rfl
@[simp ↓] theorem Z_tOr {t u : MT1} : Z (tOrM t u ρ st) QB E = Z (t ρ st) (kOr u ρ QB E) E := by
  unfold tOrM; rw [Z_bind]; congr 1; funext c s; cases c <;> rfl
def kNot (QB : KB) : Bool → Sto → Prop := fun c s => QB (!c) s
@[simp ↓] theorem kNot_at {QB : KB} {c : Bool} {s : Sto} : kNot QB c s = (QB (!c) s) := propext Iff.rfl
@[simp ↓] theorem Z_tNot {t : MT1} : Z (tNotM t ρ st) QB E = Z (t ρ st) (kNot QB) E := by
  unfold tNotM; rw [Z_bind]; rfl
def kAndV (mb : ME1) (ρ : Rho) (QP : KP) (E : KX) : Bool → Sto → Prop := fun c s => if c = true then Z (mb ρ s) QP E else QP (.bl false) s
@[simp ↓] theorem kAndV_t {mb : ME1} {ρ : Rho} {QP : KP} {E : KX} {s : Sto} : kAndV mb ρ QP E true s = (Z (mb ρ s) QP E) := propext Iff.rfl
@[simp ↓] theorem kAndV_f {mb : ME1} {ρ : Rho} {QP : KP} {E : KX} {s : Sto} : kAndV mb ρ QP E false s = (QP (.bl false) s) := propext Iff.rfl
theorem kAndV_of {mb : ME1} {ρ : Rho} {QP : KP} {E : KX} {c : Bool} {s : Sto} (h : c = true → Z (mb ρ s) QP E) (h' : c = false → QP (.bl false) s) : kAndV mb ρ QP E c s := by
  cases c
  · exact h' rfl
  · exact h rfl
@[simp ↓] theorem Z_eAnd {ma mb : ME1} : Z (eAndV ma mb ρ st) QP E = Z (ma ρ st) (kAs (kAndV mb ρ QP E) E) E := by
  unfold eAndV; rw [Z_bind]; congr 1; funext x s; rw [Z_bind]; show Z _ _ _ = Z _ _ _; congr 1; funext c s; cases c <;> rfl
def kOrV (mb : ME1) (ρ : Rho) (QP : KP) (E : KX) : Bool → Sto → Prop := fun c s => if c = true then QP (.bl true) s else Z (mb ρ s) QP E
@[simp ↓] theorem kOrV_t {mb : ME1} {ρ : Rho} {QP : KP} {E : KX} {s : Sto} : kOrV mb ρ QP E true s = (QP (.bl true) s) := propext Iff.rfl
@[simp ↓] theorem kOrV_f {mb : ME1} {ρ : Rho} {QP : KP} {E : KX} {s : Sto} : kOrV mb ρ QP E false s = (Z (mb ρ s) QP E) := propext Iff.rfl
theorem kOrV_of {mb : ME1} {ρ : Rho} {QP : KP} {E : KX} {c : Bool} {s : Sto} (h : c = true → QP (.bl true) s) (h' : c = false → Z (mb ρ s) QP E) : kOrV mb ρ QP E c s := by
  cases c
  · exact h' rfl
  · exact h rfl
@[simp ↓] theorem Z_eOr {ma mb : ME1} : Z (eOrV ma mb ρ st) QP E = Z (ma ρ st) (kAs (kOrV mb ρ QP E) E) E := by
  unfold eOrV; rw [Z_bind]; congr 1; funext x s; rw [Z_bind]; show Z _ _ _ = Z _ _ _; congr 1; funext c s; cases c <;> rfl
def kNotV (QP : KP) : Bool → Sto → Prop := fun c s => QP (.bl (!c)) s
@[simp ↓] theorem kNotV_at {QP : KP} {c : Bool} {s : Sto} : kNotV QP c s = (QP (.bl (!c)) s) := propext Iff.rfl
@[simp ↓] theorem Z_eNot {ma : ME1} : Z (eNotV ma ρ st) QP E = Z (ma ρ st) (kAs (kNotV QP) E) E := by
  unfold eNotV; rw [Z_bind]; congr 1; funext x s; rw [Z_bind]; rfl
def kIf (ma : ME1) (mb : ME1) (ρ : Rho) (QP : KP) (E : KX) : Bool → Sto → Prop := fun c s => if c = true then Z (ma ρ s) QP E else Z (mb ρ s) QP E
@[simp ↓] theorem kIf_t {ma : ME1} {mb : ME1} {ρ : Rho} {QP : KP} {E : KX} {s : Sto} : kIf ma mb ρ QP E true s = (Z (ma ρ s) QP E) := propext Iff.rfl
@[simp ↓] theorem kIf_f {ma : ME1} {mb : ME1} {ρ : Rho} {QP : KP} {E : KX} {s : Sto} : kIf ma mb ρ QP E false s = (Z (mb ρ s) QP E) := propext Iff.rfl
theorem kIf_of {ma : ME1} {mb : ME1} {ρ : Rho} {QP : KP} {E : KX} {c : Bool} {s : Sto} (h : c = true → Z (ma ρ s) QP E) (h' : c = false → Z (mb ρ s) QP E) : kIf ma mb ρ QP E c s := by
  cases c
  · exact h' rfl
  · exact h rfl
@[simp ↓] theorem Z_eIf {t : MT1} {ma mb : ME1} : Z (eIf t ma mb ρ st) QP E = Z (t ρ st) (kIf ma mb ρ QP E) E := by
  unfold eIf; rw [Z_bind]; congr 1; funext c s; cases c <;> rfl
def kA2 (x : PV) (QL : KLs) : List PV → Sto → Prop := fun xs s => QL (x :: xs) s
@[simp ↓] theorem kA2_at {x : PV} {QL : KLs} {xs : List PV} {s : Sto} : kA2 x QL xs s = (QL (x :: xs) s) := propext Iff.rfl
def kA1 (r : ML1) (ρ : Rho) (QL : KLs) (E : KX) : PV → Sto → Prop := fun x s => Z (r ρ s) (kA2 x QL) E
@[simp ↓] theorem kA1_at {r : ML1} {ρ : Rho} {QL : KLs} {E : KX} {x : PV} {s : Sto} : kA1 r ρ QL E x s = (Z (r ρ s) (kA2 x QL) E) := propext Iff.rfl
@[simp ↓] theorem Z_aCons {m : ME1} {r : ML1} : Z (aCons m r ρ st) QL E = Z (m ρ st) (kA1 r ρ QL E) E := by
  unfold aCons; rw [Z_bind]; congr 1; funext x s; rw [Z_bind]; rfl
def kF (f : List PV → M PV) (QP : KP) (E : KX) : List PV → Sto → Prop := fun xs s => Z (f xs s) QP E
@[simp ↓] theorem kF_at {f : List PV → M PV} {QP : KP} {E : KX} {xs : List PV} {s : Sto} : kF f QP E xs s = (Z (f xs s) QP E) := propext Iff.rfl
@[simp ↓] theorem Z_eCall {f : List PV → M PV} {m : ML1} : Z (eCall f m ρ st) QP E = Z (m ρ st) (kF f QP E) E := by
  unfold eCall; rw [Z_bind]; rfl
def kM3 (f : PV → List PV → M PV) (o : PV) (QP : KP) (E : KX) : List PV → Sto → Prop := fun xs s => Z (f o xs s) QP E
@[simp ↓] theorem kM3_at {f : PV → List PV → M PV} {o : PV} {QP : KP} {E : KX} {xs : List PV} {s : Sto} : kM3 f o QP E xs s = (Z (f o xs s) QP E) := propext Iff.rfl
def kM2 (f : PV → List PV → M PV) (ma : ML1) (ρ : Rho) (o : PV) (QP : KP) (E : KX) : Unit → Sto → Prop := fun _ s => Z (ma ρ s) (kM3 f o QP E) E
@[simp ↓] theorem kM2_at {f : PV → List PV → M PV} {ma : ML1} {ρ : Rho} {o : PV} {QP : KP} {E : KX} {a : Unit} {s : Sto} : kM2 f ma ρ o QP E a s = (Z (ma ρ s) (kM3 f o QP E) E) := propext Iff.rfl
def kM1 (T : String) (f : PV → List PV → M PV) (ma : ML1) (ρ : Rho) (QP : KP) (E : KX) : PV → Sto → Prop := fun o s => Z (tyC T o s) (kM2 f ma ρ o QP E) E
@[simp ↓] theorem kM1_at {T : String} {f : PV → List PV → M PV} {ma : ML1} {ρ : Rho} {QP : KP} {E : KX} {o : PV} {s : Sto} : kM1 T f ma ρ QP E o s = (Z (tyC T o s) (kM2 f ma ρ o QP E) E) := propext Iff.rfl
@[simp ↓] theorem Z_eMeth {T : String} {f : PV → List PV → M PV} {mo : ME1} {ma : ML1} : Z (eMeth T f mo ma ρ st) QP E = Z (mo ρ st) (kM1 T f ma ρ QP E) E := by
  unfold eMeth; rw [Z_bind]; simp only [Z_bind]; rfl
def kC3 (g : PV → PV → M PV) (mc : ME1) (ρ : Rho) (y : PV) (QP : KP) (E : KX) : Bool → Sto → Prop := fun c s => if c = true then Z (mc ρ s) (kB2 g y QP E) E else QP (.bl false) s
@[simp ↓] theorem kC3_t {g : PV → PV → M PV} {mc : ME1} {ρ : Rho} {y : PV} {QP : KP} {E : KX} {s : Sto} : kC3 g mc ρ y QP E true s = (Z (mc ρ s) (kB2 g y QP E) E) := propext Iff.rfl
@[simp ↓] theorem kC3_f {g : PV → PV → M PV} {mc : ME1} {ρ : Rho} {y : PV} {QP : KP} {E : KX} {s : Sto} : kC3 g mc ρ y QP E false s = (QP (.bl false) s) := propext Iff.rfl
theorem kC3_of {g : PV → PV → M PV} {mc : ME1} {ρ : Rho} {y : PV} {QP : KP} {E : KX} {c : Bool} {s : Sto} (h : c = true → Z (mc ρ s) (kB2 g y QP E) E) (h' : c = false → QP (.bl false) s) : kC3 g mc ρ y QP E c s := by
  cases c
  · exact h' rfl
  · exact h rfl
def kC2 (f : PV → PV → M PV) (g : PV → PV → M PV) (mc : ME1) (ρ : Rho) (x : PV) (QP : KP) (E : KX) : PV → Sto → Prop := fun y s => Z (f x y s) (kAs (kC3 g mc ρ y QP E) E) E
@[simp ↓] theorem kC2_at {f : PV → PV → M PV} {g : PV → PV → M PV} {mc : ME1} {ρ : Rho} {x : PV} {QP : KP} {E : KX} {y : PV} {s : Sto} : kC2 f g mc ρ x QP E y s = (Z (f x y s) (kAs (kC3 g mc ρ y QP E) E) E) := propext Iff.rfl
def kC1 (f : PV → PV → M PV) (g : PV → PV → M PV) (mb : ME1) (mc : ME1) (ρ : Rho) (QP : KP) (E : KX) : PV → Sto → Prop := fun x s => Z (mb ρ s) (kC2 f g mc ρ x QP E) E
@[simp ↓] theorem kC1_at {f : PV → PV → M PV} {g : PV → PV → M PV} {mb : ME1} {mc : ME1} {ρ : Rho} {QP : KP} {E : KX} {x : PV} {s : Sto} : kC1 f g mb mc ρ QP E x s = (Z (mb ρ s) (kC2 f g mc ρ x QP E) E) := propext Iff.rfl
@[simp ↓] theorem Z_eChain {f g : PV → PV → M PV} {ma mb mc : ME1} : Z (eChain f g ma mb mc ρ st) QP E = Z (ma ρ st) (kC1 f g mb mc ρ QP E) E := by
  unfold eChain; rw [Z_bind]; congr 1; funext x s; rw [Z_bind]; show Z _ _ _ = Z _ _ _; congr 1; funext y s; rw [Z_bind]; show Z _ _ _ = Z _ _ _; congr 1; funext z s; rw [Z_bind]; show Z _ _ _ = Z _ _ _; congr 1; funext c s; cases c
  · rfl
  · show Z (M.bind _ _ _) _ _ = _; rw [Z_bind]; rfl
def seqQ (m' : MS1) (Q : KF) (E : KX) : Fl → Sto → Prop
  | .next ρ, st => Z (m' ρ st) Q E
  | fl, st => Q fl st
@[simp] theorem seqQ_next {m' : MS1} : seqQ m' QF E (.next ρ) st = Z (m' ρ st) QF E := propext Iff.rfl
@[simp] theorem seqQ_ret {m' : MS1} {v : PV} : seqQ m' QF E (.ret v) st = QF (.ret v) st := propext Iff.rfl
@[simp] theorem seqQ_brk {m' : MS1} : seqQ m' QF E (.brk ρ) st = QF (.brk ρ) st := propext Iff.rfl
@[simp] theorem seqQ_cont {m' : MS1} : seqQ m' QF E (.cont ρ) st = QF (.cont ρ) st := propext Iff.rfl
@[simp] theorem seqQ_exc {m' : MS1} {x : Exn} : seqQ m' QF E (.exc x ρ) st = QF (.exc x ρ) st := propext Iff.rfl
@[simp ↓] theorem Z_sSeq {m m' : MS1} : Z (sSeq m m' ρ st) QF E = Z (m ρ st) (seqQ m' QF E) E := by
  unfold sSeq
  cases m ρ st with
  | ok f s => cases f <;> rfl
  | err x s => rfl
  | bad => rfl
def turnQ (k : MS1) (Q : KF) (E : KX) : Fl → Sto → Prop
  | .next ρ, st => Z (k ρ st) Q E
  | .cont ρ, st => Z (k ρ st) Q E
  | .brk ρ, st => Q (.next ρ) st
  | fl, st => Q fl st
@[simp] theorem turnQ_next {k : MS1} : turnQ k QF E (.next ρ) st = Z (k ρ st) QF E := propext Iff.rfl
@[simp] theorem turnQ_cont {k : MS1} : turnQ k QF E (.cont ρ) st = Z (k ρ st) QF E := propext Iff.rfl
@[simp] theorem turnQ_brk {k : MS1} : turnQ k QF E (.brk ρ) st = QF (.next ρ) st := propext Iff.rfl
@[simp] theorem turnQ_ret {k : MS1} {v : PV} : turnQ k QF E (.ret v) st = QF (.ret v) st := propext Iff.rfl
@[simp] theorem turnQ_exc {k : MS1} {x : Exn} : turnQ k QF E (.exc x ρ) st = QF (.exc x ρ) st := propext Iff.rfl
@[simp ↓] theorem Z_turn {k : MS1} {m : M Fl} : Z (turnL k m st) QF E = Z (m st) (turnQ k QF E) E := by
  unfold turnL
  cases m st with
  | ok f s => cases f <;> rfl
  | err x s => rfl
  | bad => rfl
def kX (ρ : Rho) (QF : KF) : Exn → Sto → Prop := fun x s => QF (.exc x ρ) s
@[simp ↓] theorem kX_at {ρ : Rho} {QF : KF} {x : Exn} {s : Sto} : kX ρ QF x s = (QF (.exc x ρ) s) := propext Iff.rfl
def kDrop (ρ : Rho) (QF : KF) : PV → Sto → Prop := fun _ s => QF (.next ρ) s
@[simp ↓] theorem kDrop_at {ρ : Rho} {QF : KF} {a : PV} {s : Sto} : kDrop ρ QF a s = (QF (.next ρ) s) := propext Iff.rfl
@[simp ↓] theorem Z_sDrop {me : ME1} : Z (sDrop me ρ st) QF E = Z (me ρ st) (kDrop ρ QF) (kX ρ QF) := by
  unfold sDrop; rw [Z_onErr]; rfl
def kRet (QF : KF) : PV → Sto → Prop := fun v s => QF (.ret v) s
@[simp ↓] theorem kRet_at {QF : KF} {v : PV} {s : Sto} : kRet QF v s = (QF (.ret v) s) := propext Iff.rfl
@[simp ↓] theorem Z_sRet {me : ME1} : Z (sRet me ρ st) QF E = Z (me ρ st) (kRet QF) (kX ρ QF) := by
  unfold sRet; rw [Z_onErr]; rfl
def kSet (i : Nat) (ρ : Rho) (QF : KF) : PV → Sto → Prop := fun v s => QF (.next (ρ.set i (some v))) s
@[simp ↓] theorem kSet_at {i : Nat} {ρ : Rho} {QF : KF} {v : PV} {s : Sto} : kSet i ρ QF v s = (QF (.next (ρ.set i (some v))) s) := propext Iff.rfl
@[simp ↓] theorem Z_sSet {i : Nat} {me : ME1} : Z (sSet i me ρ st) QF E = Z (me ρ st) (kSet i ρ QF) (kX ρ QF) := by
  unfold sSet; rw [Z_onErr]; rfl
def kSIf (m : MS1) (m' : MS1) (ρ : Rho) (QF : KF) (E : KX) : Bool → Sto → Prop := fun c s => if c = true then Z (m ρ s) QF E else Z (m' ρ s) QF E
@[simp ↓] theorem kSIf_t {m : MS1} {m' : MS1} {ρ : Rho} {QF : KF} {E : KX} {s : Sto} : kSIf m m' ρ QF E true s = (Z (m ρ s) QF E) := propext Iff.rfl
@[simp ↓] theorem kSIf_f {m : MS1} {m' : MS1} {ρ : Rho} {QF : KF} {E : KX} {s : Sto} : kSIf m m' ρ QF E false s = (Z (m' ρ s) QF E) := propext Iff.rfl
theorem kSIf_of {m : MS1} {m' : MS1} {ρ : Rho} {QF : KF} {E : KX} {c : Bool} {s : Sto} (h : c = true → Z (m ρ s) QF E) (h' : c = false → Z (m' ρ s) QF E) : kSIf m m' ρ QF E c s := by
  cases c
  · exact h' rfl
  · exact h rfl
@[simp ↓] theorem Z_sIf {t : MT1} {m m' : MS1} : Z (sIf t m m' ρ st) QF E = Z (t ρ st) (kSIf m m' ρ QF E) (kX ρ QF) := by
  unfold sIf; rw [Z_onErr]; congr 1; funext c s; cases c <;> rfl
def kNx (QF : KF) : Rho → Sto → Prop := fun ρ' s => QF (.next ρ') s
@[simp ↓] theorem kNx_at {QF : KF} {ρ' : Rho} {s : Sto} : kNx QF ρ' s = (QF (.next ρ') s) := propext Iff.rfl
def kAsg (g : GM) (ρ : Rho) (QF : KF) : PV → Sto → Prop := fun v s => Z (g v ρ s) (kNx QF) (kX ρ QF)
@[simp ↓] theorem kAsg_at {g : GM} {ρ : Rho} {QF : KF} {v : PV} {s : Sto} : kAsg g ρ QF v s = (Z (g v ρ s) (kNx QF) (kX ρ QF)) := propext Iff.rfl
@[simp ↓] theorem Z_sAsg {me : ME1} {g : GM} : Z (sAsg me g ρ st) QF E = Z (me ρ st) (kAsg g ρ QF) (kX ρ QF) := by
  unfold sAsg; rw [Z_onErr]; congr 1; funext v s; rw [Z_onErr]; rfl
def kG3 (ρ : Rho) (QR : KR) : Unit → Sto → Prop := fun _ s => QR ρ s
@[simp ↓] theorem kG3_at {ρ : Rho} {QR : KR} {a : Unit} {s : Sto} : kG3 ρ QR a s = (QR ρ s) := propext Iff.rfl
def kG2 (o : PV) (p : PV) (ρ : Rho) (QR : KR) (E : KX) : PV → Sto → Prop := fun i s => Z (setM o i p s) (kG3 ρ QR) E
@[simp ↓] theorem kG2_at {o : PV} {p : PV} {ρ : Rho} {QR : KR} {E : KX} {i : PV} {s : Sto} : kG2 o p ρ QR E i s = (Z (setM o i p s) (kG3 ρ QR) E) := propext Iff.rfl
def kG1 (mi : ME1) (p : PV) (ρ : Rho) (QR : KR) (E : KX) : PV → Sto → Prop := fun o s => Z (mi ρ s) (kG2 o p ρ QR E) E
@[simp ↓] theorem kG1_at {mi : ME1} {p : PV} {ρ : Rho} {QR : KR} {E : KX} {o : PV} {s : Sto} : kG1 mi p ρ QR E o s = (Z (mi ρ s) (kG2 o p ρ QR E) E) := propext Iff.rfl
@[simp ↓] theorem Z_gSub {mo mi : ME1} {p : PV} : Z (gSubM mo mi p ρ st) QR E = Z (mo ρ st) (kG1 mi p ρ QR E) E := by
  unfold gSubM; rw [Z_bind]; simp only [Z_bind]; rfl
def kGs (r : GsM) (xs : List PV) (QR : KR) (E : KX) : Rho → Sto → Prop := fun ρ1 s => Z (r xs ρ1 s) QR E
@[simp] theorem kGs_at {r : GsM} {xs : List PV} {QR : KR} {E : KX} {ρ1 : Rho} {s : Sto} : kGs r xs QR E ρ1 s = (Z (r xs ρ1 s) QR E) := propext Iff.rfl
@[simp ↓] theorem Z_gsCons {g : GM} {r : GsM} {x : PV} {xs : List PV} : Z (gsCons g r (x :: xs) ρ st) QR E = Z (g x ρ st) (kGs r xs QR E) E0 := by
  unfold gsCons; dsimp only; rw [Z_bind, Z_calm]; rfl
@[simp ↓] theorem Z_gsNil : Z (gsNil [] ρ st) QR E = QR ρ st := propext Iff.rfl
@[simp ↓] theorem Z_gT {m : Nat} {r : GsM} {xs : List PV} : Z (gT m r (.tup xs) ρ st) QR E = if xs.length = m then Z (r xs ρ st) QR E0 else False := by
  unfold gT; dsimp only; rw [Z_ite]; by_cases h : xs.length = m
  · rw [if_pos h, if_pos h, Z_calm]
  · rw [if_neg h, if_neg h]; rfl
def kFor (g : GM) (b : MS1) (ρ : Rho) (QF : KF) (E : KX) : List PV → Sto → Prop := fun ps s => Z (forL g b ps ρ s) QF E
@[simp ↓] theorem kFor_at {g : GM} {b : MS1} {ρ : Rho} {QF : KF} {E : KX} {ps : List PV} {s : Sto} : kFor g b ρ QF E ps s = (Z (forL g b ps ρ s) QF E) := propext Iff.rfl
@[simp ↓] theorem Z_sFor {mi : ML1} {g : GM} {b : MS1} : Z (sFor mi g b ρ st) QF E = Z (mi ρ st) (kFor g b ρ QF E) (kX ρ QF) := by
  unfold sFor; rw [Z_onErr]; rfl
theorem Z_forL_nil {g : GM} {b : MS1} : Z (forL g b [] ρ st) QF E = QF (.next ρ) st := propext Iff.rfl
def kF1 (g : GM) (b : MS1) (ps : List PV) (QF : KF) (E : KX) : Rho → Sto → Prop := fun ρ1 s => Z (b ρ1 s) (turnQ (forL g b ps) QF E) E
@[simp] theorem kF1_at {g : GM} {b : MS1} {ps : List PV} {QF : KF} {E : KX} {ρ1 : Rho} {s : Sto} : kF1 g b ps QF E ρ1 s = (Z (b ρ1 s) (turnQ (forL g b ps) QF E) E) := propext Iff.rfl
theorem Z_forL {g : GM} {b : MS1} {p : PV} {ps : List PV} : Z (forL g b (p :: ps) ρ st) QF E = Z (g p ρ st) (kF1 g b ps QF E) (kX ρ QF) := by
  rw [forL, Z_onErr]
  simp only [Z_turn]
  rfl
def kIt (QL : KLs) (E : KX) : PV → Sto → Prop := fun x s => Z (itemsM x s) QL E
@[simp ↓] theorem kIt_at {QL : KLs} {E : KX} {x : PV} {s : Sto} : kIt QL E x s = (Z (itemsM x s) QL E) := propext Iff.rfl
@[simp ↓] theorem Z_iSeq {m : ME1} : Z (iSeq m ρ st) QL E = Z (m ρ st) (kIt QL E) E := by
  unfold iSeq; rw [Z_bind]; rfl
def kFL (f : List PV → M (List PV)) (QL : KLs) (E : KX) : List PV → Sto → Prop := fun xs s => Z (f xs s) QL E
@[simp ↓] theorem kFL_at {f : List PV → M (List PV)} {QL : KLs} {E : KX} {xs : List PV} {s : Sto} : kFL f QL E xs s = (Z (f xs s) QL E) := propext Iff.rfl
@[simp ↓] theorem Z_iCall {f : List PV → M (List PV)} {m : ML1} : Z (iCall f m ρ st) QL E = Z (m ρ st) (kFL f QL E) E := by
  unfold iCall; rw [Z_bind]; rfl
def kS3 (f : PV → Option Int → Option Int → M PV) (x : PV) (l : Option Int) (QP : KP) (E : KX) : Option Int → Sto → Prop := fun h s => Z (f x l h s) QP E
@[simp ↓] theorem kS3_at {f : PV → Option Int → Option Int → M PV} {x : PV} {l : Option Int} {QP : KP} {E : KX} {h : Option Int} {s : Sto} : kS3 f x l QP E h s = (Z (f x l h s) QP E) := propext Iff.rfl
def kS2 (f : PV → Option Int → Option Int → M PV) (mh : Rho → M (Option Int)) (ρ : Rho) (x : PV) (QP : KP) (E : KX) : Option Int → Sto → Prop := fun l s => Z (mh ρ s) (kS3 f x l QP E) E
@[simp ↓] theorem kS2_at {f : PV → Option Int → Option Int → M PV} {mh : Rho → M (Option Int)} {ρ : Rho} {x : PV} {QP : KP} {E : KX} {l : Option Int} {s : Sto} : kS2 f mh ρ x QP E l s = (Z (mh ρ s) (kS3 f x l QP E) E) := propext Iff.rfl
def kS1 (f : PV → Option Int → Option Int → M PV) (ml : Rho → M (Option Int)) (mh : Rho → M (Option Int)) (ρ : Rho) (QP : KP) (E : KX) : PV → Sto → Prop := fun x s => Z (ml ρ s) (kS2 f mh ρ x QP E) E
@[simp ↓] theorem kS1_at {f : PV → Option Int → Option Int → M PV} {ml : Rho → M (Option Int)} {mh : Rho → M (Option Int)} {ρ : Rho} {QP : KP} {E : KX} {x : PV} {s : Sto} : kS1 f ml mh ρ QP E x s = (Z (ml ρ s) (kS2 f mh ρ x QP E) E) := propext Iff.rfl
@[simp ↓] theorem Z_eSl {f : PV → Option Int → Option Int → M PV} {me : ME1} {ml mh : Rho → M (Option Int)} : Z (eSl f me ml mh ρ st) QP E = Z (me ρ st) (kS1 f ml mh ρ QP E) E := by
  unfold eSl; rw [Z_bind]; simp only [Z_bind]; rfl
def kO2 (QO : KO) : Int → Sto → Prop := fun i s => QO (some i) s
@[simp ↓] theorem kO2_at {QO : KO} {i : Int} {s : Sto} : kO2 QO i s = (QO (some i) s) := propext Iff.rfl
def kO1 (QO : KO) (E : KX) : PV → Sto → Prop := fun x s => Z (asI x s) (kO2 QO) E
@[simp ↓] theorem kO1_at {QO : KO} {E : KX} {x : PV} {s : Sto} : kO1 QO E x s = (Z (asI x s) (kO2 QO) E) := propext Iff.rfl
@[simp ↓] theorem Z_oSome {m : ME1} : Z (oSome m ρ st) QO E = Z (m ρ st) (kO1 QO E) E := by
  unfold oSome; rw [Z_bind]; simp only [Z_bind]; rfl
def kP3 (k : PV) (v : PV) (QD : KD) : List (PV × PV) → Sto → Prop := fun ps s => QD ((k, v) :: ps) s
@[simp ↓] theorem kP3_at {k : PV} {v : PV} {QD : KD} {ps : List (PV × PV)} {s : Sto} : kP3 k v QD ps s = (QD ((k, v) :: ps) s) := propext Iff.rfl
def kP2 (ms : List (ME1 × ME1)) (ρ : Rho) (k : PV) (QD : KD) (E : KX) : PV → Sto → Prop := fun v s => Z (pairsM ms ρ s) (kP3 k v QD) E
@[simp ↓] theorem kP2_at {ms : List (ME1 × ME1)} {ρ : Rho} {k : PV} {QD : KD} {E : KX} {v : PV} {s : Sto} : kP2 ms ρ k QD E v s = (Z (pairsM ms ρ s) (kP3 k v QD) E) := propext Iff.rfl
def kP1 (mv : ME1) (ms : List (ME1 × ME1)) (ρ : Rho) (QD : KD) (E : KX) : PV → Sto → Prop := fun k s => Z (mv ρ s) (kP2 ms ρ k QD E) E
@[simp ↓] theorem kP1_at {mv : ME1} {ms : List (ME1 × ME1)} {ρ : Rho} {QD : KD} {E : KX} {k : PV} {s : Sto} : kP1 mv ms ρ QD E k s = (Z (mv ρ s) (kP2 ms ρ k QD E) E) := propext Iff.rfl
@[simp ↓] theorem Z_pairsN : Z (pairsM [] ρ st) QD E = QD [] st := propext Iff.rfl
@[simp ↓] theorem Z_pairsC {mk mv : ME1} {ms : List (ME1 × ME1)} : Z (pairsM ((mk, mv) :: ms) ρ st) QD E = Z (mk ρ st) (kP1 mv ms ρ QD E) E := by
  rw [pairsM, Z_bind]; simp only [Z_bind]; rfl
def kD (QP : KP) : List (PV × PV) → Sto → Prop := fun ps s => if keysOk ps = true ∧ ps.length ≤ 15 then QP (.loc s.length) (s ++ [.dct (mergeP [] ps)]) else False
@[simp ↓] theorem kD_at {QP : KP} {ps : List (PV × PV)} {s : Sto} : kD QP ps s = (if keysOk ps = true ∧ ps.length ≤ 15 then QP (.loc s.length) (s ++ [.dct (mergeP [] ps)]) else False) := propext Iff.rfl
@[simp ↓] theorem Z_eDct {ms : List (ME1 × ME1)} : Z (eDct ms ρ st) QP E = Z (pairsM ms ρ st) (kD QP) E := by
  unfold eDct M.bind
  cases pairsM ms ρ st with
  | ok ps s => exact Z_iteR
  | err x s => rfl
  | bad => rfl
@[simp ↓] theorem Z_eDct0 : Z (eDct0 ρ st) QP E = QP (.loc st.length) (st ++ [.dct []]) := propext Iff.rfl
def kLE (k : List PV → M PV) (QP : KP) (E : KX) : List PV → Sto → Prop := fun acc s => Z (k acc s) QP E
@[simp ↓] theorem kLE_at {k : List PV → M PV} {QP : KP} {E : KX} {acc : List PV} {s : Sto} : kLE k QP E acc s = (Z (k acc s) QP E) := propext Iff.rfl
def kLc (k : List PV → M PV) (g : GM) (t : MT1) (e : ME1) (vs : List Nat) (ρ : Rho) (QP : KP) (E : KX) : List PV → Sto → Prop := fun ps s => Z (lcL g t e (wipeP ρ vs) ps [] s) (kLE k QP E) E
@[simp ↓] theorem kLc_at {k : List PV → M PV} {g : GM} {t : MT1} {e : ME1} {vs : List Nat} {ρ : Rho} {QP : KP} {E : KX} {ps : List PV} {s : Sto} : kLc k g t e vs ρ QP E ps s = (Z (lcL g t e (wipeP ρ vs) ps [] s) (kLE k QP E) E) := propext Iff.rfl
@[simp ↓] theorem Z_eLc {k : List PV → M PV} {mi : ML1} {g : GM} {t : MT1} {e : ME1} {vs : List Nat} : Z (eLc k mi g t e vs ρ st) QP E = Z (mi ρ st) (kLc k g t e vs ρ QP E) E := by
  unfold eLc; rw [Z_bind]; simp only [Z_bind]; rfl
@[simp ↓] theorem Z_lcV {acc : List PV} : Z (lcV acc st) QP E = QP (.lst acc) st := propext Iff.rfl
@[simp ↓] theorem Z_lcN {acc : List PV} : Z (lcN acc st) QP E = QP (.loc st.length) (st ++ [.lst acc]) := propext Iff.rfl
@[simp ↓] theorem Z_tYes : Z (tYesM ρ st) QB E = QB true st := propext Iff.rfl
@[simp ↓] theorem wipeP_nil {ρ : Rho} : wipeP ρ [] = ρ := rfl
@[simp ↓] theorem wipeP_cons {ρ : Rho} {v : Nat} {vs : List Nat} : wipeP ρ (v :: vs) = (wipeP ρ vs).set v none := rfl
theorem lc_nil {g : GM} {t : MT1} {e : ME1} {ρ0 : Rho} {acc : List PV} : Z (lcL g t e ρ0 [] acc st) QL E = QL acc st := propext Iff.rfl
theorem lc_cons {g : GM} {t : MT1} {e : ME1} {ρ0 : Rho} {p : PV} {ps acc : List PV} : Z (lcL g t e ρ0 (p :: ps) acc st) QL E = Z (g p ρ0 st) (fun ρ1 s => Z (t ρ1 s) (fun c s => if c = true then Z (e ρ1 s) (fun y s => if acc.length < 16777216 then Z (lcL g t e ρ0 ps (acc ++ [y]) s) QL E else False) E0 else Z (lcL g t e ρ0 ps acc s) QL E) E0) E0 := by
  rw [lcL, Z_bind, Z_calm]
  congr 1; funext ρ1 s
  rw [Z_bind, Z_calm]
  congr 1; funext c s
  cases c with
  | false => rfl
  | true =>
    show Z (M.bind _ _ _) _ _ = Z _ _ _
    rw [Z_bind, Z_calm]
    congr 1; funext y s
    exact Z_ite
theorem lc_inv {g : GM} {t : MT1} {e : ME1} {ρ0 : Rho} (I : List PV → List PV → Sto → Prop) (hs : ∀ p ps acc st, I (p :: ps) acc st → Z (g p ρ0 st) (fun ρ1 s => Z (t ρ1 s) (fun c s => if c = true then Z (e ρ1 s) (fun y s => acc.length < 16777216 ∧ I ps (acc ++ [y]) s) E0 else I ps acc s) E0) E0) : ∀ (ps acc : List PV) (st : Sto), I ps acc st →
    (∀ acc st, I [] acc st → QL acc st) → Z (lcL g t e ρ0 ps acc st) QL E
  | [], acc, st, h, hq => hq acc st h
  | p :: ps, acc, st, h, hq => by
    rw [lcL, Z_bind, Z_calm]
    refine (hs p ps acc st h).go fun ρ1 s h1 => ?_
    rw [Z_bind, Z_calm]
    refine h1.go fun c s h2 => ?_
    cases c with
    | false => exact lc_inv I hs ps acc s h2 hq
    | true =>
      show Z (M.bind _ _ _) _ _
      rw [Z_bind, Z_calm]
      refine Z.go (show Z (e ρ1 s) (fun y s => acc.length < 16777216 ∧ I ps (acc ++ [y]) s) E0 from h2) fun y s h3 => ?_
      rw [if_pos h3.1]
      exact lc_inv I hs ps (acc ++ [y]) s h3.2 hq
theorem for_inv {g : GM} {b : MS1} (I : List PV → Rho → Sto → Prop) : ∀ (ps : List PV) (ρ : Rho) (st : Sto), I ps ρ st → (∀ p ps ρ st, I (p :: ps) ρ st → Z (g p ρ st) (fun ρ1 s => Z (b ρ1 s) (fun fl s2 => (∃ ρ2, (fl = .next ρ2 ∨ fl = .cont ρ2) ∧ I ps ρ2 s2) ∨ (∃ ρ2, fl = .brk ρ2 ∧ QF (.next ρ2) s2) ∨ (∃ v, fl = .ret v ∧ QF fl s2)) E0) E0) →
    (∀ ρ st, I [] ρ st → QF (.next ρ) st) → Z (forL g b ps ρ st) QF E
  | [], ρ, st, h, _, hq => by rw [Z_forL_nil]; exact hq ρ st h
  | p :: ps, ρ, st, h, hs, hq => by
    rw [Z_forL]
    refine (hs p ps ρ st h).go fun ρ1 s h1 => Z.go h1 fun fl s2 h2 => ?_
    rcases h2 with ⟨ρ3, e | e, h3⟩ | ⟨ρ3, e, h3⟩ | ⟨v, e, h3⟩
    · subst e; exact for_inv I ps _ s2 h3 hs hq
    · subst e; exact for_inv I ps _ s2 h3 hs hq
    · subst e; exact h3
    · subst e; exact h3
end
end MP

set_option maxRecDepth 100000
set_option maxHeartbeats 1000000
namespace MP
open PySem L2
@[simp] theorem atI_0 {α : Type} {x0 : α} {l : List α} : L2.atI (x0 :: l) (0 : Int) = some x0 := by
  unfold L2.atI L2.ixN
  rw [if_pos (by omega), if_pos (by simp only [List.length_cons]; omega)]
  rfl
@[simp] theorem atI_1 {α : Type} {x0 x1 : α} {l : List α} : L2.atI (x0 :: x1 :: l) (1 : Int) = some x1 := by
  unfold L2.atI L2.ixN
  rw [if_pos (by omega), if_pos (by simp only [List.length_cons]; omega)]
  rfl
@[simp] theorem atI_2 {α : Type} {x0 x1 x2 : α} {l : List α} : L2.atI (x0 :: x1 :: x2 :: l) (2 : Int) = some x2 := by
  unfold L2.atI L2.ixN
  rw [if_pos (by omega), if_pos (by simp only [List.length_cons]; omega)]
  rfl
@[simp] theorem atI_3 {α : Type} {x0 x1 x2 x3 : α} {l : List α} : L2.atI (x0 :: x1 :: x2 :: x3 :: l) (3 : Int) = some x3 := by
  unfold L2.atI L2.ixN
  rw [if_pos (by omega), if_pos (by simp only [List.length_cons]; omega)]
  rfl
@[simp] theorem atI_4 {α : Type} {x0 x1 x2 x3 x4 : α} {l : List α} : L2.atI (x0 :: x1 :: x2 :: x3 :: x4 :: l) (4 : Int) = some x4 := by
  unfold L2.atI L2.ixN
  rw [if_pos (by omega), if_pos (by simp only [List.length_cons]; omega)]
  rfl
@[simp] theorem atI_5 {α : Type} {x0 x1 x2 x3 x4 x5 : α} {l : List α} : L2.atI (x0 :: x1 :: x2 :: x3 :: x4 :: x5 :: l) (5 : Int) = some x5 := by
  unfold L2.atI L2.ixN
  rw [if_pos (by omega), if_pos (by simp only [List.length_cons]; omega)]
  rfl
@[simp] theorem atI_6 {α : Type} {x0 x1 x2 x3 x4 x5 x6 : α} {l : List α} : L2.atI (x0 :: x1 :: x2 :: x3 :: x4 :: x5 :: x6 :: l) (6 : Int) = some x6 := by
  unfold L2.atI L2.ixN
  rw [if_pos (by omega), if_pos (by simp only [List.length_cons]; omega)]
  rfl
@[simp] theorem atI_7 {α : Type} {x0 x1 x2 x3 x4 x5 x6 x7 : α} {l : List α} : L2.atI (x0 :: x1 :: x2 :: x3 :: x4 :: x5 :: x6 :: x7 :: l) (7 : Int) = some x7 := by
  unfold L2.atI L2.ixN
  rw [if_pos (by omega), if_pos (by simp only [List.length_cons]; omega)]
  rfl
section
variable {α β : Type} {QL : List PV → Sto → Prop} {st : Sto} {ρ : Rho} {Q : α → Sto → Prop} {E : Exn → Sto → Prop} {QP : PV → Sto → Prop} {QF : Fl → Sto → Prop} {QU : Unit → Sto → Prop} {i j : Int} {a b : List Nat} {xs ys : List PV} {x y : PV} {m : Nat}
def runQ (Q : PV → Sto → Prop) (E : Exn → Sto → Prop) : Fl → Sto → Prop
  | .next _, st => Q .non st
  | .ret p, st => Q p st
  | .exc x _, st => E x st
  | _, _ => False
@[simp] theorem runQ_next : runQ QP E (.next ρ) st = QP .non st := propext Iff.rfl
@[simp] theorem runQ_ret : runQ QP E (.ret x) st = QP x st := propext Iff.rfl
@[simp] theorem runQ_exc {x : Exn} : runQ QP E (.exc x ρ) st = E x st := propext Iff.rfl
theorem Z_run {b : Rho → M Fl} {k : Nat} {ps : List PV} {ρ0 : Rho} (h : ps.map some ++ List.replicate (k - ps.length) none = ρ0) : Z (runB b k ps st) QP E = Z (b ρ0 st) (runQ QP E) E0 := by
  unfold runB
  rw [h]
  cases b ρ0 st with
  | ok f s => cases f <;> rfl
  | err x s => rfl
  | bad => rfl
@[simp ↓] theorem Z_addII : Z (addV (.int i) (.int j) st) QP E = QP (.int (i + j)) st := propext Iff.rfl
@[simp ↓] theorem Z_addSS : Z (addV (.str a) (.str b) st) QP E = if a.length + b.length ≤ 16777216 then QP (.str (a ++ b)) st else False := by unfold addV; dsimp only; rw [Z_ite]; rfl
@[simp ↓] theorem Z_addTT : Z (addV (.tup xs) (.tup ys) st) QP E = if xs.length + ys.length ≤ 16777216 then QP (.tup (xs ++ ys)) st else False := by unfold addV; dsimp only; rw [Z_ite]; rfl
@[simp ↓] theorem Z_addLL : Z (addV (.lst xs) (.lst ys) st) QP E = if xs.length + ys.length ≤ 16777216 then QP (.lst (xs ++ ys)) st else False := by unfold addV; dsimp only [listOf]; rw [Z_iteR]; rfl
@[simp ↓] theorem Z_subII : Z (subV (.int i) (.int j) st) QP E = QP (.int (i - j)) st := propext Iff.rfl
@[simp ↓] theorem Z_mulII : Z (mulV (.int i) (.int j) st) QP E = if mulOk i j = true then QP (.int (i * j)) st else False := by unfold mulV; dsimp only; rw [Z_ite]; rfl
@[simp ↓] theorem Z_mulTI : Z (mulV (.tup xs) (.int i) st) QP E = if xs ≠ [] ∧ -1000000 ≤ i ∧ i ≤ 1000 ∧ xs.length ≤ 1000 then QP (.tup (List.replicate i.toNat xs).flatten) st else False := by unfold mulV; dsimp only; rw [Z_ite]; rfl
theorem mul_left (h1 : -18446744073709551616 < i) (h2 : i < 18446744073709551616) : Z (mulV (.int i) (.int j) st) QP E = QP (.int (i * j)) st := by rw [Z_mulII, if_pos]; simp [mulOk, h1, h2]
theorem mul_right (h1 : -18446744073709551616 < j) (h2 : j < 18446744073709551616) : Z (mulV (.int i) (.int j) st) QP E = QP (.int (i * j)) st := by rw [Z_mulII, if_pos]; simp [mulOk, h1, h2]
@[simp ↓] theorem Z_fdivII : Z (fdivV (.int i) (.int j) st) QP E = if (j ≠ 0 ∧ j.natAbs < 1073741824) ∨ (0 < j ∧ j.natAbs.log2 < 9000) then QP (.int (i.fdiv j)) st else False := by unfold fdivV; dsimp only; rw [Z_ite]; rfl
@[simp ↓] theorem Z_modII : Z (modV (.int i) (.int j) st) QP E = if j ≠ 0 then QP (.int (i.fmod j)) st else False := by unfold modV; dsimp only; rw [Z_ite]; rfl
@[simp ↓] theorem Z_powII : Z (powV (.int i) (.int j) st) QP E = if 0 ≤ j ∧ j ≤ 1000000 ∧ i.natAbs < 18446744073709551616 then QP (.int (i ^ j.toNat)) st else False := by unfold powV; dsimp only; rw [Z_ite]; rfl
@[simp ↓] theorem Z_negI : Z (negV (.int i) st) QP E = QP (.int (-i)) st := propext Iff.rfl
@[simp ↓] theorem Z_ltV {p : Int → Int → Bool} : Z (ltV p (.int i) (.int j) st) QP E = QP (.bl (p i j)) st := propext Iff.rfl
theorem ibeq (i j : Int) : (i == j) = decide (i = j) := by rw [Bool.eq_iff_iff]; simp
@[simp ↓] theorem Z_eqII : Z (eqM (.int i) (.int j) st) QP E = QP (.bl (decide (i = j))) st := by
  unfold eqM; rw [if_pos (by rfl)]; show QP (.bl (i == j)) st = _; rw [ibeq]
@[simp ↓] theorem Z_neII : Z (neM (.int i) (.int j) st) QP E = QP (.bl (decide (i ≠ j))) st := by
  unfold neM; rw [if_pos (by rfl)]; show QP (.bl (!(i == j))) st = _; rw [ibeq]; simp
theorem lbeq {α : Type} [DecidableEq α] (a b : List α) : (a == b) = decide (a = b) := by rw [Bool.eq_iff_iff]; simp
@[simp ↓] theorem Z_eqSS : Z (eqM (.str a) (.str b) st) QP E = QP (.bl (decide (a = b))) st := by
  unfold eqM; rw [if_pos (by rfl)]; show QP (.bl (a == b)) st = _; rw [lbeq]
@[simp ↓] theorem Z_neSS : Z (neM (.str a) (.str b) st) QP E = QP (.bl (decide (a ≠ b))) st := by
  unfold neM; rw [if_pos (by rfl)]; show QP (.bl (!(a == b))) st = _; rw [lbeq]; simp
theorem Z_eq (h : cmpOk x y st = true) : Z (eqM x y st) QP E = QP (.bl (eqb (shal x st) (shal y st))) st := by unfold eqM; rw [if_pos h]; rfl
theorem Z_ne (h : cmpOk x y st = true) : Z (neM x y st) QP E = QP (.bl (!eqb (shal x st) (shal y st))) st := by unfold neM; rw [if_pos h]; rfl
@[simp ↓] theorem Z_isN : Z (isN x .non st) QP E = QP (.bl (nonP x)) st := propext Iff.rfl
@[simp ↓] theorem Z_notN : Z (notN x .non st) QP E = QP (.bl (!nonP x)) st := propext Iff.rfl
@[simp ↓] theorem Z_optS {v : α} : Z (optM (some v) st) Q E = Q v st := propext Iff.rfl
@[simp ↓] theorem Z_optN : Z (optM (none : Option α) st) Q E = False := propext Iff.rfl
@[simp ↓] theorem Z_ixT : Z (ixM (.tup xs) (.int i) st) QP E = Z (optM (L2.atI xs i) st) QP E := propext Iff.rfl
@[simp ↓] theorem Z_ixL : Z (ixM (.lst xs) (.int i) st) QP E = Z (optM (L2.atI xs i) st) QP E := propext Iff.rfl
@[simp ↓] theorem Z_ixZ : Z (ixM (.frz xs) (.int i) st) QP E = Z (optM (L2.atI xs i) st) QP E := propext Iff.rfl
def kIS (QP : KP) : Nat → Sto → Prop := fun c s => QP (.str [c]) s
@[simp ↓] theorem kIS_at {c : Nat} : kIS QP c st = QP (.str [c]) st := propext Iff.rfl
@[simp ↓] theorem Z_ixS : Z (ixM (.str a) (.int i) st) QP E = if a.length ≤ 16777216 then Z (optM (L2.atI a i) st) (kIS QP) E else False := by
  show Z (if a.length ≤ 16777216 then (match L2.atI a i with | some c => .ok (.str [c]) st | none => .bad) else .bad) QP E = _
  rw [Z_iteR]
  cases L2.atI a i <;> rfl
@[simp ↓] theorem Z_ixC (h : st[m]? = some (.lst xs)) : Z (ixM (.loc m) (.int i) st) QP E = Z (optM (L2.atI xs i) st) QP E := by
  unfold ixM seqOf; dsimp only; rw [h]
theorem Z_ixD {kvs : List (PV × PV)} (h : st[m]? = some (.dct kvs)) (hk : (keyOf y).isSome = true) : Z (ixM (.loc m) y st) QP E = Z (optM (lookP kvs y) st) QP E := by
  unfold ixM seqOf dctOf; dsimp only; rw [h]; dsimp only; rw [if_pos hk]
@[simp ↓] theorem Z_ixDs {kvs : List (PV × PV)} (h : st[m]? = some (.dct kvs)) : Z (ixM (.loc m) (.str a) st) QP E = Z (optM (lookP kvs (.str a)) st) QP E := Z_ixD h rfl
@[simp ↓] theorem Z_ixDi {kvs : List (PV × PV)} (h : st[m]? = some (.dct kvs)) : Z (ixM (.loc m) (.int i) st) QP E = Z (optM (lookP kvs (.int i)) st) QP E := Z_ixD h rfl
@[simp] theorem keyOf_int : keyOf (.int i) = some (.inl i) := rfl
@[simp] theorem keyOf_str : keyOf (.str a) = some (.inr ⟨a.toArray⟩) := rfl
@[simp ↓] theorem Z_lenT : Z (lenM [.tup xs] st) QP E = QP (.int xs.length) st := propext Iff.rfl
@[simp ↓] theorem Z_lenL : Z (lenM [.lst xs] st) QP E = QP (.int xs.length) st := propext Iff.rfl
@[simp ↓] theorem Z_lenZ : Z (lenM [.frz xs] st) QP E = QP (.int xs.length) st := propext Iff.rfl
@[simp ↓] theorem Z_lenS : Z (lenM [.str a] st) QP E = if a.length ≤ 16777216 then QP (.int a.length) st else False := by
  show Z (if a.length ≤ 16777216 then .ok (.int a.length) st else .bad) QP E = _; rw [Z_iteR]; rfl
@[simp ↓] theorem Z_lenC (h : st[m]? = some (.lst xs)) : Z (lenM [.loc m] st) QP E = QP (.int xs.length) st := by
  unfold lenM seqOf; dsimp only; rw [h]; rfl
@[simp ↓] theorem Z_mkTup : Z (mkTup xs st) QP E = if xs.length ≤ 16777216 then QP (.tup xs) st else False := by unfold mkTup; rw [Z_ite]; rfl
@[simp ↓] theorem Z_mkLst : Z (mkLst xs st) QP E = if xs.length ≤ 16777216 then QP (.lst xs) st else False := by unfold mkLst; rw [Z_ite]; rfl
@[simp ↓] theorem Z_mkLstN : Z (mkLstN xs st) QP E = if xs.length ≤ 16777216 then QP (.loc st.length) (st ++ [.lst xs]) else False := by unfold mkLstN; rw [Z_iteR]; rfl
@[simp ↓] theorem Z_listN (h : seqOf x st = some xs) : Z (listN [x] st) QP E = QP (.loc st.length) (st ++ [.lst xs]) := by unfold listN; dsimp only; rw [h]; rfl
@[simp ↓] theorem Z_listM (h : seqOf x st = some xs) : Z (listM [x] st) QP E = QP (.lst xs) st := by unfold listM; dsimp only; rw [h]; rfl
@[simp ↓] theorem Z_tupleM (h : seqOf x st = some xs) : Z (tupleM [x] st) QP E = QP (.tup xs) st := by unfold tupleM; dsimp only; rw [h]; rfl
@[simp] theorem seqOf_tup : seqOf (.tup xs) st = some xs := rfl
@[simp] theorem seqOf_lst : seqOf (.lst xs) st = some xs := rfl
@[simp] theorem seqOf_frz : seqOf (.frz xs) st = some xs := rfl
@[simp] theorem seqOf_loc (h : st[m]? = some (.lst xs)) : seqOf (.loc m) st = some xs := by unfold seqOf; dsimp only; rw [h]
@[simp ↓] theorem Z_setL {v : PV} {k : Nat} (h : st[m]? = some (.lst xs)) (hi : ixN xs.length i = some k) : Z (setM (.loc m) (.int i) v st) QU E = QU () (st.set m (.lst (xs.set k v))) := by
  unfold setM; dsimp only; rw [h]; dsimp only; rw [hi]; rfl
theorem Z_setD {v : PV} {kvs : List (PV × PV)} (h : st[m]? = some (.dct kvs)) (hk : (keyOf y).isSome = true) (hl : kvs.length < 16777216) : Z (setM (.loc m) y v st) QU E = QU () (st.set m (.dct (putP kvs y v))) := by
  unfold setM; dsimp only; rw [h]; dsimp only; rw [if_pos ⟨hk, hl⟩]; rfl
@[simp ↓] theorem Z_setDs {v : PV} {kvs : List (PV × PV)} (h : st[m]? = some (.dct kvs)) (hl : kvs.length < 16777216) : Z (setM (.loc m) (.str a) v st) QU E = QU () (st.set m (.dct (putP kvs (.str a) v))) := Z_setD h rfl hl
@[simp ↓] theorem Z_setDi {v : PV} {kvs : List (PV × PV)} (h : st[m]? = some (.dct kvs)) (hl : kvs.length < 16777216) : Z (setM (.loc m) (.int i) v st) QU E = QU () (st.set m (.dct (putP kvs (.int i) v))) := Z_setD h rfl hl
@[simp ↓] theorem Z_slS {lo hi : Option Int} : Z (slM (.str a) lo hi st) QP E = if a.length ≤ 16777216 then QP (.str (cutL a lo hi)) st else False := by unfold slM; dsimp only; rw [Z_ite]; rfl
@[simp ↓] theorem Z_slT {lo hi : Option Int} : Z (slM (.tup xs) lo hi st) QP E = QP (.tup (cutL xs lo hi)) st := propext Iff.rfl
@[simp ↓] theorem Z_slL {lo hi : Option Int} : Z (slM (.lst xs) lo hi st) QP E = QP (.lst (cutL xs lo hi)) st := propext Iff.rfl
theorem Z_isi {T t : String} (h : isiOk T = true) (ht : tyP x st = some t) : Z (isiM [x, .ty T] st) QP E = QP (.bl (isiT t T)) st := by unfold isiM; dsimp only; rw [if_pos h, ht]; rfl
@[simp ↓] theorem Z_isi_non_int : Z (isiM [.non, .ty "int"] st) QP E = QP (.bl false) st := Z_isi (t := "NoneType") (by decide) rfl
@[simp ↓] theorem Z_isi_bl_int {k : Bool} : Z (isiM [.bl k, .ty "int"] st) QP E = QP (.bl true) st := Z_isi (t := "bool") (by decide) rfl
@[simp ↓] theorem Z_isi_int_int : Z (isiM [.int i, .ty "int"] st) QP E = QP (.bl true) st := Z_isi (t := "int") (by decide) rfl
@[simp ↓] theorem Z_isi_str_int : Z (isiM [.str a, .ty "int"] st) QP E = QP (.bl false) st := Z_isi (t := "str") (by decide) rfl
@[simp ↓] theorem Z_isi_tup_int : Z (isiM [.tup xs, .ty "int"] st) QP E = QP (.bl false) st := Z_isi (t := "tuple") (by decide) rfl
@[simp ↓] theorem Z_isi_lst_int : Z (isiM [.lst xs, .ty "int"] st) QP E = QP (.bl false) st := Z_isi (t := "list") (by decide) rfl
@[simp ↓] theorem Z_isi_non_bool : Z (isiM [.non, .ty "bool"] st) QP E = QP (.bl false) st := Z_isi (t := "NoneType") (by decide) rfl
@[simp ↓] theorem Z_isi_bl_bool {k : Bool} : Z (isiM [.bl k, .ty "bool"] st) QP E = QP (.bl true) st := Z_isi (t := "bool") (by decide) rfl
@[simp ↓] theorem Z_isi_int_bool : Z (isiM [.int i, .ty "bool"] st) QP E = QP (.bl false) st := Z_isi (t := "int") (by decide) rfl
@[simp ↓] theorem Z_isi_str_bool : Z (isiM [.str a, .ty "bool"] st) QP E = QP (.bl false) st := Z_isi (t := "str") (by decide) rfl
@[simp ↓] theorem Z_isi_tup_bool : Z (isiM [.tup xs, .ty "bool"] st) QP E = QP (.bl false) st := Z_isi (t := "tuple") (by decide) rfl
@[simp ↓] theorem Z_isi_lst_bool : Z (isiM [.lst xs, .ty "bool"] st) QP E = QP (.bl false) st := Z_isi (t := "list") (by decide) rfl
@[simp ↓] theorem Z_isi_non_str : Z (isiM [.non, .ty "str"] st) QP E = QP (.bl false) st := Z_isi (t := "NoneType") (by decide) rfl
@[simp ↓] theorem Z_isi_bl_str {k : Bool} : Z (isiM [.bl k, .ty "str"] st) QP E = QP (.bl false) st := Z_isi (t := "bool") (by decide) rfl
@[simp ↓] theorem Z_isi_int_str : Z (isiM [.int i, .ty "str"] st) QP E = QP (.bl false) st := Z_isi (t := "int") (by decide) rfl
@[simp ↓] theorem Z_isi_str_str : Z (isiM [.str a, .ty "str"] st) QP E = QP (.bl true) st := Z_isi (t := "str") (by decide) rfl
@[simp ↓] theorem Z_isi_tup_str : Z (isiM [.tup xs, .ty "str"] st) QP E = QP (.bl false) st := Z_isi (t := "tuple") (by decide) rfl
@[simp ↓] theorem Z_isi_lst_str : Z (isiM [.lst xs, .ty "str"] st) QP E = QP (.bl false) st := Z_isi (t := "list") (by decide) rfl
@[simp ↓] theorem Z_isi_non_tuple : Z (isiM [.non, .ty "tuple"] st) QP E = QP (.bl false) st := Z_isi (t := "NoneType") (by decide) rfl
@[simp ↓] theorem Z_isi_bl_tuple {k : Bool} : Z (isiM [.bl k, .ty "tuple"] st) QP E = QP (.bl false) st := Z_isi (t := "bool") (by decide) rfl
@[simp ↓] theorem Z_isi_int_tuple : Z (isiM [.int i, .ty "tuple"] st) QP E = QP (.bl false) st := Z_isi (t := "int") (by decide) rfl
@[simp ↓] theorem Z_isi_str_tuple : Z (isiM [.str a, .ty "tuple"] st) QP E = QP (.bl false) st := Z_isi (t := "str") (by decide) rfl
@[simp ↓] theorem Z_isi_tup_tuple : Z (isiM [.tup xs, .ty "tuple"] st) QP E = QP (.bl true) st := Z_isi (t := "tuple") (by decide) rfl
@[simp ↓] theorem Z_isi_lst_tuple : Z (isiM [.lst xs, .ty "tuple"] st) QP E = QP (.bl false) st := Z_isi (t := "list") (by decide) rfl
@[simp ↓] theorem Z_isi_non_list : Z (isiM [.non, .ty "list"] st) QP E = QP (.bl false) st := Z_isi (t := "NoneType") (by decide) rfl
@[simp ↓] theorem Z_isi_bl_list {k : Bool} : Z (isiM [.bl k, .ty "list"] st) QP E = QP (.bl false) st := Z_isi (t := "bool") (by decide) rfl
@[simp ↓] theorem Z_isi_int_list : Z (isiM [.int i, .ty "list"] st) QP E = QP (.bl false) st := Z_isi (t := "int") (by decide) rfl
@[simp ↓] theorem Z_isi_str_list : Z (isiM [.str a, .ty "list"] st) QP E = QP (.bl false) st := Z_isi (t := "str") (by decide) rfl
@[simp ↓] theorem Z_isi_tup_list : Z (isiM [.tup xs, .ty "list"] st) QP E = QP (.bl false) st := Z_isi (t := "tuple") (by decide) rfl
@[simp ↓] theorem Z_isi_lst_list : Z (isiM [.lst xs, .ty "list"] st) QP E = QP (.bl true) st := Z_isi (t := "list") (by decide) rfl
@[simp ↓] theorem Z_isi_non_dict : Z (isiM [.non, .ty "dict"] st) QP E = QP (.bl false) st := Z_isi (t := "NoneType") (by decide) rfl
@[simp ↓] theorem Z_isi_bl_dict {k : Bool} : Z (isiM [.bl k, .ty "dict"] st) QP E = QP (.bl false) st := Z_isi (t := "bool") (by decide) rfl
@[simp ↓] theorem Z_isi_int_dict : Z (isiM [.int i, .ty "dict"] st) QP E = QP (.bl false) st := Z_isi (t := "int") (by decide) rfl
@[simp ↓] theorem Z_isi_str_dict : Z (isiM [.str a, .ty "dict"] st) QP E = QP (.bl false) st := Z_isi (t := "str") (by decide) rfl
@[simp ↓] theorem Z_isi_tup_dict : Z (isiM [.tup xs, .ty "dict"] st) QP E = QP (.bl false) st := Z_isi (t := "tuple") (by decide) rfl
@[simp ↓] theorem Z_isi_lst_dict : Z (isiM [.lst xs, .ty "dict"] st) QP E = QP (.bl false) st := Z_isi (t := "list") (by decide) rfl
@[simp] theorem tyP_non : tyP .non st = some "NoneType" := rfl
@[simp] theorem tyP_bl {b : Bool} : tyP (.bl b) st = some "bool" := rfl
@[simp] theorem tyP_int : tyP (.int i) st = some "int" := rfl
@[simp] theorem tyP_str : tyP (.str a) st = some "str" := rfl
@[simp] theorem tyP_tup : tyP (.tup xs) st = some "tuple" := rfl
@[simp] theorem tyP_lst : tyP (.lst xs) st = some "list" := rfl
@[simp] theorem rangeOk_iff : rangeOk i ↔ -4611686018427387904 ≤ i ∧ i < 4611686018427387904 := Iff.rfl
@[simp ↓] theorem Z_range1 (h : rangeOk i) : Z (range1 [.int i] st) QL E = QL ((List.range i.toNat).map fun (k : Nat) => .int ((0 : Int) + (k : Int))) st := by unfold range1; dsimp only; rw [if_pos h]; rfl
@[simp ↓] theorem Z_rangeN {l : Nat} (h : l ≤ 16777216) : Z (range1 [.int (l : Int)] st) QL E = QL ((List.range l).map fun (k : Nat) => .int (k : Int)) st := by
  rw [Z_range1 ⟨by omega, by omega⟩, Int.toNat_natCast]
  simp only [Int.zero_add]
@[simp ↓] theorem Z_range2 (h : rangeOk i) (h' : rangeOk j) : Z (range2 [.int i, .int j] st) QL E = QL ((List.range (j - i).toNat).map fun (k : Nat) => .int (i + (k : Int))) st := by unfold range2; dsimp only; rw [if_pos ⟨h, h'⟩]; rfl
@[simp ↓] theorem Z_itT : Z (itemsM (.tup xs) st) QL E = QL xs st := propext Iff.rfl
@[simp ↓] theorem Z_itL : Z (itemsM (.lst xs) st) QL E = QL xs st := propext Iff.rfl
@[simp ↓] theorem Z_itF : Z (itemsM (.frz xs) st) QL E = QL xs st := propext Iff.rfl
@[simp ↓] theorem Z_itS : Z (itemsM (.str a) st) QL E = QL (a.map fun c => .str [c]) st := propext Iff.rfl
@[simp ↓] theorem Z_getTab {tab : List (List Nat × PV)} : Z (getTab tab (.str a) st) QP E = QP ((lookT tab a).getD .non) st := propext Iff.rfl
@[simp ↓] theorem Z_min : Z (minM [.int i, .int j] st) QP E = QP (.int (if j < i then j else i)) st := propext Iff.rfl
@[simp ↓] theorem Z_max : Z (maxM [.int i, .int j] st) QP E = QP (.int (if j > i then j else i)) st := propext Iff.rfl
@[simp ↓] theorem Z_intI : Z (intM [.int i] st) QP E = QP (.int i) st := propext Iff.rfl
@[simp ↓] theorem Z_intB {k : Bool} : Z (intM [.bl k] st) QP E = QP (.int (if k then 1 else 0)) st := propext Iff.rfl
@[simp ↓] theorem Z_enumL : Z (enumM [.lst xs] st) QL E = QL (xs.mapIdx fun i p => .tup [.int (i : Nat), p]) st := propext Iff.rfl
@[simp ↓] theorem Z_inS {n : Bool} {c : Nat} : Z (inM n (.str [c]) (.str a) st) QP E = QP (.bl (ng n (decide (c ∈ a)))) st := propext Iff.rfl
@[simp] theorem ng_t {b : Bool} : ng true b = !b := rfl
@[simp] theorem ng_f {b : Bool} : ng false b = b := rfl
@[simp ↓] theorem Z_tyS : Z (tyC "str" (.str a) st) QU E = QU () st := propext Iff.rfl
theorem Z_join {zs : List (List Nat)} (h : seqOf x st = some (zs.map .str)) (hz : (zs.map (·.length)).sum + zs.length * a.length ≤ 16777216) : Z (joinM (.str a) [x] st) QP E = QP (.str (TL.joinL a zs)) st := by
  have e : ∀ l : List (List Nat), strsOf (l.map .str) = some l := by
    intro l; induction l with
    | nil => rfl
    | cons z l ih => rw [List.map_cons, strsOf, ih]; rfl
  unfold joinM; dsimp only; rw [h]; dsimp only; rw [e]; dsimp only; rw [if_pos hz]; rfl
theorem Z_ixG (h : seqOf x st = some xs) : Z (ixM x (.int i) st) QP E = Z (optM (L2.atI xs i) st) QP E := by unfold ixM; rw [h]
theorem Z_lenG (h : seqOf x st = some xs) : Z (lenM [x] st) QP E = QP (.int xs.length) st := by unfold lenM; dsimp only; rw [h]; rfl
@[simp ↓] theorem Z_tyL (h : st[m]? = some (.lst xs)) : Z (tyC "list" (.loc m) st) QU E = QU () st := by
  unfold tyC listOf; dsimp only; rw [h]; rfl
@[simp ↓] theorem Z_append (h : st[m]? = some (.lst xs)) (hl : xs.length < 16777216) : Z (appendM (.loc m) [x] st) QP E = QP .non (st.set m (.lst (xs ++ [x]))) := by
  unfold appendM lstCell; dsimp only; rw [h]; dsimp only; rw [if_pos hl]; rfl
theorem layPs_ints : ∀ (l : List Int), layPs (l.map .int) = true
  | [] => by simp [layPs]
  | i :: r => by rw [List.map_cons, layPs, layPs_ints r]; simp [layP]
theorem depPs_ints : ∀ (l : List Int), depPs (l.map .int) = 0
  | [] => by simp [depPs]
  | i :: r => by rw [List.map_cons, depPs, depPs_ints r]; simp [depP]
theorem eqbs_ints : ∀ (l : List Int), eqbs (l.map .int) (l.map .int) = true
  | [] => by simp [eqbs]
  | i :: r => by rw [List.map_cons, eqbs, eqbs_ints r]; simp [eqb]
theorem log2_small {m : Int} (h : m.natAbs < 1000000) : m.natAbs.log2 < 9000 := by
  by_cases h0 : m.natAbs = 0
  · rw [h0]; decide
  · exact (Nat.log2_lt h0).mpr (Nat.lt_of_lt_of_le (show m.natAbs < 2 ^ 20 by omega) (Nat.pow_le_pow_right (by omega) (by omega)))
theorem cut_to {α : Type} {l : List α} {p : Int} (h0 : 0 ≤ p) (h1 : p ≤ l.length) : cutL l none (some p) = l.take p.toNat := by
  unfold cutL HT.sIx
  simp
  have : ¬ p < 0 := by omega
  simp [this]
theorem cut_from {α : Type} {l : List α} {p : Int} (h0 : 0 ≤ p) (h1 : p ≤ l.length) : cutL l (some p) none = l.drop p.toNat := by
  have hp : ¬ p < 0 := by omega
  have hm : min p.toNat l.length = p.toNat := by omega
  show (l.drop (if p < 0 then (p + (l.length : Int)).toNat else min p.toNat l.length)).take (l.length - (if p < 0 then (p + (l.length : Int)).toNat else min p.toNat l.length)) = _
  rw [if_neg hp, hm]
  exact List.take_of_length_le (by rw [List.length_drop]; omega)
end
def sCells : List Nat := [99, 101, 108, 108, 115]
def sCount : List Nat := [99, 111, 117, 110, 116]
def sDigits : List Nat := [100, 105, 103, 105, 116, 115]
theorem getN {st : Sto} {m : Nat} {c : Cell} (h : st[m]? = some c) : m < st.length := by
  rcases Nat.lt_or_ge m st.length with h' | h'
  · exact h'
  · rw [List.getElem?_eq_none h'] at h; cases h
structure Box (st : Sto) (b c : Nat) (k : Int) : Prop where
  dct : ∃ d, st[b]? = some (.dct [(.str [99, 101, 108, 108, 115], .loc c), (.str [99, 111, 117, 110, 116], .int k), (.str [100, 105, 103, 105, 116, 115], .bl d)])
  cel : ∃ ns : List Int, ns ≠ [] ∧ st[c]? = some (.lst (ns.map .int))
theorem Box.app {st : Sto} {b c : Nat} {k : Int} (B : Box st b c k) (ys : Sto) : Box (st ++ ys) b c k := by
  obtain ⟨⟨d, hd⟩, ns, hn, hc⟩ := B
  exact ⟨⟨d, by rw [List.getElem?_append_left (getN hd), hd]⟩, ns, hn, by rw [List.getElem?_append_left (getN hc), hc]⟩
theorem Box.setN {st : Sto} {b c m : Nat} {k : Int} {x : Cell} (B : Box st b c k) (h : m ≠ b) (h' : m ≠ c) : Box (st.set m x) b c k := by
  obtain ⟨⟨d, hd⟩, ns, hn, hc⟩ := B
  exact ⟨⟨d, by rw [List.getElem?_set_ne h, hd]⟩, ns, hn, by rw [List.getElem?_set_ne h', hc]⟩
theorem Box.bl {st : Sto} {b c : Nat} {k : Int} (B : Box st b c k) : b < st.length := let ⟨_, h⟩ := B.dct; getN h
theorem Box.cl {st : Sto} {b c : Nat} {k : Int} (B : Box st b c k) : c < st.length := let ⟨_, _, h⟩ := B.cel; getN h
theorem atI_of {α : Type} {xs : List α} {i : Int} (h0 : 0 ≤ i) (h1 : i < xs.length) : L2.atI xs i = some (xs[i.toNat]'(by omega)) := by
  unfold L2.atI L2.ixN
  rw [if_pos h0, if_pos h1]
  simp [List.getElem?_eq_getElem (show i.toNat < xs.length by omega)]
theorem ixN_of {n : Nat} {i : Int} (h0 : 0 ≤ i) (h1 : i < n) : L2.ixN n i = some i.toNat := by
  unfold L2.ixN
  rw [if_pos h0, if_pos h1]
end MP

set_option maxRecDepth 100000
set_option maxHeartbeats 1000000
namespace MP
open PySem L2
mutual
def plP : PV → Bool
  | .non => true
  | .int _ => true
  | .str x => x.all fun c => decide (c < 1114112)
  | .tup xs => plPs xs
  | .lst xs => plPs xs
  | _ => false
def plPs : List PV → Bool
  | [] => true
  | x :: xs => plP x && plPs xs
end
theorem plPs_iff {xs : List PV} : plPs xs = true ↔ ∀ x ∈ xs, plP x = true := by
  induction xs with
  | nil => simp [plPs]
  | cons x xs ih => simp [plPs, ih]
mutual
theorem eqb_pl : ∀ (x y : PV), plP x = true → plP y = true → eqb x y = decide (x = y)
  | .non, y, h, h' => by cases y <;> simp [eqb]
  | .int i, y, h, h' => by
    cases y <;> simp [plP] at h' <;> simp [eqb]
    rw [ibeq]
  | .str a, y, h, h' => by
    cases y <;> simp [plP] at h' <;> simp [eqb]
    rw [lbeq]
  | .tup xs, y, h, h' => by
    cases y <;> simp [plP] at h' <;> simp [eqb]
    exact eqbs_pl xs _ (by simpa [plP] using h) h'
  | .lst xs, y, h, h' => by
    cases y <;> simp [plP] at h' <;> simp [eqb]
    exact eqbs_pl xs _ (by simpa [plP] using h) h'
  | .bl _, _, h, _ => by simp [plP] at h
  | .ty _, _, h, _ => by simp [plP] at h
  | .gl _, _, h, _ => by simp [plP] at h
  | .frz _, _, h, _ => by simp [plP] at h
  | .loc _, _, h, _ => by simp [plP] at h
theorem eqbs_pl : ∀ (x y : List PV), plPs x = true → plPs y = true → eqbs x y = decide (x = y)
  | [], y, h, h' => by cases y <;> simp [eqbs]
  | a :: x, [], h, h' => by simp [eqbs]
  | a :: x, b :: y, h, h' => by
    simp [plPs] at h h'
    rw [eqbs, eqb_pl a b h.1 h'.1, eqbs_pl x y h.2 h'.2]
    simp
end
mutual
theorem lay_pl : ∀ (x : PV), plP x = true → layP x = true
  | .non, h => by simp [layP]
  | .int i, h => by simp [layP]
  | .str a, h => by simpa [layP, plP] using h
  | .tup xs, h => by simp [layP]; exact lays_pl xs (by simpa [plP] using h)
  | .lst xs, h => by simp [layP]; exact lays_pl xs (by simpa [plP] using h)
  | .bl _, h => by simp [plP] at h
  | .ty _, h => by simp [plP] at h
  | .gl _, h => by simp [plP] at h
  | .frz _, h => by simp [plP] at h
  | .loc _, h => by simp [plP] at h
theorem lays_pl : ∀ (x : List PV), plPs x = true → layPs x = true
  | [], h => by simp [layPs]
  | a :: x, h => by
    simp [plPs] at h
    simp [layPs, lay_pl a h.1, lays_pl x h.2]
end
theorem shal_pl {x : PV} {st : Sto} (h : plP x = true) : shal x st = x := by
  cases x <;> simp [plP] at h <;> simp [shal]
def okP (x : PV) : Bool := plP x && decide (depP x ≤ 64)
theorem cmp_ok {x y : PV} {st : Sto} (hx : okP x = true) (hy : okP y = true) : cmpOk x y st = true := by
  simp [okP] at hx hy
  simp [cmpOk, shal_pl hx.1, shal_pl hy.1, lay_pl _ hx.1, lay_pl _ hy.1, hx.2, hy.2]
theorem Z_eqP {x y : PV} {st : Sto} {Q : PV → Sto → Prop} {E : Exn → Sto → Prop} (hx : okP x = true) (hy : okP y = true) : Z (eqM x y st) Q E = Q (.bl (decide (x = y))) st := by
  rw [Z_eq (cmp_ok hx hy)]
  simp [okP] at hx hy
  rw [shal_pl hx.1, shal_pl hy.1, eqb_pl _ _ hx.1 hy.1]
theorem Z_neP {x y : PV} {st : Sto} {Q : PV → Sto → Prop} {E : Exn → Sto → Prop} (hx : okP x = true) (hy : okP y = true) : Z (neM x y st) Q E = Q (.bl (!decide (x = y))) st := by
  rw [Z_ne (cmp_ok hx hy)]
  simp [okP] at hx hy
  rw [shal_pl hx.1, shal_pl hy.1, eqb_pl _ _ hx.1 hy.1]
def fpl : PV → Bool
  | .non => true
  | .int _ => true
  | .str _ => true
  | _ => false
theorem eqb_fpl {x y : PV} (h : fpl x = true) (h' : fpl y = true) : eqb x y = decide (x = y) := by
  cases x <;> simp [fpl] at h <;> cases y <;> simp [fpl] at h' <;> simp [eqb, ibeq, lbeq]
theorem flat_fpl {x : PV} (h : fpl x = true) : flatP x = true := by cases x <;> simp [fpl] at h <;> simp [flatP]
theorem any_fpl {x : PV} (h : fpl x = true) : ∀ {xs : List PV}, xs.all fpl = true → xs.all flatP = true ∧ (xs.any fun p => eqb p x) = decide (x ∈ xs)
  | [], _ => by simp
  | y :: xs, hs => by
    simp at hs
    obtain ⟨h1, h2⟩ := any_fpl h (xs := xs) (by simpa using hs.2)
    have e := eqb_fpl hs.1 h
    refine ⟨by simp [flat_fpl hs.1]; simpa using h1, ?_⟩
    rw [List.any_cons, h2, e]
    by_cases hy : y = x
    · subst hy; simp
    · have : ¬ x = y := fun e => hy e.symm
      simp [hy, this]
theorem Z_inP {n : Bool} {x y : PV} {xs : List PV} {st : Sto} {Q : PV → Sto → Prop} {E : Exn → Sto → Prop} (hs : seqOf y st = some xs) (hx : fpl x = true) (hf : xs.all fpl = true) : Z (inM n x y st) Q E = Q (.bl (ng n (decide (x ∈ xs)))) st := by
  obtain ⟨h1, h2⟩ := any_fpl hx hf
  have e : inM n x y st = (if (flatP x && xs.all flatP) = true then .ok (.bl (ng n (xs.any fun p => eqb p x))) st else .bad) := by
    unfold inM
    cases y with
    | str z => simp [seqOf] at hs
    | tup z => dsimp only; rw [hs]
    | lst z => dsimp only; rw [hs]
    | frz z => dsimp only; rw [hs]
    | loc z => dsimp only; rw [hs]
    | non => simp [seqOf] at hs
    | bl _ => simp [seqOf] at hs
    | int _ => simp [seqOf] at hs
    | ty _ => simp [seqOf] at hs
    | gl _ => simp [seqOf] at hs
  rw [e, if_pos (by rw [h1, flat_fpl hx]; rfl), h2]
  rfl
theorem joinNil : ∀ zs : List (List Nat), TL.joinL [] zs = zs.flatten
  | [] => rfl
  | [p] => by simp [TL.joinL]
  | p :: q :: r => by rw [TL.joinL, joinNil (q :: r)]; simp
theorem Z_joinC {l : List Nat} {st : Sto} {Q : PV → Sto → Prop} {E : Exn → Sto → Prop} (h : l.length ≤ 16777216) : Z (joinM (.str []) [.lst (l.map fun c => PV.str [c])] st) Q E = Q (.str l) st := by
  have e1 : ∀ l : List Nat, (l.map fun c => [c]).flatten = l := by
    intro l; induction l with
    | nil => rfl
    | cons x l ih => simp [ih]
  have e2 : ∀ l : List Nat, ((l.map fun c => [c]).map (·.length)).sum = l.length := by
    intro l; induction l with
    | nil => rfl
    | cons x l ih => rw [List.map_cons, List.map_cons, List.sum_cons, ih]; simp; omega
  rw [Z_join (zs := l.map fun c => [c]) (by simp) (by rw [e2]; simpa using h), joinNil, e1]
theorem str_at {a : List Nat} {i : Int} {m : Nat} (h0 : 0 ≤ i) (h1 : i < m) (hm : m ≤ a.length) (ha : ∀ c ∈ a, c < 1114112) : ∃ c, L2.atI a i = some c ∧ c < 1114112 := ⟨_, atI_of h0 (by omega), ha _ (List.getElem_mem _)⟩
def Sg (z : List Nat) (m : Nat) : Prop := z.length ≤ m ∧ ∀ c ∈ z, c < 1114112
theorem Sg.app {a b : List Nat} {m k : Nat} (h : Sg a m) (h' : Sg b k) : Sg (a ++ b) (m + k) := ⟨by have := h.1; have := h'.1; simp; omega, fun c hc => by
  rcases List.mem_append.mp hc with hc | hc
  · exact h.2 c hc
  · exact h'.2 c hc⟩
theorem Sg.mono {a : List Nat} {m k : Nat} (h : Sg a m) (hk : m ≤ k) : Sg a k := ⟨Nat.le_trans h.1 hk, h.2⟩
theorem Sg.cut {a : List Nat} {m : Nat} {x y : Option Int} (h : Sg a m) : Sg (cutL a x y) m := by
  unfold cutL
  exact ⟨Nat.le_trans (by simp; omega) h.1, fun c hc => h.2 c (List.mem_of_mem_drop (List.mem_of_mem_take hc))⟩
@[simp ↓] theorem Z_slF {xs : List PV} {lo hi : Option Int} {st : Sto} {Q : PV → Sto → Prop} {E : Exn → Sto → Prop} : Z (slM (.frz xs) lo hi st) Q E = Q (.lst (cutL xs lo hi)) st := propext Iff.rfl
theorem cut_map {α β : Type} (f : α → β) {xs : List α} {lo hi : Option Int} : cutL (xs.map f) lo hi = (cutL xs lo hi).map f := by
  unfold cutL; rw [List.length_map, List.map_take, List.map_drop]
theorem cut_len {α : Type} {xs : List α} {lo hi : Option Int} : (cutL xs lo hi).length ≤ xs.length := by
  unfold cutL; simp; omega
theorem cut_mid {α : Type} {xs : List α} {a b : Nat} : cutL xs (some (a : Int)) (some (b : Int)) = (xs.drop a).take (b - a) := by
  unfold cutL
  rw [HT.sIx_nat, HT.sIx_nat]
  apply List.ext_getElem?
  intro i
  simp only [List.getElem?_take, List.getElem?_drop]
  by_cases h : a + i < xs.length
  · rw [show min a xs.length = a by omega]
    by_cases h1 : i < b - a
    · rw [if_pos h1, if_pos (by omega)]
    · rw [if_neg h1, if_neg (by omega)]
  · rw [List.getElem?_eq_none (show xs.length ≤ a + i by omega)]
    split
    · rw [List.getElem?_eq_none (by omega)]; split <;> rfl
    · split <;> rfl
theorem cut_midlen {α : Type} {xs : List α} {a b : Nat} : (cutL xs (some (a : Int)) (some (b : Int))).length ≤ b - a := by
  rw [cut_mid]; simp; omega
section
variable {st : Sto} {Q : PV → Sto → Prop} {E : Exn → Sto → Prop} {QL : List PV → Sto → Prop} {i : Int} {a b : List Nat} {xs ys : List PV} {x : PV} {n : Bool} {tab : List (List Nat × PV)}
theorem Z_strI (h : i.natAbs.log2 < 1920) : Z (strM [.int i] st) Q E = Q (.str (intS i)) st := by unfold strM; dsimp only; rw [if_pos h]; rfl
@[simp ↓] theorem Z_strS : Z (strM [.str a] st) Q E = Q (.str a) st := propext Iff.rfl
@[simp ↓] theorem Z_inTab : Z (inTab n tab (.str a) st) Q E = Q (.bl (ng n (lookT tab a).isSome)) st := propext Iff.rfl
theorem Z_ixTab (h : lookT tab a = some x) : Z (ixTab tab (.str a) st) Q E = Q x st := by unfold ixTab; dsimp only; rw [h]; rfl
@[simp ↓] theorem Z_zipT : Z (zipM [.tup xs, .tup ys] st) QL E = QL (zipP xs ys) st := propext Iff.rfl
@[simp ↓] theorem Z_zipL : Z (zipM [.lst xs, .lst ys] st) QL E = QL (zipP xs ys) st := propext Iff.rfl
theorem Z_index {k : Nat} {r : List Nat} (h : Builtin.Str.occurrences ⟨a.toArray⟩ ⟨b.toArray⟩ 0 a.length 1 = k :: r) : Z (indexM (.str a) [.str b] st) Q E = Q (.int (k : Nat)) st := by unfold indexM; dsimp only; rw [h]; rfl
theorem intsOf_map (l : List Int) : intsOf (l.map .int) = some l := by
  induction l with
  | nil => rfl
  | cons i l ih => rw [List.map_cons, intsOf, ih]; rfl
theorem Z_sumL {l : List Int} : Z (sumM [.lst (l.map .int)] st) Q E = Q (.int l.sum) st := by
  unfold sumM; simp only [lstOf, listOf, intsOf_map]; rfl
end
theorem boolsOf_map (l : List Bool) : boolsOf (l.map .bl) = some l := by
  induction l with
  | nil => rfl
  | cons i l ih => rw [List.map_cons, boolsOf, ih]; rfl
theorem Z_allL {bs : List Bool} {st : Sto} {Q : PV → Sto → Prop} {E : Exn → Sto → Prop} : Z (allM false [.lst (bs.map .bl)] st) Q E = Q (.bl (bs.all id)) st := by
  unfold allM; simp only [listOf, boolsOf_map]; rfl
theorem Z_anyL {bs : List Bool} {st : Sto} {Q : PV → Sto → Prop} {E : Exn → Sto → Prop} : Z (allM true [.lst (bs.map .bl)] st) Q E = Q (.bl (bs.any id)) st := by
  unfold allM; simp only [listOf, boolsOf_map]; rfl
theorem Z_allR {k : Nat} {st : Sto} {Q : PV → Sto → Prop} {E : Exn → Sto → Prop} : Z (allM false [.lst (List.replicate k (.bl true))] st) Q E = Q (.bl true) st := by
  have e := Z_allL (bs := List.replicate k true) (st := st) (Q := Q) (E := E)
  have h : (List.replicate k true).all id = true := by simp
  rw [List.map_replicate, h] at e
  exact e
def kForC (f : List PV → List PV) (g : GM) (b : MS1) (ρ : Rho) (QF : KF) (E : KX) : Nat × List PV → Sto → Prop := fun nx s => Z (forG (gd nx.1 nx.2) g b (f nx.2) ρ s) QF E
@[simp ↓] theorem kForC_at {f : List PV → List PV} {g : GM} {b : MS1} {ρ : Rho} {QF : KF} {E : KX} {n : Nat} {xs : List PV} {s : Sto} : kForC f g b ρ QF E (n, xs) s = Z (forG (gd n xs) g b (f xs) ρ s) QF E := propext Iff.rfl
@[simp ↓] theorem Z_sForC {f : List PV → List PV} {mi : Rho → M (Nat × List PV)} {g : GM} {b : MS1} {ρ : Rho} {st : Sto} {QF : KF} {E : KX} : Z (sForC f mi g b ρ st) QF E = Z (mi ρ st) (kForC f g b ρ QF E) (kX ρ QF) := by
  unfold sForC; rw [Z_onErr]; rfl
def kCell (Q : Nat × List PV → Sto → Prop) : PV → Sto → Prop := fun v s => Z (atCell v s) Q E0
theorem kCell_at {Q : Nat × List PV → Sto → Prop} {n : Nat} {xs : List PV} {s : Sto} (h : s[n]? = some (.lst xs)) : kCell Q (.loc n) s = Q (n, xs) s := by
  unfold kCell atCell; dsimp only; rw [h]; rfl
@[simp ↓] theorem Z_iCell {m : ME1} {ρ : Rho} {st : Sto} {Q : Nat × List PV → Sto → Prop} {E : KX} : Z (iCell m ρ st) Q E = Z (m ρ st) (kCell Q) E := by
  unfold iCell; rw [Z_bind]
  congr 1; funext v s
  unfold kCell atCell
  cases v with
  | loc n => dsimp only; cases s[n]? with
    | none => rfl
    | some c => cases c <;> rfl
  | _ => rfl
theorem gd_of {n : Nat} {xs : List PV} {st : Sto} (h : st[n]? = some (.lst xs)) : gd n xs st = true := by unfold gd; rw [h]; simp
theorem Z_forG_nil {G : Sto → Bool} {g : GM} {b : MS1} {ρ : Rho} {st : Sto} {QF : KF} {E : KX} (h : G st = true) : Z (forG G g b [] ρ st) QF E = QF (.next ρ) st := by
  unfold forG; rw [if_pos h]; rfl
theorem Z_forG {G : Sto → Bool} {g : GM} {b : MS1} {p : PV} {ps : List PV} {ρ : Rho} {st : Sto} {QF : KF} {E : KX} (h : G st = true) : Z (forG G g b (p :: ps) ρ st) QF E = Z (g p ρ st) (fun ρ1 s => Z (b ρ1 s) (turnQ (forG G g b ps) QF E) E) (kX ρ QF) := by
  rw [forG]; dsimp only; rw [if_pos h, Z_onErr]
  congr 1; funext ρ1 s
  unfold turnL
  cases b ρ1 s with
  | ok f s' => cases f <;> rfl
  | err x s' => rfl
  | bad => rfl
theorem for_invG {G : Sto → Bool} {g : GM} {b : MS1} {QF : KF} {E : KX} (I : List PV → Rho → Sto → Prop) (hG : ∀ ps ρ st, I ps ρ st → G st = true) : ∀ (ps : List PV) (ρ : Rho) (st : Sto), I ps ρ st → (∀ p ps ρ st, I (p :: ps) ρ st → Z (g p ρ st) (fun ρ1 s => Z (b ρ1 s) (fun fl s2 => (∃ ρ2, (fl = .next ρ2 ∨ fl = .cont ρ2) ∧ I ps ρ2 s2) ∨ (∃ ρ2, fl = .brk ρ2 ∧ QF (.next ρ2) s2) ∨ (∃ v, fl = .ret v ∧ QF fl s2)) E0) E0) →
    (∀ ρ st, I [] ρ st → QF (.next ρ) st) → Z (forG G g b ps ρ st) QF E
  | [], ρ, st, h, _, hq => by rw [Z_forG_nil (hG _ _ _ h)]; exact hq ρ st h
  | p :: ps, ρ, st, h, hs, hq => by
    rw [Z_forG (hG _ _ _ h)]
    refine (hs p ps ρ st h).go fun ρ1 s h1 => Z.go h1 fun fl s2 h2 => ?_
    rcases h2 with ⟨ρ3, e | e, h3⟩ | ⟨ρ3, e, h3⟩ | ⟨v, e, h3⟩
    · subst e; exact for_invG I hG ps ρ3 s2 h3 hs hq
    · subst e; exact for_invG I hG ps ρ3 s2 h3 hs hq
    · subst e; exact h3
    · subst e; exact h3
def kLcC (f : List PV → List PV) (k : List PV → M PV) (g : GM) (t : MT1) (e : ME1) (vs : List Nat) (ρ : Rho) (QP : KP) (E : KX) : Nat × List PV → Sto → Prop := fun nx s => Z (lcG (gd nx.1 nx.2) g t e (wipeP ρ vs) (f nx.2) [] s) (kLE k QP E) E
@[simp ↓] theorem kLcC_at {f : List PV → List PV} {k : List PV → M PV} {g : GM} {t : MT1} {e : ME1} {vs : List Nat} {ρ : Rho} {QP : KP} {E : KX} {n : Nat} {xs : List PV} {s : Sto} : kLcC f k g t e vs ρ QP E (n, xs) s = Z (lcG (gd n xs) g t e (wipeP ρ vs) (f xs) [] s) (kLE k QP E) E := propext Iff.rfl
@[simp ↓] theorem Z_eLcC {f : List PV → List PV} {k : List PV → M PV} {mi : Rho → M (Nat × List PV)} {g : GM} {t : MT1} {e : ME1} {vs : List Nat} {ρ : Rho} {st : Sto} {QP : KP} {E : KX} : Z (eLcC f k mi g t e vs ρ st) QP E = Z (mi ρ st) (kLcC f k g t e vs ρ QP E) E := by
  unfold eLcC; rw [Z_bind]; simp only [Z_bind]; rfl
theorem lcG_nil {G : Sto → Bool} {g : GM} {t : MT1} {e : ME1} {ρ0 : Rho} {acc : List PV} {st : Sto} {QL : KLs} {E : KX} (h : G st = true) : Z (lcG G g t e ρ0 [] acc st) QL E = QL acc st := by unfold lcG; rw [if_pos h]; rfl
theorem lcG_cons {G : Sto → Bool} {g : GM} {t : MT1} {e : ME1} {ρ0 : Rho} {p : PV} {ps acc : List PV} {st : Sto} {QL : KLs} {E : KX} (h : G st = true) : Z (lcG G g t e ρ0 (p :: ps) acc st) QL E = Z (g p ρ0 st) (fun ρ1 s => Z (t ρ1 s) (fun c s => if c = true then Z (e ρ1 s) (fun y s => if acc.length < 16777216 then Z (lcG G g t e ρ0 ps (acc ++ [y]) s) QL E else False) E0 else Z (lcG G g t e ρ0 ps acc s) QL E) E0) E0 := by
  rw [lcG]; dsimp only; rw [if_pos h, Z_bind, Z_calm]
  congr 1; funext ρ1 s
  rw [Z_bind, Z_calm]
  congr 1; funext c s
  cases c with
  | false => rfl
  | true =>
    rw [if_pos rfl, if_pos rfl, Z_bind, Z_calm]
    congr 1; funext y s
    rw [Z_ite]
    rfl
abbrev DG : List Nat := [48, 49, 50, 51, 52, 53, 54, 55, 56, 57]
def isD (c : Nat) : Bool := decide (c ∈ DG)
theorem isD_iff (c : Nat) : isD c = true ↔ 48 ≤ c ∧ c ≤ 57 := by
  simp [isD]; omega
theorem inD {st : Sto} {b : Bool} {c : Nat} {Q : PV → Sto → Prop} {E : Exn → Sto → Prop} : Z (inM b (.str [c]) (.str DG) st) Q E = Q (.bl (ng b (isD c))) st := propext Iff.rfl
section
open PySem.NumText
theorem fold_bd : ∀ (cs : List Nat) (a : Nat), AllDigits cs → a * 10 ^ cs.length ≤ cs.foldl (fun acc c => acc * 10 + (c - 48)) a ∧ cs.foldl (fun acc c => acc * 10 + (c - 48)) a < (a + 1) * 10 ^ cs.length
  | [], a, _ => by simp
  | c :: cs, a, h => by
    have hc := h.head
    obtain ⟨h1, h2⟩ := fold_bd cs (a * 10 + (c - 48)) h.tail
    rw [List.foldl_cons, List.length_cons, Nat.pow_succ]
    constructor
    · refine Nat.le_trans ?_ h1
      rw [show a * (10 ^ cs.length * 10) = (a * 10) * 10 ^ cs.length by rw [Nat.mul_comm (10 ^ cs.length), Nat.mul_assoc]]
      exact Nat.mul_le_mul_right _ (by omega)
    · refine Nat.lt_of_lt_of_le h2 ?_
      rw [show (a + 1) * (10 ^ cs.length * 10) = ((a + 1) * 10) * 10 ^ cs.length by rw [Nat.mul_comm (10 ^ cs.length), Nat.mul_assoc]]
      exact Nat.mul_le_mul_right _ (by omega)
theorem allD {d : List Nat} (h : d.all isD = true) : AllDigits d := fun c hc => (isD_iff c).mp (List.all_eq_true.mp h c hc)
theorem Z_intS {d : List Nat} {st : Sto} {Q : PV → Sto → Prop} {E : Exn → Sto → Prop} (h : d.all isD = true) (h0 : d ≠ []) (hl : d.length ≤ 640) : Z (intM [.str d] st) Q E = Q (.int (digitsVal d : Nat)) st := by
  have e := intText_digits (x := ⟨d.toArray⟩) (by simpa using allD h) (by simpa using h0) (by show d.toArray.size ≤ 4300; simp; omega)
  unfold intM; dsimp only; rw [if_pos hl, e]
  simp
theorem val_great {c : Nat} {d : List Nat} (h : (c :: d).all isD = true) (hl : 5 ≤ d.length) (h0 : c ≠ 48) : 99999 < digitsVal (c :: d) := by
  have hc := (allD h).head
  have h1 := (fold_bd d (0 * 10 + (c - 48)) (allD h).tail).1
  have h2 : 10 ^ 5 ≤ 10 ^ d.length := Nat.pow_le_pow_right (by omega) hl
  have h3 : 1 * 10 ^ d.length ≤ (0 * 10 + (c - 48)) * 10 ^ d.length := Nat.mul_le_mul_right _ (by omega)
  unfold digitsVal
  rw [List.foldl_cons]
  omega
end
theorem Z_idxD {c : Nat} {st : Sto} {Q : PV → Sto → Prop} {E : Exn → Sto → Prop} (h : isD c = true) : Z (indexM (.str DG) [.str [c]] st) Q E = Q (.int ((c - 48 : Nat) : Int)) st := by
  have hc := (isD_iff c).mp h
  have h2 : c = 48 ∨ c = 49 ∨ c = 50 ∨ c = 51 ∨ c = 52 ∨ c = 53 ∨ c = 54 ∨ c = 55 ∨ c = 56 ∨ c = 57 := by omega
  rcases h2 with rfl | rfl | rfl | rfl | rfl | rfl | rfl | rfl | rfl | rfl <;> exact Z_index (r := []) (by decide +kernel)
section
variable {κ : Type} [DecidableEq κ]
theorem foldl_ddS : ∀ (l acc : List κ), acc.Nodup → (l.foldl ddS acc).Nodup ∧ ((l.foldl ddS acc).length = acc.length + l.length ↔ (acc ++ l).Nodup)
  | [], acc, h => by simp [h]
  | k :: l, acc, h => by
    have hl : ∀ (l acc : List κ), (l.foldl ddS acc).length ≤ acc.length + l.length := by
      intro l; induction l with
      | nil => intro acc; simp
      | cons k l ih => intro acc; have := ih (ddS acc k); have := ddS_len acc k; simp; omega
    by_cases hk : k ∈ acc
    · have e : ddS acc k = acc := if_pos hk
      obtain ⟨a, b⟩ := foldl_ddS l acc h
      rw [List.foldl_cons, e]
      refine ⟨a, fun q => ?_, fun q => ?_⟩
      · have := hl l acc; simp at q; omega
      · exfalso
        rw [List.nodup_append] at q
        exact q.2.2 k hk k (by simp) rfl
    · have e : ddS acc k = acc ++ [k] := if_neg hk
      obtain ⟨a, b⟩ := foldl_ddS l (acc ++ [k]) (by
        rw [List.nodup_append]
        refine ⟨h, by simp, fun x hx y hy => ?_⟩
        simp at hy; subst hy
        intro e; subst e; exact hk hx)
      rw [List.foldl_cons, e]
      refine ⟨a, ?_⟩
      rw [show acc.length + (k :: l).length = (acc ++ [k]).length + l.length by simp; omega, b]
      simp
theorem dd_nodup (l : List κ) : ((dd l).length = l.length) ↔ l.Nodup := by
  have := (foldl_ddS l [] List.nodup_nil).2
  simpa [dd] using this
end
theorem keysOf_str (zs : List (List Nat)) : keysOf (zs.map .str) = some (zs.map fun z => .inr ⟨z.toArray⟩) := by
  induction zs with
  | nil => rfl
  | cons z zs ih => rw [List.map_cons, keysOf, ih]; rfl
theorem Z_lenSet {x : PV} {zs : List (List Nat)} {st : Sto} {Q : PV → Sto → Prop} {E : Exn → Sto → Prop} (h : seqOf x st = some (zs.map .str)) (hl : zs.length ≤ 1000) (hq : ∀ m : Nat, (m = zs.length ↔ zs.Nodup) → m ≤ zs.length → Q (.int m) st) : Z (lenSetM x st) Q E := by
  unfold lenSetM
  rw [h]; dsimp only
  rw [keysOf_str]; dsimp only
  rw [if_pos (by simpa using hl)]
  refine hq _ ?_ ?_
  · have := dd_nodup (zs.map fun z => (Sum.inr ⟨z.toArray⟩ : L2.Key))
    rw [List.length_map] at this
    rw [this]
    refine List.pairwise_map.trans ?_
    refine ⟨fun h => h.imp fun {a b} h e => h (by rw [e]), fun h => h.imp fun {a b} h e => h (by simpa using e)⟩
  · have := dd_len (zs.map fun z => (Sum.inr ⟨z.toArray⟩ : L2.Key))
    rwa [List.length_map] at this
section
variable {st : Sto} {ρ : Rho} {QP : KP} {E : KX} {QF : KF} {n : Nat} {c m f : String} {cs : List String} {fs : List (String × PV)} {v y : PV}
@[simp] theorem lookA_nil : lookA [] f = none := rfl
@[simp] theorem lookA_cons {g : String} {r : List (String × PV)} : lookA ((g, v) :: r) f = if g = f then some v else lookA r f := rfl
@[simp] theorem putA_nil : putA f v [] = [(f, v)] := rfl
@[simp] theorem putA_cons {g : String} {w : PV} {r : List (String × PV)} : putA f v ((g, w) :: r) = if g = f then (g, v) :: r else (g, w) :: putA f v r := rfl
@[simp ↓] theorem Z_attr (h : st[n]? = some (.ins c fs)) (hc : c ∈ cs) (hl : lookA fs f = some v) : Z (attrM cs f (.loc n) st) QP E = QP v st := by
  unfold attrM; dsimp only; rw [h]; dsimp only; rw [if_pos hc, hl]; rfl
def kSA1 (cs : List String) (f : String) (mo : ME1) (ρ : Rho) (QF : KF) (E : KX) : PV → Sto → Prop := fun y s => Z (mo ρ s) (fun x s => Z (setA cs f y x s) (fun _ s => QF (.next ρ) s) (kX ρ QF)) (kX ρ QF)
@[simp ↓] theorem Z_sAttr {mo mv : ME1} : Z (sAttr cs f mo mv ρ st) QF E = Z (mv ρ st) (kSA1 cs f mo ρ QF E) (kX ρ QF) := by
  unfold sAttr kSA1; rw [Z_onErr]; congr 1; funext y s; rw [Z_onErr]; congr 1; funext x s; rw [Z_onErr]; rfl
def kSA2 (cs : List String) (f : String) (y : PV) (ρ : Rho) (QF : KF) : PV → Sto → Prop := fun x s => Z (setA cs f y x s) (fun _ s => QF (.next ρ) s) (kX ρ QF)
@[simp ↓] theorem kSA1_at {mo : ME1} {s : Sto} : kSA1 cs f mo ρ QF E y s = Z (mo ρ s) (kSA2 cs f y ρ QF) (kX ρ QF) := propext Iff.rfl
@[simp ↓] theorem kSA2_at {s : Sto} (h : s[n]? = some (.ins c fs)) (hc : c ∈ cs) (hl : fs.length < 1000) : kSA2 cs f y ρ QF (.loc n) s = QF (.next ρ) (s.set n (.ins c (putA f y fs))) := by
  unfold kSA2 setA; dsimp only; rw [h]; dsimp only; rw [if_pos ⟨hc, hl⟩]; rfl
def kMt3 (mf : List PV → M PV) (o : PV) (QP : KP) (E : KX) : List PV → Sto → Prop := fun xs s => Z (mf (o :: xs) s) QP E
@[simp ↓] theorem kMt3_at {mf : List PV → M PV} {o : PV} {xs : List PV} {s : Sto} : kMt3 mf o QP E xs s = Z (mf (o :: xs) s) QP E := propext Iff.rfl
def kMt1 (c m : String) (mf : List PV → M PV) (ma : ML1) (ρ : Rho) (QP : KP) (E : KX) : PV → Sto → Prop := fun o s => Z (insC c m o s) (fun _ s => Z (ma ρ s) (kMt3 mf o QP E) E) E
@[simp ↓] theorem Z_eMth {mf : List PV → M PV} {mo : ME1} {ma : ML1} : Z (eMth c m mf mo ma ρ st) QP E = Z (mo ρ st) (kMt1 c m mf ma ρ QP E) E := by
  unfold eMth kMt1; rw [Z_bind]; congr 1; funext o s; rw [Z_bind]; congr 1; funext u s; rw [Z_bind]; rfl
@[simp ↓] theorem kMt1_at {mf : List PV → M PV} {ma : ML1} {s : Sto} (h : s[n]? = some (.ins c fs)) (hl : lookA fs m = none) : kMt1 c m mf ma ρ QP E (.loc n) s = Z (ma ρ s) (kMt3 mf (.loc n) QP E) E := by
  unfold kMt1 insC; dsimp only; rw [h]; dsimp only; rw [if_pos ⟨rfl, hl⟩]; rfl
def kNew (QP : KP) (n : Nat) : PV → Sto → Prop := fun v s => v = .non ∧ QP (.loc n) s
@[simp ↓] theorem kNew_at {s : Sto} : kNew QP n .non s = QP (.loc n) s := by unfold kNew; simp
@[simp ↓] theorem Z_mkIns {mf : List PV → M PV} {xs : List PV} : Z (mkIns c mf xs st) QP E = Z (mf (.loc st.length :: xs) (st ++ [.ins c []])) (kNew QP st.length) E0 := by
  unfold mkIns kNew
  cases mf (.loc st.length :: xs) (st ++ [.ins c []]) with
  | ok v s => cases v <;> simp [Z]
  | err x s => rfl
  | bad => rfl
end
section
variable {st : Sto} {ρ : Rho} {QP : KP} {QL : List PV → Sto → Prop} {E : KX} {xs ys : List PV} {a : List Nat} {n j : Nat} {x y z : PV} {kvs : List (PV × PV)}
@[simp ↓] theorem Z_zipLT : Z (zipM [.lst xs, .tup ys] st) QL E = QL (zipP xs ys) st := propext Iff.rfl
@[simp ↓] theorem Z_zipTL : Z (zipM [.tup xs, .lst ys] st) QL E = QL (zipP xs ys) st := propext Iff.rfl
@[simp ↓] theorem Z_zipTS : Z (zipM [.tup xs, .str a] st) QL E = QL (zipP xs (a.map fun c => .str [c])) st := propext Iff.rfl
@[simp ↓] theorem Z_zipLS : Z (zipM [.lst xs, .str a] st) QL E = QL (zipP xs (a.map fun c => .str [c])) st := propext Iff.rfl
def kGd (x z : PV) (QP : KP) (E : KX) : PV → Sto → Prop := fun y s => Z (dgetM x y z s) QP E
def kGe1 (me : ME1) (ρ : Rho) (QP : KP) (E : KX) : PV → Sto → Prop := fun x s => Z (isDct x s) (fun _ s => Z (me ρ s) (kGd x .non QP E) E) E
@[simp ↓] theorem Z_eGet1 {mo me : ME1} : Z (eGet1 mo me ρ st) QP E = Z (mo ρ st) (kGe1 me ρ QP E) E := by
  unfold eGet1 kGe1; rw [Z_bind]; congr 1; funext o s; rw [Z_bind]; congr 1; funext u s; rw [Z_bind]; rfl
@[simp ↓] theorem kGe1_at {me : ME1} {s : Sto} (h : s[n]? = some (.dct kvs)) : kGe1 me ρ QP E (.loc n) s = Z (me ρ s) (kGd (.loc n) .non QP E) E := by
  unfold kGe1 isDct dctOf; dsimp only; rw [h]; rfl
@[simp ↓] theorem kGd_at {s : Sto} (h : s[n]? = some (.dct kvs)) (hk : (keyOf y).isSome = true) : kGd (.loc n) z QP E y s = QP ((lookP kvs y).getD z) s := by
  unfold kGd dgetM dctOf; dsimp only; rw [h]; dsimp only; rw [if_pos hk]; rfl
theorem Z_indexL (h : (flatP y && ys.all flatP) = true) (hj : idxP y ys = some j) : Z (indexL (.lst ys) [y] st) QP E = QP (.int (j : Nat)) st := by
  unfold indexL; dsimp only; rw [if_pos h, hj]; rfl
end
@[simp ↓] theorem Z_mulL {xs : List PV} {i : Int} {st : Sto} {Q : PV → Sto → Prop} {E : Exn → Sto → Prop} : Z (mulL (.lst xs) (.int i) st) Q E = if -1000000 ≤ i ∧ i ≤ 1000 ∧ xs.length ≤ 1000 then Q (.lst (List.replicate i.toNat xs).flatten) st else False := by unfold mulL; dsimp only; rw [Z_ite]; rfl
theorem Z_addN {x y : PV} {a b : List PV} {st : Sto} {Q : PV → Sto → Prop} {E : Exn → Sto → Prop} (h1 : listOf x st = some a) (h2 : listOf y st = some b) (hz : a.length + b.length ≤ 1000000) : Z (addN x y st) Q E = Q (.loc st.length) (st ++ [.lst (a ++ b)]) := by
  unfold addN; rw [h1, h2]; dsimp only; rw [if_pos (Nat.le_trans hz (by decide))]; rfl
end MP

set_option maxRecDepth 100000
namespace K21
open PySem L2 MP
def tab_COUNTED : List (List Nat × PV) := [([110, 111, 116], .int 1), ([97, 100, 100], .int 2), ([115, 117, 98], .int 2), ([109, 117, 108], .int 2), ([100, 105, 118], .int 2), ([114, 101, 115, 116], .int 2), ([108, 101, 115, 115], .int 2), ([115, 97, 109, 101], .int 2), ([112, 105, 99, 107], .int 3), ([97, 116], .int 2), ([115, 105, 122, 101], .int 1), ([112, 117, 116], .int 3), ([109, 97, 110, 121], .int 2)]
def tab_KIND_OF : List (List Nat × PV) := [([110], .str [110, 117, 109]), ([114], .str [114, 111, 119])]
def tab_OPERATIONS : List (List Nat × PV) := [([97, 100, 100], .tup [.str [110], .str [110, 110]]), ([115, 117, 98], .tup [.str [110], .str [110, 110]]), ([109, 117, 108], .tup [.str [110], .str [110, 110]]), ([100, 105, 118], .tup [.str [110], .str [110, 110]]), ([114, 101, 115, 116], .tup [.str [110], .str [110, 110]]), ([108, 101, 115, 115], .tup [.str [110], .str [110, 110]]), ([115, 97, 109, 101], .tup [.str [110], .str [110, 110]]), ([112, 105, 99, 107], .tup [.str [110], .str [110, 110, 110]]), ([99, 111, 112, 121], .tup [.str [110], .str [110]]), ([97, 116], .tup [.str [110], .str [114, 110]]), ([115, 105, 122, 101], .tup [.str [110], .str [114]]), ([112, 117, 116], .tup [.str [114], .str [114, 110, 110]]), ([109, 97, 110, 121], .tup [.str [114], .str [110, 110]]), ([109, 97, 107, 101], .tup [.str [114], .non]), ([107, 101, 101, 112], .tup [.str [114], .str [114]])]
def b_taken_in (n : Nat) : Rho → M Fl :=
  (sRet (eBin addV (eBin modV (eBin subV (eVar 0) (eC (.int (-32768)))) (eC (.int 65536))) (eC (.int (-32768)))))
def F_taken_in (n : Nat) : List PV → M PV := runB (b_taken_in n) 1
theorem z_taken_in {n : Nat} {p0 : PV} {st : Sto} {Q : PV → Sto → Prop} {E : Exn → Sto → Prop} : Z (F_taken_in n [p0] st) Q E = Z (b_taken_in n [some p0] st) (runQ Q E) E0 := Z_run rfl
def b_kinds_of (n : Nat) : Rho → M Fl :=
  (sRet (eUn (getTab tab_OPERATIONS) (eVar 0)))
def F_kinds_of (n : Nat) : List PV → M PV := runB (b_kinds_of n) 1
theorem z_kinds_of {n : Nat} {p0 : PV} {st : Sto} {Q : PV → Sto → Prop} {E : Exn → Sto → Prop} : Z (F_kinds_of n [p0] st) Q E = Z (b_kinds_of n [some p0] st) (runQ Q E) E0 := Z_run rfl
def b_divided (n : Nat) : Rho → M Fl :=
  (sSeq (sIf (eB (eBin eqM (eVar 1) (eC (.int 0)))) (sRet (eC (.int 0))) sNext)
  (sRet (eCall (F_taken_in n) (aCons (eBin fdivV (eVar 0) (eVar 1)) aNil))))
def F_divided (n : Nat) : List PV → M PV := runB (b_divided n) 2
theorem z_divided {n : Nat} {p0 p1 : PV} {st : Sto} {Q : PV → Sto → Prop} {E : Exn → Sto → Prop} : Z (F_divided n [p0, p1] st) Q E = Z (b_divided n [some p0, some p1] st) (runQ Q E) E0 := Z_run rfl
def b_done_sum (n : Nat) : Rho → M Fl :=
  (sSeq (sIf (eB (eBin eqM (eVar 0) (eC (.str [97, 100, 100])))) (sRet (eCall (F_taken_in n) (aCons (eBin addV (eVar 1) (eVar 2)) aNil))) sNext)
  (sSeq (sIf (eB (eBin eqM (eVar 0) (eC (.str [115, 117, 98])))) (sRet (eCall (F_taken_in n) (aCons (eBin subV (eVar 1) (eVar 2)) aNil))) sNext)
  (sSeq (sIf (eB (eBin eqM (eVar 0) (eC (.str [109, 117, 108])))) (sRet (eCall (F_taken_in n) (aCons (eBin mulV (eVar 1) (eVar 2)) aNil))) sNext)
  (sSeq (sIf (eB (eBin eqM (eVar 0) (eC (.str [100, 105, 118])))) (sRet (eCall (F_divided n) (aCons (eVar 1) (aCons (eVar 2) aNil)))) sNext)
  (sSeq (sIf (eB (eBin eqM (eVar 0) (eC (.str [114, 101, 115, 116])))) (sRet (eCall (F_taken_in n) (aCons (eBin subV (eVar 1) (eBin mulV (eVar 2) (eCall (F_divided n) (aCons (eVar 1) (aCons (eVar 2) aNil))))) aNil))) sNext)
  (sSeq (sIf (eB (eBin eqM (eVar 0) (eC (.str [108, 101, 115, 115])))) (sRet (eCall intM (aCons (eBin ltI (eVar 1) (eVar 2)) aNil))) sNext)
  (sRet (eCall intM (aCons (eBin eqM (eVar 1) (eVar 2)) aNil)))))))))
def F_done_sum (n : Nat) : List PV → M PV := runB (b_done_sum n) 3
theorem z_done_sum {n : Nat} {p0 p1 p2 : PV} {st : Sto} {Q : PV → Sto → Prop} {E : Exn → Sto → Prop} : Z (F_done_sum n [p0, p1, p2] st) Q E = Z (b_done_sum n [some p0, some p1, some p2] st) (runQ Q E) E0 := Z_run rfl
def b_put_at (n : Nat) : Rho → M Fl :=
  (sSeq (sIf (tOrM (eB (eBin ltI (eVar 1) (eC (.int 0)))) (eB (eBin geI (eVar 1) (eCall lenM (aCons (eVar 0) aNil))))) (sRet (eVar 0)) sNext)
  (sRet (eBin addV (eBin addV (eSl slM (eVar 0) oNone (oSome (eVar 1))) (eCall mkTup (aCons (eVar 2) aNil))) (eSl slM (eVar 0) (oSome (eBin addV (eVar 1) (eC (.int 1)))) oNone))))
def F_put_at (n : Nat) : List PV → M PV := runB (b_put_at n) 3
theorem z_put_at {n : Nat} {p0 p1 p2 : PV} {st : Sto} {Q : PV → Sto → Prop} {E : Exn → Sto → Prop} : Z (F_put_at n [p0, p1, p2] st) Q E = Z (b_put_at n [some p0, some p1, some p2] st) (runQ Q E) E0 := Z_run rfl
def b_done_row (n : Nat) : Rho → M Fl :=
  (sSeq (sIf (eB (eBin eqM (eVar 0) (eC (.str [97, 116])))) (sSeq (sSet 2 (eChain leI ltI (eC (.int 0)) (eBin ixM (eVar 1) (eC (.int 1))) (eCall lenM (aCons (eBin ixM (eVar 1) (eC (.int 0))) aNil))))
  (sRet (eIf (eB (eVar 2)) (eBin ixM (eBin ixM (eVar 1) (eC (.int 0))) (eBin ixM (eVar 1) (eC (.int 1)))) (eC (.int 0))))) sNext)
  (sSeq (sIf (eB (eBin eqM (eVar 0) (eC (.str [115, 105, 122, 101])))) (sRet (eCall lenM (aCons (eBin ixM (eVar 1) (eC (.int 0))) aNil))) sNext)
  (sSeq (sIf (eB (eBin eqM (eVar 0) (eC (.str [112, 117, 116])))) (sRet (eCall (F_put_at n) (aCons (eBin ixM (eVar 1) (eC (.int 0))) (aCons (eBin ixM (eVar 1) (eC (.int 1))) (aCons (eBin ixM (eVar 1) (eC (.int 2))) aNil))))) sNext)
  (sSeq (sIf (eB (eBin eqM (eVar 0) (eC (.str [109, 97, 110, 121])))) (sRet (eBin mulV (eCall mkTup (aCons (eBin ixM (eVar 1) (eC (.int 1))) aNil)) (eCall maxM (aCons (eC (.int 0)) (aCons (eCall minM (aCons (eC (.int 40)) (aCons (eBin ixM (eVar 1) (eC (.int 0))) aNil))) aNil))))) sNext)
  (sRet (eCall tupleM (aCons (eVar 1) aNil)))))))
def F_done_row (n : Nat) : List PV → M PV := runB (b_done_row n) 3
theorem z_done_row {n : Nat} {p0 p1 : PV} {st : Sto} {Q : PV → Sto → Prop} {E : Exn → Sto → Prop} : Z (F_done_row n [p0, p1] st) Q E = Z (b_done_row n [some p0, some p1, none] st) (runQ Q E) E0 := Z_run rfl
def b_done (n : Nat) : Rho → M Fl :=
  (sSeq (sIf (tOrM (eB (eBin eqM (eVar 0) (eC (.str [99, 111, 112, 121])))) (eB (eBin eqM (eVar 0) (eC (.str [107, 101, 101, 112]))))) (sRet (eBin ixM (eVar 1) (eC (.int 0)))) sNext)
  (sSeq (sIf (eB (eBin eqM (eVar 0) (eC (.str [112, 105, 99, 107])))) (sRet (eIf (eB (eBin neM (eBin ixM (eVar 1) (eC (.int 0))) (eC (.int 0)))) (eBin ixM (eVar 1) (eC (.int 1))) (eBin ixM (eVar 1) (eC (.int 2))))) sNext)
  (sSeq (sIf (eB (eBin (inM false) (eVar 0) (eCall mkTup (aCons (eC (.str [97, 116])) (aCons (eC (.str [115, 105, 122, 101])) (aCons (eC (.str [112, 117, 116])) (aCons (eC (.str [109, 97, 110, 121])) (aCons (eC (.str [109, 97, 107, 101])) aNil)))))))) (sRet (eCall (F_done_row n) (aCons (eVar 0) (aCons (eVar 1) aNil)))) sNext)
  (sRet (eCall (F_done_sum n) (aCons (eVar 0) (aCons (eBin ixM (eVar 1) (eC (.int 0))) (aCons (eBin ixM (eVar 1) (eC (.int 1))) aNil))))))))
def F_done (n : Nat) : List PV → M PV := runB (b_done n) 2
theorem z_done {n : Nat} {p0 p1 : PV} {st : Sto} {Q : PV → Sto → Prop} {E : Exn → Sto → Prop} : Z (F_done n [p0, p1] st) Q E = Z (b_done n [some p0, some p1] st) (runQ Q E) E0 := Z_run rfl
def L0_found_in (n : Nat) : Rho → M Fl :=
  (sIf (eB (eBin eqM (eBin ixM (eVar 2) (eC (.int 0))) (eVar 1))) (sRet (eBin ixM (eVar 2) (eC (.int 1)))) sNext)
theorem zL0_found_in {n : Nat} {ρ : Rho} {st : Sto} {Q : Fl → Sto → Prop} {E : Exn → Sto → Prop} : Z (L0_found_in n ρ st) Q E = Z ((sIf (eB (eBin eqM (eBin ixM (eVar 2) (eC (.int 0))) (eVar 1))) (sRet (eBin ixM (eVar 2) (eC (.int 1)))) sNext) ρ st) Q E := by unfold L0_found_in; rfl
def b_found_in (n : Nat) : Rho → M Fl :=
  (sSeq (sFor (iSeq (eVar 0)) (gN 2) (L0_found_in n))
  (sRet (eC .non)))
def F_found_in (n : Nat) : List PV → M PV := runB (b_found_in n) 3
theorem z_found_in {n : Nat} {p0 p1 : PV} {st : Sto} {Q : PV → Sto → Prop} {E : Exn → Sto → Prop} : Z (F_found_in n [p0, p1] st) Q E = Z (b_found_in n [some p0, some p1, none] st) (runQ Q E) E0 := Z_run rfl
def L0_path_kind (n : Nat) : Rho → M Fl :=
  (sSeq (sSet 5 (eCall (F_found_in n) (aCons (eBin ixM (eVar 0) (eC (.int 0))) (aCons (eVar 3) aNil))))
  (sSet 3 (eIf (eB (eBin isN (eVar 5) (eC .non))) (eC .non) (eCall (F_found_in n) (aCons (eVar 5) (aCons (eVar 4) aNil))))))
theorem zL0_path_kind {n : Nat} {ρ : Rho} {st : Sto} {Q : Fl → Sto → Prop} {E : Exn → Sto → Prop} : Z (L0_path_kind n ρ st) Q E = Z ((sSeq (sSet 5 (eCall (F_found_in n) (aCons (eBin ixM (eVar 0) (eC (.int 0))) (aCons (eVar 3) aNil))))   (sSet 3 (eIf (eB (eBin isN (eVar 5) (eC .non))) (eC .non) (eCall (F_found_in n) (aCons (eVar 5) (aCons (eVar 4) aNil)))))) ρ st) Q E := by unfold L0_path_kind; rfl
def b_path_kind (n : Nat) : Rho → M Fl :=
  (sSeq (sSet 3 (eGet1 (eVar 1) (eBin ixM (eVar 2) (eC (.int 0)))))
  (sSeq (sFor (iSeq (eSl slM (eVar 2) (oSome (eC (.int 1))) oNone)) (gN 4) (L0_path_kind n))
  (sRet (eVar 3))))
def F_path_kind (n : Nat) : List PV → M PV := runB (b_path_kind n) 6
theorem z_path_kind {n : Nat} {p0 p1 p2 : PV} {st : Sto} {Q : PV → Sto → Prop} {E : Exn → Sto → Prop} : Z (F_path_kind n [p0, p1, p2] st) Q E = Z (b_path_kind n [some p0, some p1, some p2, none, none, none] st) (runQ Q E) E0 := Z_run rfl
def b_kind_of_expr (n : Nat) : Rho → M Fl :=
  (sSeq (sIf (eB (eCall isiM (aCons (eVar 2) (aCons (eC (.ty "int")) aNil)))) (sRet (eC (.str [110, 117, 109]))) sNext)
  (sSeq (sIf (eB (eBin eqM (eBin ixM (eVar 2) (eC (.int 0))) (eC (.str [111, 102])))) (sRet (eCall (F_path_kind n) (aCons (eVar 0) (aCons (eVar 1) (aCons (eBin ixM (eVar 2) (eC (.int 1))) aNil))))) sNext)
  (sSeq (sIf (eB (eBin eqM (eBin ixM (eVar 2) (eC (.int 0))) (eC (.str [99, 97, 108, 108])))) (sRet (eCall (F_found_in n) (aCons (eBin ixM (eVar 0) (eC (.int 1))) (aCons (eBin ixM (eVar 2) (eC (.int 1))) aNil)))) sNext)
  (sSeq (sIf (eB (eBin eqM (eBin ixM (eVar 2) (eC (.int 0))) (eC (.str [110, 101, 119])))) (sRet (eBin ixM (eVar 2) (eC (.int 1)))) sNext)
  (sSeq (sSet 3 (eCall (F_kinds_of n) (aCons (eBin ixM (eVar 2) (eC (.int 0))) aNil)))
  (sRet (eIf (eB (eBin isN (eVar 3) (eC .non))) (eC (.str [110, 117, 109])) (eUn (ixTab tab_KIND_OF) (eBin ixM (eVar 3) (eC (.int 0)))))))))))
def F_kind_of_expr (n : Nat) : List PV → M PV := runB (b_kind_of_expr n) 4
theorem z_kind_of_expr {n : Nat} {p0 p1 p2 : PV} {st : Sto} {Q : PV → Sto → Prop} {E : Exn → Sto → Prop} : Z (F_kind_of_expr n [p0, p1, p2] st) Q E = Z (b_kind_of_expr n [some p0, some p1, some p2, none] st) (runQ Q E) E0 := Z_run rfl
def b_fault_of (n : Nat) : Rho → M Fl :=
  (sSeq (sIf (tAndM (eB (eBin (inM false) (eVar 0) (eCall mkTup (aCons (eC (.str [100, 105, 118])) (aCons (eC (.str [114, 101, 115, 116])) aNil))))) (eB (eBin eqM (eBin ixM (eVar 1) (eC (.int 1))) (eC (.int 0))))) (sRet (eC (.str [110, 111, 117, 103, 104, 116]))) sNext)
  (sSeq (sIf (tAndM (eB (eBin (inM false) (eVar 0) (eCall mkTup (aCons (eC (.str [97, 116])) (aCons (eC (.str [112, 117, 116])) aNil))))) (tNotM (eB (eChain leI ltI (eC (.int 0)) (eBin ixM (eVar 1) (eC (.int 1))) (eCall lenM (aCons (eBin ixM (eVar 1) (eC (.int 0))) aNil)))))) (sRet (eC (.str [114, 97, 110, 103, 101]))) sNext)
  (sSeq (sIf (tAndM (eB (eBin eqM (eVar 0) (eC (.str [109, 97, 110, 121])))) (tNotM (eB (eChain leI leI (eC (.int 0)) (eBin ixM (eVar 1) (eC (.int 0))) (eC (.int 40)))))) (sRet (eC (.str [108, 111, 110, 103]))) sNext)
  (sRet (eC .non)))))
def F_fault_of (n : Nat) : List PV → M PV := runB (b_fault_of n) 2
theorem z_fault_of {n : Nat} {p0 p1 : PV} {st : Sto} {Q : PV → Sto → Prop} {E : Exn → Sto → Prop} : Z (F_fault_of n [p0, p1] st) Q E = Z (b_fault_of n [some p0, some p1] st) (runQ Q E) E0 := Z_run rfl
def L0_fields_of (n : Nat) : Rho → M Fl :=
  (sIf (eB (eBin eqM (eVar 2) (eVar 1))) (sRet (eVar 3)) sNext)
theorem zL0_fields_of {n : Nat} {ρ : Rho} {st : Sto} {Q : Fl → Sto → Prop} {E : Exn → Sto → Prop} : Z (L0_fields_of n ρ st) Q E = Z ((sIf (eB (eBin eqM (eVar 2) (eVar 1))) (sRet (eVar 3)) sNext) ρ st) Q E := by unfold L0_fields_of; rfl
def b_fields_of (n : Nat) : Rho → M Fl :=
  (sSeq (sFor (iSeq (eBin ixM (eVar 0) (eC (.int 0)))) (gT 2 (gsCons (gN 2) (gsCons (gN 3) gsNil))) (L0_fields_of n))
  (sRet (eCall mkTup aNil)))
def F_fields_of (n : Nat) : List PV → M PV := runB (b_fields_of n) 4
theorem z_fields_of {n : Nat} {p0 p1 : PV} {st : Sto} {Q : PV → Sto → Prop} {E : Exn → Sto → Prop} : Z (F_fields_of n [p0, p1] st) Q E = Z (b_fields_of n [some p0, some p1, none, none] st) (runQ Q E) E0 := Z_run rfl
def L0_places_of (n : Nat) : Rho → M Fl :=
  (sSeq (sSet 6 (eCall (F_fields_of n) (aCons (eVar 0) (aCons (eVar 3) aNil))))
  (sSeq (sSet 7 (eMeth "list" indexL (eLc lcV (iSeq (eVar 6)) (gN 8) tYesM (eBin ixM (eVar 8) (eC (.int 0))) [8]) (aCons (eVar 5) aNil)))
  (sSeq (sDrop (eMeth "list" appendM (eVar 4) (aCons (eVar 7) aNil)))
  (sSet 3 (eBin ixM (eBin ixM (eVar 6) (eVar 7)) (eC (.int 1)))))))
theorem zL0_places_of {n : Nat} {ρ : Rho} {st : Sto} {Q : Fl → Sto → Prop} {E : Exn → Sto → Prop} : Z (L0_places_of n ρ st) Q E = Z ((sSeq (sSet 6 (eCall (F_fields_of n) (aCons (eVar 0) (aCons (eVar 3) aNil))))   (sSeq (sSet 7 (eMeth "list" indexL (eLc lcV (iSeq (eVar 6)) (gN 8) tYesM (eBin ixM (eVar 8) (eC (.int 0))) [8]) (aCons (eVar 5) aNil)))   (sSeq (sDrop (eMeth "list" appendM (eVar 4) (aCons (eVar 7) aNil)))   (sSet 3 (eBin ixM (eBin ixM (eVar 6) (eVar 7)) (eC (.int 1))))))) ρ st) Q E := by unfold L0_places_of; rfl
def b_places_of (n : Nat) : Rho → M Fl :=
  (sSeq (sSet 3 (eBin ixM (eVar 1) (eBin ixM (eVar 2) (eC (.int 0)))))
  (sSeq (sSet 4 (eCall mkLstN aNil))
  (sSeq (sFor (iSeq (eSl slM (eVar 2) (oSome (eC (.int 1))) oNone)) (gN 5) (L0_places_of n))
  (sRet (eCall tupleM (aCons (eVar 4) aNil))))))
def F_places_of (n : Nat) : List PV → M PV := runB (b_places_of n) 9
theorem z_places_of {n : Nat} {p0 p1 p2 : PV} {st : Sto} {Q : PV → Sto → Prop} {E : Exn → Sto → Prop} : Z (F_places_of n [p0, p1, p2] st) Q E = Z (b_places_of n [some p0, some p1, some p2, none, none, none, none, none, none] st) (runQ Q E) E0 := Z_run rfl
def L0_value_at (n : Nat) : Rho → M Fl :=
  (sSet 0 (eBin ixM (eVar 0) (eVar 2)))
theorem zL0_value_at {n : Nat} {ρ : Rho} {st : Sto} {Q : Fl → Sto → Prop} {E : Exn → Sto → Prop} : Z (L0_value_at n ρ st) Q E = Z ((sSet 0 (eBin ixM (eVar 0) (eVar 2))) ρ st) Q E := by unfold L0_value_at; rfl
def b_value_at (n : Nat) : Rho → M Fl :=
  (sSeq (sFor (iSeq (eVar 1)) (gN 2) (L0_value_at n))
  (sRet (eVar 0)))
def F_value_at (n : Nat) : List PV → M PV := runB (b_value_at n) 3
theorem z_value_at {n : Nat} {p0 p1 : PV} {st : Sto} {Q : PV → Sto → Prop} {E : Exn → Sto → Prop} : Z (F_value_at n [p0, p1] st) Q E = Z (b_value_at n [some p0, some p1, none] st) (runQ Q E) E0 := Z_run rfl
def b_with_field (n : Nat) (fr_with_field : List PV → M PV) : Rho → M Fl :=
  (sSeq (sIf (eB (eBin eqM (eVar 1) (eCall mkTup aNil))) (sRet (eVar 2)) sNext)
  (sSeq (sSet 3 (eBin ixM (eVar 1) (eC (.int 0))))
  (sRet (eBin addV (eBin addV (eSl slM (eVar 0) oNone (oSome (eVar 3))) (eCall mkTup (aCons (eCall fr_with_field (aCons (eBin ixM (eVar 0) (eVar 3)) (aCons (eSl slM (eVar 1) (oSome (eC (.int 1))) oNone) (aCons (eVar 2) aNil)))) aNil))) (eSl slM (eVar 0) (oSome (eBin addV (eVar 3) (eC (.int 1)))) oNone)))))
def F_with_field (n : Nat) : Nat → List PV → M PV
  | 0 => fun _ => M.fail
  | d + 1 => runB (b_with_field n (F_with_field n d)) 4
theorem z_with_field {n d : Nat} {p0 p1 p2 : PV} {st : Sto} {Q : PV → Sto → Prop} {E : Exn → Sto → Prop} : Z (F_with_field n (d + 1) [p0, p1, p2] st) Q E = Z (b_with_field n (F_with_field n d) [some p0, some p1, some p2, none] st) (runQ Q E) E0 := Z_run rfl
def L0_Steps____init__ (n : Nat) : Rho → M Fl :=
  (sAsg (eVar 4) (gSubM (eUn (attrM ["Steps"] "seen") (eVar 0)) (eVar 3)))
theorem zL0_Steps____init__ {n : Nat} {ρ : Rho} {st : Sto} {Q : Fl → Sto → Prop} {E : Exn → Sto → Prop} : Z (L0_Steps____init__ n ρ st) Q E = Z ((sAsg (eVar 4) (gSubM (eUn (attrM ["Steps"] "seen") (eVar 0)) (eVar 3))) ρ st) Q E := by unfold L0_Steps____init__; rfl
def b_Steps____init__ (n : Nat) : Rho → M Fl :=
  (sSeq (sAttr ["Steps"] "own_tree" (eVar 0) (eVar 1))
  (sSeq (sAttr ["Steps"] "seen" (eVar 0) eDct0)
  (sSeq (sFor (iSeq (eVar 2)) (gT 2 (gsCons (gN 3) (gsCons (gN 4) gsNil))) (L0_Steps____init__ n))
  (sAttr ["Steps"] "laid_steps" (eVar 0) (eCall mkLstN aNil)))))
def F_Steps____init__ (n : Nat) : List PV → M PV := runB (b_Steps____init__ n) 5
theorem z_Steps____init__ {n : Nat} {p0 p1 p2 : PV} {st : Sto} {Q : PV → Sto → Prop} {E : Exn → Sto → Prop} : Z (F_Steps____init__ n [p0, p1, p2] st) Q E = Z (b_Steps____init__ n [some p0, some p1, some p2, none, none] st) (runQ Q E) E0 := Z_run rfl
def b_Steps__lay (n : Nat) : Rho → M Fl :=
  (sSeq (sDrop (eMeth "list" appendM (eUn (attrM ["Steps"] "laid_steps") (eVar 0)) (aCons (eVar 1) aNil)))
  (sRet (eBin subV (eCall lenM (aCons (eUn (attrM ["Steps"] "laid_steps") (eVar 0)) aNil)) (eC (.int 1)))))
def F_Steps__lay (n : Nat) : List PV → M PV := runB (b_Steps__lay n) 2
theorem z_Steps__lay {n : Nat} {p0 p1 : PV} {st : Sto} {Q : PV → Sto → Prop} {E : Exn → Sto → Prop} : Z (F_Steps__lay n [p0, p1] st) Q E = Z (b_Steps__lay n [some p0, some p1] st) (runQ Q E) E0 := Z_run rfl
def b_Steps__here (n : Nat) : Rho → M Fl :=
  (sRet (eCall lenM (aCons (eUn (attrM ["Steps"] "laid_steps") (eVar 0)) aNil)))
def F_Steps__here (n : Nat) : List PV → M PV := runB (b_Steps__here n) 1
theorem z_Steps__here {n : Nat} {p0 : PV} {st : Sto} {Q : PV → Sto → Prop} {E : Exn → Sto → Prop} : Z (F_Steps__here n [p0] st) Q E = Z (b_Steps__here n [some p0] st) (runQ Q E) E0 := Z_run rfl
def b_Steps__lay_either (n : Nat) (fr_Steps__lay_either : List PV → M PV) (fr_Steps__lay_expr : List PV → M PV) : Rho → M Fl :=
  (sSeq (sDrop (eMth "Steps" "lay_expr" fr_Steps__lay_expr (eVar 0) (aCons (eBin ixM (eVar 1) (eC (.int 1))) aNil)))
  (sSeq (sSet 2 (eMth "Steps" "lay" (F_Steps__lay n) (eVar 0) (aCons (eCall mkTup aNil) aNil)))
  (sSeq (sDrop (eMth "Steps" "lay_expr" fr_Steps__lay_expr (eVar 0) (aCons (eBin ixM (eVar 1) (eC (.int 2))) aNil)))
  (sSeq (sDrop (eMth "Steps" "lay" (F_Steps__lay n) (eVar 0) (aCons (eCall mkTup (aCons (eC (.str [116, 114, 117, 116, 104])) aNil)) aNil)))
  (sAsg (eCall mkTup (aCons (eBin ixM (eVar 1) (eC (.int 0))) (aCons (eMth "Steps" "here" (F_Steps__here n) (eVar 0) aNil) aNil))) (gSubM (eUn (attrM ["Steps"] "laid_steps") (eVar 0)) (eVar 2)))))))
def L0_Steps__lay_expr (n : Nat) (fr_Steps__lay_either : List PV → M PV) (fr_Steps__lay_expr : List PV → M PV) : Rho → M Fl :=
  (sDrop (eMth "Steps" "lay_expr" fr_Steps__lay_expr (eVar 0) (aCons (eVar 3) aNil)))
theorem zL0_Steps__lay_expr {n : Nat} {fr_Steps__lay_either : List PV → M PV} {fr_Steps__lay_expr : List PV → M PV} {ρ : Rho} {st : Sto} {Q : Fl → Sto → Prop} {E : Exn → Sto → Prop} : Z (L0_Steps__lay_expr n fr_Steps__lay_either fr_Steps__lay_expr ρ st) Q E = Z ((sDrop (eMth "Steps" "lay_expr" fr_Steps__lay_expr (eVar 0) (aCons (eVar 3) aNil))) ρ st) Q E := by unfold L0_Steps__lay_expr; rfl
def b_Steps__lay_expr (n : Nat) (fr_Steps__lay_either : List PV → M PV) (fr_Steps__lay_expr : List PV → M PV) : Rho → M Fl :=
  (sIf (eB (eCall isiM (aCons (eVar 1) (aCons (eC (.ty "int")) aNil)))) (sDrop (eMth "Steps" "lay" (F_Steps__lay n) (eVar 0) (aCons (eCall mkTup (aCons (eC (.str [112, 108, 97, 105, 110])) (aCons (eVar 1) aNil))) aNil))) (sIf (eB (eBin eqM (eBin ixM (eVar 1) (eC (.int 0))) (eC (.str [111, 102])))) (sDrop (eMth "Steps" "lay" (F_Steps__lay n) (eVar 0) (aCons (eCall mkTup (aCons (eC (.str [111, 102])) (aCons (eBin ixM (eBin ixM (eVar 1) (eC (.int 1))) (eC (.int 0))) (aCons (eCall (F_places_of n) (aCons (eUn (attrM ["Steps"] "own_tree") (eVar 0)) (aCons (eUn (attrM ["Steps"] "seen") (eVar 0)) (aCons (eBin ixM (eVar 1) (eC (.int 1))) aNil)))) aNil)))) aNil))) (sIf (eB (eBin (inM false) (eBin ixM (eVar 1) (eC (.int 0))) (eCall mkTup (aCons (eC (.str [97, 110, 100])) (aCons (eC (.str [111, 114])) aNil))))) (sDrop (eMth "Steps" "lay_either" fr_Steps__lay_either (eVar 0) (aCons (eVar 1) aNil))) (sSeq (sSet 2 (eSl slM (eVar 1) (oSome (eC (.int 1))) oNone))
  (sSeq (sIf (eB (eBin (inM false) (eBin ixM (eVar 1) (eC (.int 0))) (eCall mkTup (aCons (eC (.str [99, 97, 108, 108])) (aCons (eC (.str [110, 101, 119])) aNil))))) (sSet 2 (eSl slM (eVar 1) (oSome (eC (.int 2))) oNone)) sNext)
  (sSeq (sFor (iSeq (eVar 2)) (gN 3) (L0_Steps__lay_expr n fr_Steps__lay_either fr_Steps__lay_expr))
  (sIf (eB (eBin eqM (eBin ixM (eVar 1) (eC (.int 0))) (eC (.str [99, 97, 108, 108])))) (sDrop (eMth "Steps" "lay" (F_Steps__lay n) (eVar 0) (aCons (eCall mkTup (aCons (eC (.str [99, 97, 108, 108])) (aCons (eBin ixM (eVar 1) (eC (.int 1))) (aCons (eCall lenM (aCons (eVar 2) aNil)) aNil)))) aNil))) (sIf (eB (eBin (inM false) (eBin ixM (eVar 1) (eC (.int 0))) (eCall mkTup (aCons (eC (.str [109, 97, 107, 101])) (aCons (eC (.str [110, 101, 119])) aNil))))) (sDrop (eMth "Steps" "lay" (F_Steps__lay n) (eVar 0) (aCons (eCall mkTup (aCons (eC (.str [116, 117, 112, 108, 101])) (aCons (eCall lenM (aCons (eVar 2) aNil)) aNil))) aNil))) (sDrop (eMth "Steps" "lay" (F_Steps__lay n) (eVar 0) (aCons (eCall mkTup (aCons (eC (.str [111, 112])) (aCons (eBin ixM (eVar 1) (eC (.int 0))) aNil))) aNil)))))))))))
mutual
def F_Steps__lay_either (n : Nat) : Nat → List PV → M PV
  | 0 => fun _ => M.fail
  | d + 1 => runB (b_Steps__lay_either n (F_Steps__lay_either n d) (F_Steps__lay_expr n d)) 3
def F_Steps__lay_expr (n : Nat) : Nat → List PV → M PV
  | 0 => fun _ => M.fail
  | d + 1 => runB (b_Steps__lay_expr n (F_Steps__lay_either n d) (F_Steps__lay_expr n d)) 4
end
theorem z_Steps__lay_either {n d : Nat} {p0 p1 : PV} {st : Sto} {Q : PV → Sto → Prop} {E : Exn → Sto → Prop} : Z (F_Steps__lay_either n (d + 1) [p0, p1] st) Q E = Z (b_Steps__lay_either n (F_Steps__lay_either n d) (F_Steps__lay_expr n d) [some p0, some p1, none] st) (runQ Q E) E0 := Z_run rfl
theorem z_Steps__lay_expr {n d : Nat} {p0 p1 : PV} {st : Sto} {Q : PV → Sto → Prop} {E : Exn → Sto → Prop} : Z (F_Steps__lay_expr n (d + 1) [p0, p1] st) Q E = Z (b_Steps__lay_expr n (F_Steps__lay_either n d) (F_Steps__lay_expr n d) [some p0, some p1, none, none] st) (runQ Q E) E0 := Z_run rfl
def b_Steps__lay_while (n : Nat) (fr_Steps__lay_while : List PV → M PV) (fr_Steps__lay_if : List PV → M PV) (fr_Steps__lay_statement : List PV → M PV) (fr_Steps__lay_body : List PV → M PV) : Rho → M Fl :=
  (sSeq (sSet 2 (eMth "Steps" "here" (F_Steps__here n) (eVar 0) aNil))
  (sSeq (sDrop (eMth "Steps" "lay_expr" (F_Steps__lay_expr n 12) (eVar 0) (aCons (eBin ixM (eVar 1) (eC (.int 1))) aNil)))
  (sSeq (sSet 3 (eMth "Steps" "lay" (F_Steps__lay n) (eVar 0) (aCons (eCall mkTup aNil) aNil)))
  (sSeq (sDrop (eMth "Steps" "lay" (F_Steps__lay n) (eVar 0) (aCons (eCall mkTup (aCons (eC (.str [116, 105, 99, 107])) aNil)) aNil)))
  (sSeq (sDrop (eMth "Steps" "lay_body" fr_Steps__lay_body (eVar 0) (aCons (eBin ixM (eVar 1) (eC (.int 2))) aNil)))
  (sSeq (sDrop (eMth "Steps" "lay" (F_Steps__lay n) (eVar 0) (aCons (eCall mkTup (aCons (eC (.str [103, 111])) (aCons (eVar 2) aNil))) aNil)))
  (sAsg (eCall mkTup (aCons (eC (.str [117, 110, 108, 101, 115, 115])) (aCons (eMth "Steps" "here" (F_Steps__here n) (eVar 0) aNil) aNil))) (gSubM (eUn (attrM ["Steps"] "laid_steps") (eVar 0)) (eVar 3)))))))))
def b_Steps__lay_if (n : Nat) (fr_Steps__lay_while : List PV → M PV) (fr_Steps__lay_if : List PV → M PV) (fr_Steps__lay_statement : List PV → M PV) (fr_Steps__lay_body : List PV → M PV) : Rho → M Fl :=
  (sSeq (sDrop (eMth "Steps" "lay_expr" (F_Steps__lay_expr n 12) (eVar 0) (aCons (eBin ixM (eVar 1) (eC (.int 1))) aNil)))
  (sSeq (sSet 2 (eMth "Steps" "lay" (F_Steps__lay n) (eVar 0) (aCons (eCall mkTup aNil) aNil)))
  (sSeq (sDrop (eMth "Steps" "lay_body" fr_Steps__lay_body (eVar 0) (aCons (eBin ixM (eVar 1) (eC (.int 2))) aNil)))
  (sSeq (sSet 3 (eMth "Steps" "lay" (F_Steps__lay n) (eVar 0) (aCons (eCall mkTup aNil) aNil)))
  (sSeq (sAsg (eCall mkTup (aCons (eC (.str [117, 110, 108, 101, 115, 115])) (aCons (eMth "Steps" "here" (F_Steps__here n) (eVar 0) aNil) aNil))) (gSubM (eUn (attrM ["Steps"] "laid_steps") (eVar 0)) (eVar 2)))
  (sSeq (sDrop (eMth "Steps" "lay_body" fr_Steps__lay_body (eVar 0) (aCons (eBin ixM (eVar 1) (eC (.int 3))) aNil)))
  (sAsg (eCall mkTup (aCons (eC (.str [103, 111])) (aCons (eMth "Steps" "here" (F_Steps__here n) (eVar 0) aNil) aNil))) (gSubM (eUn (attrM ["Steps"] "laid_steps") (eVar 0)) (eVar 3)))))))))
def b_Steps__lay_statement (n : Nat) (fr_Steps__lay_while : List PV → M PV) (fr_Steps__lay_if : List PV → M PV) (fr_Steps__lay_statement : List PV → M PV) (fr_Steps__lay_body : List PV → M PV) : Rho → M Fl :=
  (sSeq (sSet 2 (eBin ixM (eVar 1) (eC (.int 0))))
  (sIf (eB (eBin eqM (eVar 2) (eC (.str [119, 104, 105, 108, 101])))) (sDrop (eMth "Steps" "lay_while" fr_Steps__lay_while (eVar 0) (aCons (eVar 1) aNil))) (sIf (eB (eBin eqM (eVar 2) (eC (.str [105, 102])))) (sDrop (eMth "Steps" "lay_if" fr_Steps__lay_if (eVar 0) (aCons (eVar 1) aNil))) (sIf (eB (eBin eqM (eVar 2) (eC (.str [112, 117, 116])))) (sSeq (sDrop (eMth "Steps" "lay_expr" (F_Steps__lay_expr n 12) (eVar 0) (aCons (eCall mkTup (aCons (eC (.str [111, 102])) (aCons (eBin ixM (eVar 1) (eC (.int 1))) aNil))) aNil)))
  (sSeq (sDrop (eMth "Steps" "lay_expr" (F_Steps__lay_expr n 12) (eVar 0) (aCons (eBin ixM (eVar 1) (eC (.int 2))) aNil)))
  (sSeq (sDrop (eMth "Steps" "lay_expr" (F_Steps__lay_expr n 12) (eVar 0) (aCons (eBin ixM (eVar 1) (eC (.int 3))) aNil)))
  (sSeq (sDrop (eMth "Steps" "lay" (F_Steps__lay n) (eVar 0) (aCons (eCall mkTup (aCons (eC (.str [111, 112])) (aCons (eC (.str [112, 117, 116])) aNil))) aNil)))
  (sDrop (eMth "Steps" "lay" (F_Steps__lay n) (eVar 0) (aCons (eCall mkTup (aCons (eC (.str [115, 101, 116])) (aCons (eBin ixM (eBin ixM (eVar 1) (eC (.int 1))) (eC (.int 0))) (aCons (eCall (F_places_of n) (aCons (eUn (attrM ["Steps"] "own_tree") (eVar 0)) (aCons (eUn (attrM ["Steps"] "seen") (eVar 0)) (aCons (eBin ixM (eVar 1) (eC (.int 1))) aNil)))) aNil)))) aNil))))))) (sIf (eB (eBin eqM (eVar 2) (eC (.str [103, 105, 118, 101])))) (sSeq (sDrop (eMth "Steps" "lay_expr" (F_Steps__lay_expr n 12) (eVar 0) (aCons (eBin ixM (eVar 1) (eC (.int 1))) aNil)))
  (sDrop (eMth "Steps" "lay" (F_Steps__lay n) (eVar 0) (aCons (eCall mkTup (aCons (eC (.str [103, 105, 118, 101])) aNil)) aNil)))) (sIf (eB (eBin eqM (eVar 2) (eC (.str [115, 101, 116])))) (sSeq (sDrop (eMth "Steps" "lay_expr" (F_Steps__lay_expr n 12) (eVar 0) (aCons (eBin ixM (eVar 1) (eC (.int 2))) aNil)))
  (sDrop (eMth "Steps" "lay" (F_Steps__lay n) (eVar 0) (aCons (eCall mkTup (aCons (eC (.str [115, 101, 116])) (aCons (eBin ixM (eBin ixM (eVar 1) (eC (.int 1))) (eC (.int 0))) (aCons (eCall (F_places_of n) (aCons (eUn (attrM ["Steps"] "own_tree") (eVar 0)) (aCons (eUn (attrM ["Steps"] "seen") (eVar 0)) (aCons (eBin ixM (eVar 1) (eC (.int 1))) aNil)))) aNil)))) aNil)))) (sSeq (sDrop (eMth "Steps" "lay_expr" (F_Steps__lay_expr n 12) (eVar 0) (aCons (eBin ixM (eVar 1) (eC (.int 2))) aNil)))
  (sSeq (sAsg (eCall (F_kind_of_expr n) (aCons (eUn (attrM ["Steps"] "own_tree") (eVar 0)) (aCons (eUn (attrM ["Steps"] "seen") (eVar 0)) (aCons (eBin ixM (eVar 1) (eC (.int 2))) aNil)))) (gSubM (eUn (attrM ["Steps"] "seen") (eVar 0)) (eBin ixM (eVar 1) (eC (.int 1)))))
  (sDrop (eMth "Steps" "lay" (F_Steps__lay n) (eVar 0) (aCons (eCall mkTup (aCons (eC (.str [115, 101, 116])) (aCons (eBin ixM (eVar 1) (eC (.int 1))) (aCons (eCall mkTup aNil) aNil)))) aNil)))))))))))
def L0_Steps__lay_body (n : Nat) (fr_Steps__lay_while : List PV → M PV) (fr_Steps__lay_if : List PV → M PV) (fr_Steps__lay_statement : List PV → M PV) (fr_Steps__lay_body : List PV → M PV) : Rho → M Fl :=
  (sDrop (eMth "Steps" "lay_statement" fr_Steps__lay_statement (eVar 0) (aCons (eVar 2) aNil)))
theorem zL0_Steps__lay_body {n : Nat} {fr_Steps__lay_while : List PV → M PV} {fr_Steps__lay_if : List PV → M PV} {fr_Steps__lay_statement : List PV → M PV} {fr_Steps__lay_body : List PV → M PV} {ρ : Rho} {st : Sto} {Q : Fl → Sto → Prop} {E : Exn → Sto → Prop} : Z (L0_Steps__lay_body n fr_Steps__lay_while fr_Steps__lay_if fr_Steps__lay_statement fr_Steps__lay_body ρ st) Q E = Z ((sDrop (eMth "Steps" "lay_statement" fr_Steps__lay_statement (eVar 0) (aCons (eVar 2) aNil))) ρ st) Q E := by unfold L0_Steps__lay_body; rfl
def b_Steps__lay_body (n : Nat) (fr_Steps__lay_while : List PV → M PV) (fr_Steps__lay_if : List PV → M PV) (fr_Steps__lay_statement : List PV → M PV) (fr_Steps__lay_body : List PV → M PV) : Rho → M Fl :=
  (sFor (iSeq (eVar 1)) (gN 2) (L0_Steps__lay_body n fr_Steps__lay_while fr_Steps__lay_if fr_Steps__lay_statement fr_Steps__lay_body))
mutual
def F_Steps__lay_while (n : Nat) : Nat → List PV → M PV
  | 0 => fun _ => M.fail
  | d + 1 => runB (b_Steps__lay_while n (F_Steps__lay_while n d) (F_Steps__lay_if n d) (F_Steps__lay_statement n d) (F_Steps__lay_body n d)) 4
def F_Steps__lay_if (n : Nat) : Nat → List PV → M PV
  | 0 => fun _ => M.fail
  | d + 1 => runB (b_Steps__lay_if n (F_Steps__lay_while n d) (F_Steps__lay_if n d) (F_Steps__lay_statement n d) (F_Steps__lay_body n d)) 4
def F_Steps__lay_statement (n : Nat) : Nat → List PV → M PV
  | 0 => fun _ => M.fail
  | d + 1 => runB (b_Steps__lay_statement n (F_Steps__lay_while n d) (F_Steps__lay_if n d) (F_Steps__lay_statement n d) (F_Steps__lay_body n d)) 3
def F_Steps__lay_body (n : Nat) : Nat → List PV → M PV
  | 0 => fun _ => M.fail
  | d + 1 => runB (b_Steps__lay_body n (F_Steps__lay_while n d) (F_Steps__lay_if n d) (F_Steps__lay_statement n d) (F_Steps__lay_body n d)) 3
end
theorem z_Steps__lay_while {n d : Nat} {p0 p1 : PV} {st : Sto} {Q : PV → Sto → Prop} {E : Exn → Sto → Prop} : Z (F_Steps__lay_while n (d + 1) [p0, p1] st) Q E = Z (b_Steps__lay_while n (F_Steps__lay_while n d) (F_Steps__lay_if n d) (F_Steps__lay_statement n d) (F_Steps__lay_body n d) [some p0, some p1, none, none] st) (runQ Q E) E0 := Z_run rfl
theorem z_Steps__lay_if {n d : Nat} {p0 p1 : PV} {st : Sto} {Q : PV → Sto → Prop} {E : Exn → Sto → Prop} : Z (F_Steps__lay_if n (d + 1) [p0, p1] st) Q E = Z (b_Steps__lay_if n (F_Steps__lay_while n d) (F_Steps__lay_if n d) (F_Steps__lay_statement n d) (F_Steps__lay_body n d) [some p0, some p1, none, none] st) (runQ Q E) E0 := Z_run rfl
theorem z_Steps__lay_statement {n d : Nat} {p0 p1 : PV} {st : Sto} {Q : PV → Sto → Prop} {E : Exn → Sto → Prop} : Z (F_Steps__lay_statement n (d + 1) [p0, p1] st) Q E = Z (b_Steps__lay_statement n (F_Steps__lay_while n d) (F_Steps__lay_if n d) (F_Steps__lay_statement n d) (F_Steps__lay_body n d) [some p0, some p1, none] st) (runQ Q E) E0 := Z_run rfl
theorem z_Steps__lay_body {n d : Nat} {p0 p1 : PV} {st : Sto} {Q : PV → Sto → Prop} {E : Exn → Sto → Prop} : Z (F_Steps__lay_body n (d + 1) [p0, p1] st) Q E = Z (b_Steps__lay_body n (F_Steps__lay_while n d) (F_Steps__lay_if n d) (F_Steps__lay_statement n d) (F_Steps__lay_body n d) [some p0, some p1, none] st) (runQ Q E) E0 := Z_run rfl
def L0_Walk____init__ (n : Nat) : Rho → M Fl :=
  (sSeq (sSet 7 (eCall (mkIns "Steps" (F_Steps____init__ n)) (aCons (eVar 1) (aCons (eVar 5) aNil))))
  (sSeq (sDrop (eMth "Steps" "lay_body" (F_Steps__lay_body n 12) (eVar 7) (aCons (eVar 6) aNil)))
  (sAsg (eCall mkTup (aCons (eLc lcV (iSeq (eVar 5)) (gN 8) tYesM (eBin ixM (eVar 8) (eC (.int 0))) [8]) (aCons (eUn (attrM ["Steps"] "laid_steps") (eVar 7)) aNil))) (gSubM (eUn (attrM ["Walk"] "told_steps") (eVar 0)) (eVar 3)))))
theorem zL0_Walk____init__ {n : Nat} {ρ : Rho} {st : Sto} {Q : Fl → Sto → Prop} {E : Exn → Sto → Prop} : Z (L0_Walk____init__ n ρ st) Q E = Z ((sSeq (sSet 7 (eCall (mkIns "Steps" (F_Steps____init__ n)) (aCons (eVar 1) (aCons (eVar 5) aNil))))   (sSeq (sDrop (eMth "Steps" "lay_body" (F_Steps__lay_body n 12) (eVar 7) (aCons (eVar 6) aNil)))   (sAsg (eCall mkTup (aCons (eLc lcV (iSeq (eVar 5)) (gN 8) tYesM (eBin ixM (eVar 8) (eC (.int 0))) [8]) (aCons (eUn (attrM ["Steps"] "laid_steps") (eVar 7)) aNil))) (gSubM (eUn (attrM ["Walk"] "told_steps") (eVar 0)) (eVar 3))))) ρ st) Q E := by unfold L0_Walk____init__; rfl
def b_Walk____init__ (n : Nat) : Rho → M Fl :=
  (sSeq (sAttr ["Walk"] "told_steps" (eVar 0) eDct0)
  (sSeq (sFor (iSeq (eBin ixM (eVar 1) (eC (.int 1)))) (gT 4 (gsCons (gN 3) (gsCons (gN 4) (gsCons (gN 5) (gsCons (gN 6) gsNil))))) (L0_Walk____init__ n))
  (sSeq (sAttr ["Walk"] "ticks_left" (eVar 0) (eVar 2))
  (sSeq (sAttr ["Walk"] "stack" (eVar 0) (eCall mkLstN aNil))
  (sAttr ["Walk"] "outcome" (eVar 0) (eC .non))))))
def F_Walk____init__ (n : Nat) : List PV → M PV := runB (b_Walk____init__ n) 9
theorem z_Walk____init__ {n : Nat} {p0 p1 p2 : PV} {st : Sto} {Q : PV → Sto → Prop} {E : Exn → Sto → Prop} : Z (F_Walk____init__ n [p0, p1, p2] st) Q E = Z (b_Walk____init__ n [some p0, some p1, some p2, none, none, none, none, none, none] st) (runQ Q E) E0 := Z_run rfl
def L0_Walk__enter (n : Nat) : Rho → M Fl :=
  (sAsg (eVar 7) (gSubM (eVar 5) (eVar 6)))
theorem zL0_Walk__enter {n : Nat} {ρ : Rho} {st : Sto} {Q : Fl → Sto → Prop} {E : Exn → Sto → Prop} : Z (L0_Walk__enter n ρ st) Q E = Z ((sAsg (eVar 7) (gSubM (eVar 5) (eVar 6))) ρ st) Q E := by unfold L0_Walk__enter; rfl
def b_Walk__enter (n : Nat) : Rho → M Fl :=
  (sSeq (sAsg (eBin ixM (eUn (attrM ["Walk"] "told_steps") (eVar 0)) (eVar 1)) (gT 2 (gsCons (gN 3) (gsCons (gN 4) gsNil))))
  (sSeq (sSet 5 eDct0)
  (sSeq (sFor (iCall zipM (aCons (eVar 3) (aCons (eVar 2) aNil))) (gT 2 (gsCons (gN 6) (gsCons (gN 7) gsNil))) (L0_Walk__enter n))
  (sDrop (eMeth "list" appendM (eUn (attrM ["Walk"] "stack") (eVar 0)) (aCons (eCall mkLstN (aCons (eVar 4) (aCons (eVar 5) (aCons (eCall mkLstN aNil) (aCons (eC (.int 0)) aNil))))) aNil))))))
def F_Walk__enter (n : Nat) : List PV → M PV := runB (b_Walk__enter n) 8
theorem z_Walk__enter {n : Nat} {p0 p1 p2 : PV} {st : Sto} {Q : PV → Sto → Prop} {E : Exn → Sto → Prop} : Z (F_Walk__enter n [p0, p1, p2] st) Q E = Z (b_Walk__enter n [some p0, some p1, some p2, none, none, none, none, none] st) (runQ Q E) E0 := Z_run rfl
def b_Walk__tick (n : Nat) : Rho → M Fl :=
  (sSeq (sIf (eB (eBin eqM (eUn (attrM ["Walk"] "ticks_left") (eVar 0)) (eC (.int 0)))) (sSeq (sAttr ["Walk"] "outcome" (eVar 0) (eCall mkTup (aCons (eC (.str [100, 114, 121])) aNil)))
  (sRet (eC (.bl false)))) sNext)
  (sSeq (sAttr ["Walk"] "ticks_left" (eVar 0) (eBin subV (eUn (attrM ["Walk"] "ticks_left") (eVar 0)) (eC (.int 1))))
  (sRet (eC (.bl true)))))
def F_Walk__tick (n : Nat) : List PV → M PV := runB (b_Walk__tick n) 1
theorem z_Walk__tick {n : Nat} {p0 : PV} {st : Sto} {Q : PV → Sto → Prop} {E : Exn → Sto → Prop} : Z (F_Walk__tick n [p0] st) Q E = Z (b_Walk__tick n [some p0] st) (runQ Q E) E0 := Z_run rfl
def b_Walk__taken (n : Nat) : Rho → M Fl :=
  (sSeq (sSet 3 (eBin ixM (eVar 1) (eC (.int 2))))
  (sSeq (sSet 4 (eCall tupleM (aCons (eSl slM (eVar 3) (oSome (eBin subV (eCall lenM (aCons (eVar 3) aNil)) (eVar 2))) oNone) aNil)))
  (sSeq (sAsg (eSl slN (eVar 3) oNone (oSome (eBin subV (eCall lenM (aCons (eVar 3) aNil)) (eVar 2)))) (gSubM (eVar 1) (eC (.int 2))))
  (sRet (eVar 4)))))
def F_Walk__taken (n : Nat) : List PV → M PV := runB (b_Walk__taken n) 5
theorem z_Walk__taken {n : Nat} {p0 p1 p2 : PV} {st : Sto} {Q : PV → Sto → Prop} {E : Exn → Sto → Prop} : Z (F_Walk__taken n [p0, p1, p2] st) Q E = Z (b_Walk__taken n [some p0, some p1, some p2, none, none] st) (runQ Q E) E0 := Z_run rfl
def b_Walk__give (n : Nat) : Rho → M Fl :=
  (sSeq (sSet 2 (eBin ixM (eBin ixM (eVar 1) (eC (.int 2))) (eUn negV (eC (.int 1)))))
  (sSeq (sDrop (eMeth "list" popM (eUn (attrM ["Walk"] "stack") (eVar 0)) aNil))
  (sIf (eB (eBin eqM (eUn (attrM ["Walk"] "stack") (eVar 0)) (eCall mkLst aNil))) (sAttr ["Walk"] "outcome" (eVar 0) (eCall mkTup (aCons (eC (.str [98, 97, 99, 107])) (aCons (eVar 2) aNil)))) (sDrop (eMeth "list" appendM (eBin ixM (eBin ixM (eUn (attrM ["Walk"] "stack") (eVar 0)) (eUn negV (eC (.int 1)))) (eC (.int 2))) (aCons (eVar 2) aNil))))))
def F_Walk__give (n : Nat) : List PV → M PV := runB (b_Walk__give n) 3
theorem z_Walk__give {n : Nat} {p0 p1 : PV} {st : Sto} {Q : PV → Sto → Prop} {E : Exn → Sto → Prop} : Z (F_Walk__give n [p0, p1] st) Q E = Z (b_Walk__give n [some p0, some p1, none] st) (runQ Q E) E0 := Z_run rfl
def b_Walk__reckon (n : Nat) : Rho → M Fl :=
  (sSeq (sSet 3 (eMth "Walk" "taken" (F_Walk__taken n) (eVar 0) (aCons (eVar 1) (aCons (eUn (ixTab tab_COUNTED) (eVar 2)) aNil))))
  (sSeq (sSet 4 (eCall (F_fault_of n) (aCons (eVar 2) (aCons (eVar 3) aNil))))
  (sIf (eB (eBin notN (eVar 4) (eC .non))) (sAttr ["Walk"] "outcome" (eVar 0) (eCall mkTup (aCons (eC (.str [102, 97, 117, 108, 116])) (aCons (eVar 4) aNil)))) (sIf (eB (eBin eqM (eVar 2) (eC (.str [110, 111, 116])))) (sDrop (eMeth "list" appendM (eBin ixM (eVar 1) (eC (.int 2))) (aCons (eCall intM (aCons (eBin eqM (eBin ixM (eVar 3) (eC (.int 0))) (eC (.int 0))) aNil)) aNil))) (sDrop (eMeth "list" appendM (eBin ixM (eVar 1) (eC (.int 2))) (aCons (eCall (F_done n) (aCons (eVar 2) (aCons (eVar 3) aNil))) aNil)))))))
def F_Walk__reckon (n : Nat) : List PV → M PV := runB (b_Walk__reckon n) 5
theorem z_Walk__reckon {n : Nat} {p0 p1 p2 : PV} {st : Sto} {Q : PV → Sto → Prop} {E : Exn → Sto → Prop} : Z (F_Walk__reckon n [p0, p1, p2] st) Q E = Z (b_Walk__reckon n [some p0, some p1, some p2, none, none] st) (runQ Q E) E0 := Z_run rfl
def b_Walk__turn_step (n : Nat) : Rho → M Fl :=
  (sSeq (sSet 3 (eBin ixM (eVar 2) (eC (.int 0))))
  (sIf (eB (eBin eqM (eVar 3) (eC (.str [103, 111])))) (sAsg (eBin ixM (eVar 2) (eC (.int 1))) (gSubM (eVar 1) (eC (.int 3)))) (sIf (eB (eBin eqM (eVar 3) (eC (.str [103, 105, 118, 101])))) (sDrop (eMth "Walk" "give" (F_Walk__give n) (eVar 0) (aCons (eVar 1) aNil))) (sIf (eB (eBin eqM (eVar 3) (eC (.str [116, 105, 99, 107])))) (sDrop (eMth "Walk" "tick" (F_Walk__tick n) (eVar 0) aNil)) (sIf (eB (eBin eqM (eVar 3) (eC (.str [99, 97, 108, 108])))) (sSeq (sSet 4 (eMth "Walk" "taken" (F_Walk__taken n) (eVar 0) (aCons (eVar 1) (aCons (eBin ixM (eVar 2) (eC (.int 2))) aNil))))
  (sIf (eB (eMth "Walk" "tick" (F_Walk__tick n) (eVar 0) aNil)) (sDrop (eMth "Walk" "enter" (F_Walk__enter n) (eVar 0) (aCons (eBin ixM (eVar 2) (eC (.int 1))) (aCons (eVar 4) aNil)))) sNext)) (sIf (eB (eBin eqM (eVar 3) (eC (.str [115, 101, 116])))) (sSeq (sSet 5 (eBin ixM (eMth "Walk" "taken" (F_Walk__taken n) (eVar 0) (aCons (eVar 1) (aCons (eC (.int 1)) aNil))) (eC (.int 0))))
  (sAsg (eCall (F_with_field n 4) (aCons (eGet1 (eBin ixM (eVar 1) (eC (.int 1))) (eBin ixM (eVar 2) (eC (.int 1)))) (aCons (eBin ixM (eVar 2) (eC (.int 2))) (aCons (eVar 5) aNil)))) (gSubM (eBin ixM (eVar 1) (eC (.int 1))) (eBin ixM (eVar 2) (eC (.int 1)))))) (sSeq (sSet 5 (eBin ixM (eMth "Walk" "taken" (F_Walk__taken n) (eVar 0) (aCons (eVar 1) (aCons (eC (.int 1)) aNil))) (eC (.int 0))))
  (sIf (eB (eBin eqM (eBin neM (eVar 5) (eC (.int 0))) (eBin eqM (eVar 3) (eC (.str [111, 114]))))) (sSeq (sAsg (eBin ixM (eVar 2) (eC (.int 1))) (gSubM (eVar 1) (eC (.int 3))))
  (sIf (eB (eBin neM (eVar 3) (eC (.str [117, 110, 108, 101, 115, 115])))) (sDrop (eMeth "list" appendM (eBin ixM (eVar 1) (eC (.int 2))) (aCons (eCall intM (aCons (eBin eqM (eVar 3) (eC (.str [111, 114]))) aNil)) aNil))) sNext)) sNext))))))))
def F_Walk__turn_step (n : Nat) : List PV → M PV := runB (b_Walk__turn_step n) 6
theorem z_Walk__turn_step {n : Nat} {p0 p1 p2 : PV} {st : Sto} {Q : PV → Sto → Prop} {E : Exn → Sto → Prop} : Z (F_Walk__turn_step n [p0, p1, p2] st) Q E = Z (b_Walk__turn_step n [some p0, some p1, some p2, none, none, none] st) (runQ Q E) E0 := Z_run rfl
def b_Walk__reckon_step (n : Nat) : Rho → M Fl :=
  (sSeq (sSet 3 (eBin ixM (eVar 2) (eC (.int 0))))
  (sIf (eB (eBin eqM (eVar 3) (eC (.str [112, 108, 97, 105, 110])))) (sDrop (eMeth "list" appendM (eBin ixM (eVar 1) (eC (.int 2))) (aCons (eBin ixM (eVar 2) (eC (.int 1))) aNil))) (sIf (eB (eBin eqM (eVar 3) (eC (.str [111, 102])))) (sDrop (eMeth "list" appendM (eBin ixM (eVar 1) (eC (.int 2))) (aCons (eCall (F_value_at n) (aCons (eBin ixM (eBin ixM (eVar 1) (eC (.int 1))) (eBin ixM (eVar 2) (eC (.int 1)))) (aCons (eBin ixM (eVar 2) (eC (.int 2))) aNil))) aNil))) (sIf (eB (eBin eqM (eVar 3) (eC (.str [116, 117, 112, 108, 101])))) (sSeq (sSet 4 (eMth "Walk" "taken" (F_Walk__taken n) (eVar 0) (aCons (eVar 1) (aCons (eBin ixM (eVar 2) (eC (.int 1))) aNil))))
  (sDrop (eMeth "list" appendM (eBin ixM (eVar 1) (eC (.int 2))) (aCons (eVar 4) aNil)))) (sIf (eB (eBin eqM (eVar 3) (eC (.str [116, 114, 117, 116, 104])))) (sSeq (sSet 4 (eMth "Walk" "taken" (F_Walk__taken n) (eVar 0) (aCons (eVar 1) (aCons (eC (.int 1)) aNil))))
  (sDrop (eMeth "list" appendM (eBin ixM (eVar 1) (eC (.int 2))) (aCons (eCall intM (aCons (eBin neM (eBin ixM (eVar 4) (eC (.int 0))) (eC (.int 0))) aNil)) aNil)))) (sIf (eB (eBin eqM (eVar 3) (eC (.str [111, 112])))) (sDrop (eMth "Walk" "reckon" (F_Walk__reckon n) (eVar 0) (aCons (eVar 1) (aCons (eBin ixM (eVar 2) (eC (.int 1))) aNil)))) (sDrop (eMth "Walk" "turn_step" (F_Walk__turn_step n) (eVar 0) (aCons (eVar 1) (aCons (eVar 2) aNil))))))))))
def F_Walk__reckon_step (n : Nat) : List PV → M PV := runB (b_Walk__reckon_step n) 5
theorem z_Walk__reckon_step {n : Nat} {p0 p1 p2 : PV} {st : Sto} {Q : PV → Sto → Prop} {E : Exn → Sto → Prop} : Z (F_Walk__reckon_step n [p0, p1, p2] st) Q E = Z (b_Walk__reckon_step n [some p0, some p1, some p2, none, none] st) (runQ Q E) E0 := Z_run rfl
def L0_Walk__walked (n : Nat) : Rho → M Fl :=
  (sSeq (sSet 1 (eBin ixM (eUn (attrM ["Walk"] "stack") (eVar 0)) (eUn negV (eC (.int 1)))))
  (sSeq (sSet 2 (eBin ixM (eBin ixM (eVar 1) (eC (.int 0))) (eBin ixM (eVar 1) (eC (.int 3)))))
  (sSeq (sAsg (eBin addV (eBin ixM (eVar 1) (eC (.int 3))) (eC (.int 1))) (gSubM (eVar 1) (eC (.int 3))))
  (sDrop (eMth "Walk" "reckon_step" (F_Walk__reckon_step n) (eVar 0) (aCons (eVar 1) (aCons (eVar 2) aNil)))))))
theorem zL0_Walk__walked {n : Nat} {ρ : Rho} {st : Sto} {Q : Fl → Sto → Prop} {E : Exn → Sto → Prop} : Z (L0_Walk__walked n ρ st) Q E = Z ((sSeq (sSet 1 (eBin ixM (eUn (attrM ["Walk"] "stack") (eVar 0)) (eUn negV (eC (.int 1)))))   (sSeq (sSet 2 (eBin ixM (eBin ixM (eVar 1) (eC (.int 0))) (eBin ixM (eVar 1) (eC (.int 3)))))   (sSeq (sAsg (eBin addV (eBin ixM (eVar 1) (eC (.int 3))) (eC (.int 1))) (gSubM (eVar 1) (eC (.int 3))))   (sDrop (eMth "Walk" "reckon_step" (F_Walk__reckon_step n) (eVar 0) (aCons (eVar 1) (aCons (eVar 2) aNil))))))) ρ st) Q E := by unfold L0_Walk__walked; rfl
def b_Walk__walked (n : Nat) : Rho → M Fl :=
  (sSeq (whileF (eB (eBin isN (eUn (attrM ["Walk"] "outcome") (eVar 0)) (eC .non))) (L0_Walk__walked n) n)
  (sRet (eUn (attrM ["Walk"] "outcome") (eVar 0))))
def F_Walk__walked (n : Nat) : List PV → M PV := runB (b_Walk__walked n) 3
theorem z_Walk__walked {n : Nat} {p0 : PV} {st : Sto} {Q : PV → Sto → Prop} {E : Exn → Sto → Prop} : Z (F_Walk__walked n [p0] st) Q E = Z (b_Walk__walked n [some p0, none, none] st) (runQ Q E) E0 := Z_run rfl
def b_run_source (n : Nat) : Rho → M Fl :=
  (sSeq (sSet 4 (eCall (mkIns "Walk" (F_Walk____init__ n)) (aCons (eVar 0) (aCons (eVar 3) aNil))))
  (sSeq (sDrop (eMth "Walk" "enter" (F_Walk__enter n) (eVar 4) (aCons (eVar 1) (aCons (eVar 2) aNil))))
  (sRet (eMth "Walk" "walked" (F_Walk__walked n) (eVar 4) aNil))))
def F_run_source (n : Nat) : List PV → M PV := runB (b_run_source n) 5
theorem z_run_source {n : Nat} {p0 p1 p2 p3 : PV} {st : Sto} {Q : PV → Sto → Prop} {E : Exn → Sto → Prop} : Z (F_run_source n [p0, p1, p2, p3] st) Q E = Z (b_run_source n [some p0, some p1, some p2, some p3, none] st) (runQ Q E) E0 := Z_run rfl
def b__law_feed (n : Nat) : Rho → M Fl :=
  (sSeq (sSet 1 (eCall listM (aCons (eSl slM (eVar 0) oNone (oSome (eC (.int 63)))) aNil)))
  (sSeq (sSet 2 (eBin addV (eSl slM (eVar 1) oNone (oSome (eC (.int 2)))) (eCall mkLst (aCons (eC (.int 0)) (aCons (eC (.int 0)) aNil)))))
  (sRet (eDct [((eC (.str [99, 101, 108, 108, 115])), (eVar 1)), ((eC (.str [97, 116])), (eC (.int 0))), ((eC (.str [108, 101, 102, 116])), (eBin ixM (eVar 2) (eC (.int 1)))), ((eC (.str [100, 105, 103, 105, 116, 115])), (eBin eqM (eBin modV (eBin ixM (eVar 2) (eC (.int 0))) (eC (.int 2))) (eC (.int 1))))]))))
def F__law_feed (n : Nat) : List PV → M PV := runB (b__law_feed n) 3
theorem z__law_feed {n : Nat} {p0 : PV} {st : Sto} {Q : PV → Sto → Prop} {E : Exn → Sto → Prop} : Z (F__law_feed n [p0] st) Q E = Z (b__law_feed n [some p0, none, none] st) (runQ Q E) E0 := Z_run rfl
def b__law_draw (n : Nat) : Rho → M Fl :=
  (sSeq (sIf (eB (eBin ixM (eVar 0) (eC (.str [100, 105, 103, 105, 116, 115])))) (sSeq (sSet 2 (eBin modV (eBin ixM (eVar 0) (eC (.str [108, 101, 102, 116]))) (eVar 1)))
  (sSeq (sAsg (eBin fdivV (eBin ixM (eVar 0) (eC (.str [108, 101, 102, 116]))) (eVar 1)) (gSubM (eVar 0) (eC (.str [108, 101, 102, 116]))))
  (sSeq (sAsg (eBin (inM true) (eBin ixM (eVar 0) (eC (.str [108, 101, 102, 116]))) (eCall mkTup (aCons (eC (.int 0)) (aCons (eUn negV (eC (.int 1))) aNil)))) (gSubM (eVar 0) (eC (.str [100, 105, 103, 105, 116, 115]))))
  (sRet (eVar 2))))) sNext)
  (sSeq (sSet 3 (eBin ixM (eVar 0) (eC (.str [97, 116]))))
  (sSeq (sAsg (eBin addV (eVar 3) (eC (.int 1))) (gSubM (eVar 0) (eC (.str [97, 116]))))
  (sSeq (sSet 4 (eVar 3))
  (sSeq (sIf (eB (eBin neM (eBin ixM (eVar 0) (eC (.str [99, 101, 108, 108, 115]))) (eCall mkLst aNil))) (sSet 4 (eBin ixM (eBin ixM (eVar 0) (eC (.str [99, 101, 108, 108, 115]))) (eBin modV (eVar 3) (eCall lenM (aCons (eBin ixM (eVar 0) (eC (.str [99, 101, 108, 108, 115]))) aNil))))) sNext)
  (sSeq (sSet 5 (eBin modV (eBin mulV (eBin addV (eBin addV (eBin addV (eBin modV (eVar 4) (eC (.int 1000003))) (eBin mulV (eBin mulV (eC (.int 7)) (eVar 3)) (eVar 3))) (eBin mulV (eC (.int 31)) (eVar 3))) (eC (.int 1))) (eC (.int 48271))) (eC (.int 999983))))
  (sRet (eBin modV (eBin modV (eBin mulV (eVar 5) (eC (.int 742938285))) (eC (.int 2147483629))) (eVar 1)))))))))
def F__law_draw (n : Nat) : List PV → M PV := runB (b__law_draw n) 6
theorem z__law_draw {n : Nat} {p0 p1 : PV} {st : Sto} {Q : PV → Sto → Prop} {E : Exn → Sto → Prop} : Z (F__law_draw n [p0, p1] st) Q E = Z (b__law_draw n [some p0, some p1, none, none, none, none] st) (runQ Q E) E0 := Z_run rfl
def b__law_number (n : Nat) : Rho → M Fl :=
  (sSeq (sSet 1 (eCall (F__law_draw n) (aCons (eVar 0) (aCons (eC (.int 8)) aNil))))
  (sSeq (sIf (eB (eBin ltI (eVar 1) (eC (.int 6)))) (sRet (eBin ixM (eCall mkLst (aCons (eC (.int 0)) (aCons (eC (.int 1)) (aCons (eUn negV (eC (.int 1))) (aCons (eC (.int 2)) (aCons (eC (.int 32767)) (aCons (eUn negV (eC (.int 32768))) aNil))))))) (eVar 1))) sNext)
  (sSeq (sIf (eB (eBin eqM (eVar 1) (eC (.int 6)))) (sRet (eBin subV (eCall (F__law_draw n) (aCons (eVar 0) (aCons (eC (.int 48)) aNil))) (eC (.int 4)))) sNext)
  (sRet (eBin subV (eCall (F__law_draw n) (aCons (eVar 0) (aCons (eC (.int 65536)) aNil))) (eC (.int 32768)))))))
def F__law_number (n : Nat) : List PV → M PV := runB (b__law_number n) 2
theorem z__law_number {n : Nat} {p0 : PV} {st : Sto} {Q : PV → Sto → Prop} {E : Exn → Sto → Prop} : Z (F__law_number n [p0] st) Q E = Z (b__law_number n [some p0, none] st) (runQ Q E) E0 := Z_run rfl
def b__law_row (n : Nat) : Rho → M Fl :=
  (sSeq (sSet 1 (eCall (F__law_draw n) (aCons (eVar 0) (aCons (eC (.int 8)) aNil))))
  (sSeq (sIf (eB (eBin eqM (eVar 1) (eC (.int 7)))) (sRet (eBin mulV (eCall mkTup (aCons (eCall (F__law_number n) (aCons (eVar 0) aNil)) aNil)) (eBin addV (eC (.int 38)) (eCall (F__law_draw n) (aCons (eVar 0) (aCons (eC (.int 3)) aNil)))))) sNext)
  (sRet (eCall tupleM (aCons (eLc lcV (iCall range1 (aCons (eBin fdivV (eVar 1) (eC (.int 2))) aNil)) (gN 2) tYesM (eCall (F__law_number n) (aCons (eVar 0) aNil)) [2]) aNil)))))
def F__law_row (n : Nat) : List PV → M PV := runB (b__law_row n) 3
theorem z__law_row {n : Nat} {p0 : PV} {st : Sto} {Q : PV → Sto → Prop} {E : Exn → Sto → Prop} : Z (F__law_row n [p0] st) Q E = Z (b__law_row n [some p0, none, none] st) (runQ Q E) E0 := Z_run rfl
def b__law_same (n : Nat) (fr__law_same : List PV → M PV) : Rho → M Fl :=
  (sSeq (sIf (eB (eCall isiM (aCons (eVar 1) (aCons (eC (.ty "tuple")) aNil)))) (sSeq (sIf (tOrM (tNotM (eB (eCall isiM (aCons (eVar 0) (aCons (eC (.ty "tuple")) aNil))))) (eB (eBin neM (eCall lenM (aCons (eVar 0) aNil)) (eCall lenM (aCons (eVar 1) aNil))))) (sRet (eC (.bl false))) sNext)
  (sRet (eCall (allM false) (aCons (eLc lcV (iCall range1 (aCons (eCall lenM (aCons (eVar 1) aNil)) aNil)) (gN 2) tYesM (eCall fr__law_same (aCons (eBin ixM (eVar 0) (eVar 2)) (aCons (eBin ixM (eVar 1) (eVar 2)) aNil))) [2]) aNil)))) sNext)
  (sRet (eAndV (eBin eqM (eVar 0) (eVar 1)) (eBin eqM (eCall isiM (aCons (eVar 0) (aCons (eC (.ty "bool")) aNil))) (eCall isiM (aCons (eVar 1) (aCons (eC (.ty "bool")) aNil)))))))
def F__law_same (n : Nat) : Nat → List PV → M PV
  | 0 => fun _ => M.fail
  | d + 1 => runB (b__law_same n (F__law_same n d)) 3
theorem z__law_same {n d : Nat} {p0 p1 : PV} {st : Sto} {Q : PV → Sto → Prop} {E : Exn → Sto → Prop} : Z (F__law_same n (d + 1) [p0, p1] st) Q E = Z (b__law_same n (F__law_same n d) [some p0, some p1, none] st) (runQ Q E) E0 := Z_run rfl
def b__law_with (n : Nat) (fr__law_with : List PV → M PV) : Rho → M Fl :=
  (sSeq (sIf (eB (eBin eqM (eVar 1) (eCall mkTup aNil))) (sRet (eVar 2)) sNext)
  (sSeq (sSet 3 (eBin ixM (eVar 1) (eC (.int 0))))
  (sRet (eBin addV (eBin addV (eSl slM (eVar 0) oNone (oSome (eVar 3))) (eCall mkTup (aCons (eCall fr__law_with (aCons (eBin ixM (eVar 0) (eVar 3)) (aCons (eSl slM (eVar 1) (oSome (eC (.int 1))) oNone) (aCons (eVar 2) aNil)))) aNil))) (eSl slM (eVar 0) (oSome (eBin addV (eVar 3) (eC (.int 1)))) oNone)))))
def F__law_with (n : Nat) : Nat → List PV → M PV
  | 0 => fun _ => M.fail
  | d + 1 => runB (b__law_with n (F__law_with n d)) 4
theorem z__law_with {n d : Nat} {p0 p1 p2 : PV} {st : Sto} {Q : PV → Sto → Prop} {E : Exn → Sto → Prop} : Z (F__law_with n (d + 1) [p0, p1, p2] st) Q E = Z (b__law_with n (F__law_with n d) [some p0, some p1, some p2, none] st) (runQ Q E) E0 := Z_run rfl
def b__law_put (n : Nat) : Rho → M Fl :=
  (sSeq (sIf (tOrM (eB (eBin ltI (eVar 1) (eC (.int 0)))) (eB (eBin geI (eVar 1) (eCall lenM (aCons (eVar 0) aNil))))) (sRet (eC .non)) sNext)
  (sRet (eBin addV (eBin addV (eSl slM (eVar 0) oNone (oSome (eVar 1))) (eCall mkTup (aCons (eVar 2) aNil))) (eSl slM (eVar 0) (oSome (eBin addV (eVar 1) (eC (.int 1)))) oNone))))
def F__law_put (n : Nat) : List PV → M PV := runB (b__law_put n) 3
theorem z__law_put {n : Nat} {p0 p1 p2 : PV} {st : Sto} {Q : PV → Sto → Prop} {E : Exn → Sto → Prop} : Z (F__law_put n [p0, p1, p2] st) Q E = Z (b__law_put n [some p0, some p1, some p2] st) (runQ Q E) E0 := Z_run rfl
def b__law_whole (n : Nat) : Rho → M Fl :=
  (sSeq (sSet 3 (eBin ixM (eCall mkLst (aCons (eC (.str [97])) (aCons (eC (.str [98])) (aCons (eC (.str [99])) aNil)))) (eCall (F__law_draw n) (aCons (eVar 0) (aCons (eC (.int 3)) aNil)))))
  (sSeq (sSet 4 (eBin ixM (eCall mkLst (aCons (eC (.str [97])) (aCons (eC (.str [98])) (aCons (eC (.str [99])) aNil)))) (eCall (F__law_draw n) (aCons (eVar 0) (aCons (eC (.int 3)) aNil)))))
  (sSeq (sAsg (eBin ixM (eVar 2) (eVar 4)) (gSubM (eVar 2) (eVar 3)))
  (sRet (eCall mkTup (aCons (eC (.str [115, 101, 116])) (aCons (eCall mkTup (aCons (eBin ixM (eVar 1) (eVar 3)) aNil)) (aCons (eCall mkTup (aCons (eC (.str [111, 102])) (aCons (eCall mkTup (aCons (eBin ixM (eVar 1) (eVar 4)) aNil)) aNil))) aNil))))))))
def F__law_whole (n : Nat) : List PV → M PV := runB (b__law_whole n) 5
theorem z__law_whole {n : Nat} {p0 p1 p2 : PV} {st : Sto} {Q : PV → Sto → Prop} {E : Exn → Sto → Prop} : Z (F__law_whole n [p0, p1, p2] st) Q E = Z (b__law_whole n [some p0, some p1, some p2, none, none] st) (runQ Q E) E0 := Z_run rfl
def b__law_field (n : Nat) : Rho → M Fl :=
  (sSeq (sSet 3 (eBin ixM (eCall mkLst (aCons (eC (.str [97])) (aCons (eC (.str [98])) (aCons (eC (.str [99])) aNil)))) (eCall (F__law_draw n) (aCons (eVar 0) (aCons (eC (.int 3)) aNil)))))
  (sSeq (sSet 4 (eCall (F__law_draw n) (aCons (eVar 0) (aCons (eC (.int 4)) aNil))))
  (sSeq (sSet 5 (eCall (F__law_number n) (aCons (eVar 0) aNil)))
  (sSeq (sIf (eB (eBin eqM (eVar 4) (eC (.int 0)))) (sSeq (sAsg (eCall (F__law_with n 4) (aCons (eBin ixM (eVar 2) (eVar 3)) (aCons (eCall mkTup (aCons (eC (.int 0)) aNil)) (aCons (eVar 5) aNil)))) (gSubM (eVar 2) (eVar 3)))
  (sRet (eCall mkTup (aCons (eC (.str [115, 101, 116])) (aCons (eCall mkTup (aCons (eBin ixM (eVar 1) (eVar 3)) (aCons (eC (.str [122])) aNil))) (aCons (eVar 5) aNil)))))) sNext)
  (sSeq (sIf (eB (eBin eqM (eVar 4) (eC (.int 1)))) (sSeq (sAsg (eCall (F__law_with n 4) (aCons (eBin ixM (eVar 2) (eVar 3)) (aCons (eCall mkTup (aCons (eC (.int 1)) (aCons (eC (.int 0)) aNil))) (aCons (eVar 5) aNil)))) (gSubM (eVar 2) (eVar 3)))
  (sRet (eCall mkTup (aCons (eC (.str [115, 101, 116])) (aCons (eCall mkTup (aCons (eBin ixM (eVar 1) (eVar 3)) (aCons (eC (.str [120])) (aCons (eC (.str [122])) aNil)))) (aCons (eVar 5) aNil)))))) sNext)
  (sSeq (sIf (eB (eBin eqM (eVar 4) (eC (.int 2)))) (sSeq (sSet 6 (eBin ixM (eCall mkLst (aCons (eC (.str [97])) (aCons (eC (.str [98])) (aCons (eC (.str [99])) aNil)))) (eCall (F__law_draw n) (aCons (eVar 0) (aCons (eC (.int 3)) aNil)))))
  (sSeq (sAsg (eCall (F__law_with n 4) (aCons (eBin ixM (eVar 2) (eVar 3)) (aCons (eCall mkTup (aCons (eC (.int 1)) aNil)) (aCons (eBin ixM (eBin ixM (eVar 2) (eVar 6)) (eC (.int 1))) aNil)))) (gSubM (eVar 2) (eVar 3)))
  (sRet (eCall mkTup (aCons (eC (.str [115, 101, 116])) (aCons (eCall mkTup (aCons (eBin ixM (eVar 1) (eVar 3)) (aCons (eC (.str [120])) aNil))) (aCons (eCall mkTup (aCons (eC (.str [111, 102])) (aCons (eCall mkTup (aCons (eBin ixM (eVar 1) (eVar 6)) (aCons (eC (.str [120])) aNil))) aNil))) aNil))))))) sNext)
  (sSeq (sAsg (eCall (F__law_with n 4) (aCons (eBin ixM (eVar 2) (eVar 3)) (aCons (eCall mkTup (aCons (eC (.int 1)) (aCons (eC (.int 1)) aNil))) (aCons (eBin ixM (eVar 2) (eC (.str [100]))) aNil)))) (gSubM (eVar 2) (eVar 3)))
  (sRet (eCall mkTup (aCons (eC (.str [115, 101, 116])) (aCons (eCall mkTup (aCons (eBin ixM (eVar 1) (eVar 3)) (aCons (eC (.str [120])) (aCons (eC (.str [113])) aNil)))) (aCons (eCall mkTup (aCons (eC (.str [111, 102])) (aCons (eCall mkTup (aCons (eBin ixM (eVar 1) (eC (.str [100]))) aNil)) aNil))) aNil))))))))))))
def F__law_field (n : Nat) : List PV → M PV := runB (b__law_field n) 7
theorem z__law_field {n : Nat} {p0 p1 p2 : PV} {st : Sto} {Q : PV → Sto → Prop} {E : Exn → Sto → Prop} : Z (F__law_field n [p0, p1, p2] st) Q E = Z (b__law_field n [some p0, some p1, some p2, none, none, none, none] st) (runQ Q E) E0 := Z_run rfl
def b__law_laid (n : Nat) : Rho → M Fl :=
  (sSeq (sSet 3 (eCall (F__law_number n) (aCons (eVar 0) aNil)))
  (sSeq (sSet 4 (eBin subV (eCall (F__law_draw n) (aCons (eVar 0) (aCons (eC (.int 5)) aNil))) (eC (.int 1))))
  (sSeq (sIf (eB (eBin eqM (eCall (F__law_draw n) (aCons (eVar 0) (aCons (eC (.int 2)) aNil))) (eC (.int 0)))) (sSeq (sAsg (eCall (F__law_put n) (aCons (eBin ixM (eVar 2) (eC (.str [100]))) (aCons (eVar 4) (aCons (eVar 3) aNil)))) (gSubM (eVar 2) (eC (.str [100]))))
  (sRet (eCall mkTup (aCons (eC (.str [112, 117, 116])) (aCons (eCall mkTup (aCons (eBin ixM (eVar 1) (eC (.str [100]))) aNil)) (aCons (eVar 4) (aCons (eVar 3) aNil))))))) sNext)
  (sSeq (sSet 5 (eBin ixM (eCall mkLst (aCons (eC (.str [97])) (aCons (eC (.str [98])) (aCons (eC (.str [99])) aNil)))) (eCall (F__law_draw n) (aCons (eVar 0) (aCons (eC (.int 3)) aNil)))))
  (sSeq (sSet 6 (eCall (F__law_put n) (aCons (eBin ixM (eBin ixM (eBin ixM (eVar 2) (eVar 5)) (eC (.int 1))) (eC (.int 1))) (aCons (eVar 4) (aCons (eVar 3) aNil)))))
  (sSeq (sIf (eB (eBin isN (eVar 6) (eC .non))) (sAsg (eC .non) (gSubM (eVar 2) (eC (.str [100])))) (sAsg (eCall (F__law_with n 4) (aCons (eBin ixM (eVar 2) (eVar 5)) (aCons (eCall mkTup (aCons (eC (.int 1)) (aCons (eC (.int 1)) aNil))) (aCons (eVar 6) aNil)))) (gSubM (eVar 2) (eVar 5))))
  (sRet (eCall mkTup (aCons (eC (.str [112, 117, 116])) (aCons (eCall mkTup (aCons (eBin ixM (eVar 1) (eVar 5)) (aCons (eC (.str [120])) (aCons (eC (.str [113])) aNil)))) (aCons (eVar 4) (aCons (eVar 3) aNil))))))))))))
def F__law_laid (n : Nat) : List PV → M PV := runB (b__law_laid n) 7
theorem z__law_laid {n : Nat} {p0 p1 p2 : PV} {st : Sto} {Q : PV → Sto → Prop} {E : Exn → Sto → Prop} : Z (F__law_laid n [p0, p1, p2] st) Q E = Z (b__law_laid n [some p0, some p1, some p2, none, none, none, none] st) (runQ Q E) E0 := Z_run rfl
def L0__law_deeds (n : Nat) : Rho → M Fl :=
  (sSeq (sSet 5 (eCall (F__law_draw n) (aCons (eVar 0) (aCons (eC (.int 3)) aNil))))
  (sSeq (sIf (eB (eBin isN (eBin ixM (eVar 2) (eC (.str [100]))) (eC .non))) (sRet (eVar 3)) sNext)
  (sIf (eB (eBin eqM (eVar 5) (eC (.int 0)))) (sDrop (eMeth "list" appendM (eVar 3) (aCons (eCall (F__law_whole n) (aCons (eVar 0) (aCons (eVar 1) (aCons (eVar 2) aNil)))) aNil))) (sIf (eB (eBin eqM (eVar 5) (eC (.int 1)))) (sDrop (eMeth "list" appendM (eVar 3) (aCons (eCall (F__law_field n) (aCons (eVar 0) (aCons (eVar 1) (aCons (eVar 2) aNil)))) aNil))) (sDrop (eMeth "list" appendM (eVar 3) (aCons (eCall (F__law_laid n) (aCons (eVar 0) (aCons (eVar 1) (aCons (eVar 2) aNil)))) aNil)))))))
theorem zL0__law_deeds {n : Nat} {ρ : Rho} {st : Sto} {Q : Fl → Sto → Prop} {E : Exn → Sto → Prop} : Z (L0__law_deeds n ρ st) Q E = Z ((sSeq (sSet 5 (eCall (F__law_draw n) (aCons (eVar 0) (aCons (eC (.int 3)) aNil))))   (sSeq (sIf (eB (eBin isN (eBin ixM (eVar 2) (eC (.str [100]))) (eC .non))) (sRet (eVar 3)) sNext)   (sIf (eB (eBin eqM (eVar 5) (eC (.int 0)))) (sDrop (eMeth "list" appendM (eVar 3) (aCons (eCall (F__law_whole n) (aCons (eVar 0) (aCons (eVar 1) (aCons (eVar 2) aNil)))) aNil))) (sIf (eB (eBin eqM (eVar 5) (eC (.int 1)))) (sDrop (eMeth "list" appendM (eVar 3) (aCons (eCall (F__law_field n) (aCons (eVar 0) (aCons (eVar 1) (aCons (eVar 2) aNil)))) aNil))) (sDrop (eMeth "list" appendM (eVar 3) (aCons (eCall (F__law_laid n) (aCons (eVar 0) (aCons (eVar 1) (aCons (eVar 2) aNil)))) aNil))))))) ρ st) Q E := by unfold L0__law_deeds; rfl
def b__law_deeds (n : Nat) : Rho → M Fl :=
  (sSeq (sSet 3 (eCall mkLstN aNil))
  (sSeq (sFor (iCall range1 (aCons (eBin addV (eC (.int 2)) (eCall (F__law_draw n) (aCons (eVar 0) (aCons (eC (.int 8)) aNil)))) aNil)) (gN 4) (L0__law_deeds n))
  (sRet (eVar 3))))
def F__law_deeds (n : Nat) : List PV → M PV := runB (b__law_deeds n) 6
theorem z__law_deeds {n : Nat} {p0 p1 p2 : PV} {st : Sto} {Q : PV → Sto → Prop} {E : Exn → Sto → Prop} : Z (F__law_deeds n [p0, p1, p2] st) Q E = Z (b__law_deeds n [some p0, some p1, some p2, none, none, none] st) (runQ Q E) E0 := Z_run rfl
def b_law (n : Nat) : Rho → M Fl :=
  (sSeq (sSet 1 (eCall (F__law_feed n) (aCons (eVar 0) aNil)))
  (sSeq (sSet 2 (eBin ixM (eCall mkLst (aCons (eCall mkLst (aCons (eC (.str [120])) (aCons (eC (.str [120, 120])) (aCons (eC (.str [120, 120, 120])) (aCons (eC (.str [122])) aNil))))) (aCons (eCall mkLst (aCons (eC (.str [106, 111])) (aCons (eC (.str [106])) (aCons (eC (.str [113])) (aCons (eC (.str [120])) aNil))))) aNil))) (eCall (F__law_draw n) (aCons (eVar 1) (aCons (eC (.int 2)) aNil)))))
  (sSeq (sSet 3 (eDct [((eC (.str [97])), (eBin ixM (eVar 2) (eC (.int 0)))), ((eC (.str [98])), (eBin ixM (eVar 2) (eC (.int 1)))), ((eC (.str [99])), (eBin ixM (eVar 2) (eC (.int 2)))), ((eC (.str [100])), (eBin ixM (eVar 2) (eC (.int 3))))]))
  (sSeq (sSet 4 (eCall mkTup (aCons (eC (.str [105, 110])) (aCons (eCall mkTup (aCons (eCall mkTup (aCons (eC (.str [122])) (aCons (eC (.str [110, 117, 109])) aNil))) (aCons (eCall mkTup (aCons (eC (.str [113])) (aCons (eC (.str [114, 111, 119])) aNil))) aNil))) aNil))))
  (sSeq (sSet 5 (eCall mkTup (aCons (eC (.str [120])) (aCons (eCall mkTup (aCons (eCall mkTup (aCons (eC (.str [122])) (aCons (eC (.str [110, 117, 109])) aNil))) (aCons (eCall mkTup (aCons (eC (.str [120])) (aCons (eC (.str [105, 110])) aNil))) aNil))) aNil))))
  (sSeq (sSet 6 (eLc lcV (iCall range1 (aCons (eC (.int 2)) aNil)) (gN 15) tYesM (eCall mkTup (aCons (eCall (F__law_number n) (aCons (eVar 1) aNil)) (aCons (eCall mkTup (aCons (eCall (F__law_number n) (aCons (eVar 1) aNil)) (aCons (eCall (F__law_row n) (aCons (eVar 1) aNil)) aNil))) aNil))) [15]))
  (sSeq (sSet 7 (eCall (F__law_row n) (aCons (eVar 1) aNil)))
  (sSeq (sSet 8 (eDct [((eC (.str [97])), (eBin ixM (eVar 6) (eC (.int 0)))), ((eC (.str [98])), (eBin ixM (eVar 6) (eC (.int 1)))), ((eC (.str [99])), (eBin ixM (eVar 6) (eC (.int 1)))), ((eC (.str [100])), (eVar 7))]))
  (sSeq (sSet 9 (eBin addN (eCall mkLst (aCons (eCall mkTup (aCons (eC (.str [108, 101, 116])) (aCons (eBin ixM (eVar 3) (eC (.str [99]))) (aCons (eCall mkTup (aCons (eC (.str [111, 102])) (aCons (eCall mkTup (aCons (eBin ixM (eVar 3) (eC (.str [98]))) aNil)) aNil))) aNil)))) aNil)) (eCall (F__law_deeds n) (aCons (eVar 1) (aCons (eVar 3) (aCons (eVar 8) aNil))))))
  (sSeq (sSet 10 (eBin ixM (eCall mkLst (aCons (eC (.str [97])) (aCons (eC (.str [98])) (aCons (eC (.str [99])) (aCons (eC (.str [100])) aNil))))) (eCall (F__law_draw n) (aCons (eVar 1) (aCons (eC (.int 4)) aNil)))))
  (sSeq (sSet 11 (eBin ixM (eCall mkLst (aCons (eC (.str [120])) (aCons (eC (.str [114, 111, 119])) aNil))) (eCall intM (aCons (eBin eqM (eVar 10) (eC (.str [100]))) aNil))))
  (sSeq (sDrop (eMeth "list" appendM (eVar 9) (aCons (eCall mkTup (aCons (eC (.str [103, 105, 118, 101])) (aCons (eCall mkTup (aCons (eC (.str [111, 102])) (aCons (eCall mkTup (aCons (eBin ixM (eVar 3) (eVar 10)) aNil)) aNil))) aNil))) aNil)))
  (sSeq (sSet 12 (eCall mkTup (aCons (eCall mkTup (aCons (eBin ixM (eVar 3) (eC (.str [97]))) (aCons (eC (.str [120])) aNil))) (aCons (eCall mkTup (aCons (eBin ixM (eVar 3) (eC (.str [100]))) (aCons (eC (.str [114, 111, 119])) aNil))) (aCons (eCall mkTup (aCons (eBin ixM (eVar 3) (eC (.str [98]))) (aCons (eC (.str [120])) aNil))) aNil)))))
  (sSeq (sSet 13 (eCall mkTup (aCons (eCall mkTup (aCons (eVar 4) (aCons (eVar 5) aNil))) (aCons (eCall mkTup (aCons (eCall mkTup (aCons (eC (.str [120])) (aCons (eVar 11) (aCons (eVar 12) (aCons (eCall tupleM (aCons (eVar 9) aNil)) aNil))))) aNil)) aNil))))
  (sSeq (sSet 14 (eCall mkTup (aCons (eC (.str [102, 97, 117, 108, 116])) (aCons (eC (.str [114, 97, 110, 103, 101])) aNil))))
  (sSeq (sIf (eB (eBin notN (eBin ixM (eVar 8) (eC (.str [100]))) (eC .non))) (sSet 14 (eCall mkTup (aCons (eC (.str [98, 97, 99, 107])) (aCons (eBin ixM (eVar 8) (eVar 10)) aNil)))) sNext)
  (sRet (eCall (F__law_same n 5) (aCons (eCall (F_run_source n) (aCons (eVar 13) (aCons (eC (.str [120])) (aCons (eCall mkTup (aCons (eBin ixM (eVar 6) (eC (.int 0))) (aCons (eVar 7) (aCons (eBin ixM (eVar 6) (eC (.int 1))) aNil)))) (aCons (eC (.int 0)) aNil))))) (aCons (eVar 14) aNil))))))))))))))))))))
def F_law (n : Nat) : List PV → M PV := runB (b_law n) 16
theorem z_law {n : Nat} {p0 : PV} {st : Sto} {Q : PV → Sto → Prop} {E : Exn → Sto → Prop} : Z (F_law n [p0] st) Q E = Z (b_law n [some p0, none, none, none, none, none, none, none, none, none, none, none, none, none, none, none] st) (runQ Q E) E0 := Z_run rfl
end K21

set_option maxRecDepth 100000
namespace K21
open PySem L2 MP
def topS (i : Nat) : Stmt := PySem.Challenge.pw_samepaper_k21_variables.main.body.getD i (.Pass ⟨0, 0, 0, 0⟩)
abbrev s_taken_in : Stmt := topS 5
abbrev s_kinds_of : Stmt := topS 6
abbrev s_divided : Stmt := topS 7
abbrev s_done_sum : Stmt := topS 8
abbrev s_put_at : Stmt := topS 9
abbrev s_done_row : Stmt := topS 10
abbrev s_done : Stmt := topS 11
abbrev s_found_in : Stmt := topS 14
abbrev s_path_kind : Stmt := topS 15
abbrev s_kind_of_expr : Stmt := topS 16
abbrev s_fault_of : Stmt := topS 19
abbrev s_fields_of : Stmt := topS 20
abbrev s_places_of : Stmt := topS 21
abbrev s_value_at : Stmt := topS 22
abbrev s_with_field : Stmt := topS 23
abbrev s_Steps____init__ : Stmt := inClass (topS 24) 0
abbrev s_Steps__lay : Stmt := inClass (topS 24) 1
abbrev s_Steps__here : Stmt := inClass (topS 24) 2
abbrev s_Steps__lay_either : Stmt := inClass (topS 24) 3
abbrev s_Steps__lay_expr : Stmt := inClass (topS 24) 4
abbrev s_Steps__lay_while : Stmt := inClass (topS 24) 5
abbrev s_Steps__lay_if : Stmt := inClass (topS 24) 6
abbrev s_Steps__lay_statement : Stmt := inClass (topS 24) 7
abbrev s_Steps__lay_body : Stmt := inClass (topS 24) 8
abbrev s_Walk____init__ : Stmt := inClass (topS 25) 0
abbrev s_Walk__enter : Stmt := inClass (topS 25) 1
abbrev s_Walk__tick : Stmt := inClass (topS 25) 2
abbrev s_Walk__taken : Stmt := inClass (topS 25) 3
abbrev s_Walk__give : Stmt := inClass (topS 25) 4
abbrev s_Walk__reckon : Stmt := inClass (topS 25) 5
abbrev s_Walk__turn_step : Stmt := inClass (topS 25) 7
abbrev s_Walk__reckon_step : Stmt := inClass (topS 25) 6
abbrev s_Walk__walked : Stmt := inClass (topS 25) 8
abbrev s_run_source : Stmt := topS 26
abbrev s__law_feed : Stmt := topS 28
abbrev s__law_draw : Stmt := topS 29
abbrev s__law_number : Stmt := topS 30
abbrev s__law_row : Stmt := topS 31
abbrev s__law_same : Stmt := topS 32
abbrev s__law_with : Stmt := topS 33
abbrev s__law_put : Stmt := topS 34
abbrev s__law_whole : Stmt := topS 35
abbrev s__law_field : Stmt := topS 36
abbrev s__law_laid : Stmt := topS 37
abbrev s__law_deeds : Stmt := topS 38
abbrev s_law : Stmt := topS 39
structure Adr where
  a_taken_in : Addr
  d_taken_in : FuncData
  a_kinds_of : Addr
  d_kinds_of : FuncData
  a_divided : Addr
  d_divided : FuncData
  a_done_sum : Addr
  d_done_sum : FuncData
  a_put_at : Addr
  d_put_at : FuncData
  a_done_row : Addr
  d_done_row : FuncData
  a_done : Addr
  d_done : FuncData
  a_found_in : Addr
  d_found_in : FuncData
  a_path_kind : Addr
  d_path_kind : FuncData
  a_kind_of_expr : Addr
  d_kind_of_expr : FuncData
  a_fault_of : Addr
  d_fault_of : FuncData
  a_fields_of : Addr
  d_fields_of : FuncData
  a_places_of : Addr
  d_places_of : FuncData
  a_value_at : Addr
  d_value_at : FuncData
  a_with_field : Addr
  d_with_field : FuncData
  a_Steps____init__ : Addr
  d_Steps____init__ : FuncData
  a_Steps__lay : Addr
  d_Steps__lay : FuncData
  a_Steps__here : Addr
  d_Steps__here : FuncData
  a_Steps__lay_either : Addr
  d_Steps__lay_either : FuncData
  a_Steps__lay_expr : Addr
  d_Steps__lay_expr : FuncData
  a_Steps__lay_while : Addr
  d_Steps__lay_while : FuncData
  a_Steps__lay_if : Addr
  d_Steps__lay_if : FuncData
  a_Steps__lay_statement : Addr
  d_Steps__lay_statement : FuncData
  a_Steps__lay_body : Addr
  d_Steps__lay_body : FuncData
  a_Walk____init__ : Addr
  d_Walk____init__ : FuncData
  a_Walk__enter : Addr
  d_Walk__enter : FuncData
  a_Walk__tick : Addr
  d_Walk__tick : FuncData
  a_Walk__taken : Addr
  d_Walk__taken : FuncData
  a_Walk__give : Addr
  d_Walk__give : FuncData
  a_Walk__reckon : Addr
  d_Walk__reckon : FuncData
  a_Walk__turn_step : Addr
  d_Walk__turn_step : FuncData
  a_Walk__reckon_step : Addr
  d_Walk__reckon_step : FuncData
  a_Walk__walked : Addr
  d_Walk__walked : FuncData
  a_run_source : Addr
  d_run_source : FuncData
  a__law_feed : Addr
  d__law_feed : FuncData
  a__law_draw : Addr
  d__law_draw : FuncData
  a__law_number : Addr
  d__law_number : FuncData
  a__law_row : Addr
  d__law_row : FuncData
  a__law_same : Addr
  d__law_same : FuncData
  a__law_with : Addr
  d__law_with : FuncData
  a__law_put : Addr
  d__law_put : FuncData
  a__law_whole : Addr
  d__law_whole : FuncData
  a__law_field : Addr
  d__law_field : FuncData
  a__law_laid : Addr
  d__law_laid : FuncData
  a__law_deeds : Addr
  d__law_deeds : FuncData
  a_law : Addr
  d_law : FuncData
  k_Steps : Addr
  k_Walk : Addr
structure Txt (w : World) (K : PySem.W.Frag) (mg : Str → Option Value) (A : Adr) : Prop where
  f_taken_in : Fun K "taken_in" "taken_in" s_taken_in A.a_taken_in A.d_taken_in
  m_taken_in : mg "taken_in" = some (.ref A.a_taken_in)
  b_taken_in : Binds K A.d_taken_in ["whole"] []
  f_kinds_of : Fun K "kinds_of" "kinds_of" s_kinds_of A.a_kinds_of A.d_kinds_of
  m_kinds_of : mg "kinds_of" = some (.ref A.a_kinds_of)
  b_kinds_of : Binds K A.d_kinds_of ["op"] []
  f_divided : Fun K "divided" "divided" s_divided A.a_divided A.d_divided
  m_divided : mg "divided" = some (.ref A.a_divided)
  b_divided : Binds K A.d_divided ["one", "other"] []
  f_done_sum : Fun K "done_sum" "done_sum" s_done_sum A.a_done_sum A.d_done_sum
  m_done_sum : mg "done_sum" = some (.ref A.a_done_sum)
  b_done_sum : Binds K A.d_done_sum ["op", "one", "other"] []
  f_put_at : Fun K "put_at" "put_at" s_put_at A.a_put_at A.d_put_at
  m_put_at : mg "put_at" = some (.ref A.a_put_at)
  b_put_at : Binds K A.d_put_at ["row", "place", "number"] []
  f_done_row : Fun K "done_row" "done_row" s_done_row A.a_done_row A.d_done_row
  m_done_row : mg "done_row" = some (.ref A.a_done_row)
  b_done_row : Binds K A.d_done_row ["op", "values"] []
  f_done : Fun K "done" "done" s_done A.a_done A.d_done
  m_done : mg "done" = some (.ref A.a_done)
  b_done : Binds K A.d_done ["op", "values"] []
  f_found_in : Fun K "found_in" "found_in" s_found_in A.a_found_in A.d_found_in
  m_found_in : mg "found_in" = some (.ref A.a_found_in)
  b_found_in : Binds K A.d_found_in ["pairs", "name"] []
  f_path_kind : Fun K "path_kind" "path_kind" s_path_kind A.a_path_kind A.d_path_kind
  m_path_kind : mg "path_kind" = some (.ref A.a_path_kind)
  b_path_kind : Binds K A.d_path_kind ["tree", "known", "path"] []
  f_kind_of_expr : Fun K "kind_of_expr" "kind_of_expr" s_kind_of_expr A.a_kind_of_expr A.d_kind_of_expr
  m_kind_of_expr : mg "kind_of_expr" = some (.ref A.a_kind_of_expr)
  b_kind_of_expr : Binds K A.d_kind_of_expr ["tree", "known", "e"] []
  f_fault_of : Fun K "fault_of" "fault_of" s_fault_of A.a_fault_of A.d_fault_of
  m_fault_of : mg "fault_of" = some (.ref A.a_fault_of)
  b_fault_of : Binds K A.d_fault_of ["op", "values"] []
  f_fields_of : Fun K "fields_of" "fields_of" s_fields_of A.a_fields_of A.d_fields_of
  m_fields_of : mg "fields_of" = some (.ref A.a_fields_of)
  b_fields_of : Binds K A.d_fields_of ["tree", "kind"] []
  f_places_of : Fun K "places_of" "places_of" s_places_of A.a_places_of A.d_places_of
  m_places_of : mg "places_of" = some (.ref A.a_places_of)
  b_places_of : Binds K A.d_places_of ["tree", "known", "path"] []
  f_value_at : Fun K "value_at" "value_at" s_value_at A.a_value_at A.d_value_at
  m_value_at : mg "value_at" = some (.ref A.a_value_at)
  b_value_at : Binds K A.d_value_at ["value", "places"] []
  f_with_field : Fun K "with_field" "with_field" s_with_field A.a_with_field A.d_with_field
  m_with_field : mg "with_field" = some (.ref A.a_with_field)
  b_with_field : Binds K A.d_with_field ["value", "places", "fresh"] []
  f_Steps____init__ : Fun K "__init__" "Steps.__init__" s_Steps____init__ A.a_Steps____init__ A.d_Steps____init__
  mt_Steps____init__ : Meth K A.k_Steps "__init__" A.a_Steps____init__
  b_Steps____init__ : Binds K A.d_Steps____init__ ["self", "tree", "params"] []
  f_Steps__lay : Fun K "lay" "Steps.lay" s_Steps__lay A.a_Steps__lay A.d_Steps__lay
  mt_Steps__lay : Meth K A.k_Steps "lay" A.a_Steps__lay
  b_Steps__lay : Binds K A.d_Steps__lay ["self", "step"] []
  f_Steps__here : Fun K "here" "Steps.here" s_Steps__here A.a_Steps__here A.d_Steps__here
  mt_Steps__here : Meth K A.k_Steps "here" A.a_Steps__here
  b_Steps__here : Binds K A.d_Steps__here ["self"] []
  f_Steps__lay_either : Fun K "lay_either" "Steps.lay_either" s_Steps__lay_either A.a_Steps__lay_either A.d_Steps__lay_either
  mt_Steps__lay_either : Meth K A.k_Steps "lay_either" A.a_Steps__lay_either
  b_Steps__lay_either : Binds K A.d_Steps__lay_either ["self", "expr"] []
  f_Steps__lay_expr : Fun K "lay_expr" "Steps.lay_expr" s_Steps__lay_expr A.a_Steps__lay_expr A.d_Steps__lay_expr
  mt_Steps__lay_expr : Meth K A.k_Steps "lay_expr" A.a_Steps__lay_expr
  b_Steps__lay_expr : Binds K A.d_Steps__lay_expr ["self", "expr"] []
  f_Steps__lay_while : Fun K "lay_while" "Steps.lay_while" s_Steps__lay_while A.a_Steps__lay_while A.d_Steps__lay_while
  mt_Steps__lay_while : Meth K A.k_Steps "lay_while" A.a_Steps__lay_while
  b_Steps__lay_while : Binds K A.d_Steps__lay_while ["self", "statement"] []
  f_Steps__lay_if : Fun K "lay_if" "Steps.lay_if" s_Steps__lay_if A.a_Steps__lay_if A.d_Steps__lay_if
  mt_Steps__lay_if : Meth K A.k_Steps "lay_if" A.a_Steps__lay_if
  b_Steps__lay_if : Binds K A.d_Steps__lay_if ["self", "statement"] []
  f_Steps__lay_statement : Fun K "lay_statement" "Steps.lay_statement" s_Steps__lay_statement A.a_Steps__lay_statement A.d_Steps__lay_statement
  mt_Steps__lay_statement : Meth K A.k_Steps "lay_statement" A.a_Steps__lay_statement
  b_Steps__lay_statement : Binds K A.d_Steps__lay_statement ["self", "statement"] []
  f_Steps__lay_body : Fun K "lay_body" "Steps.lay_body" s_Steps__lay_body A.a_Steps__lay_body A.d_Steps__lay_body
  mt_Steps__lay_body : Meth K A.k_Steps "lay_body" A.a_Steps__lay_body
  b_Steps__lay_body : Binds K A.d_Steps__lay_body ["self", "body"] []
  f_Walk____init__ : Fun K "__init__" "Walk.__init__" s_Walk____init__ A.a_Walk____init__ A.d_Walk____init__
  mt_Walk____init__ : Meth K A.k_Walk "__init__" A.a_Walk____init__
  b_Walk____init__ : Binds K A.d_Walk____init__ ["self", "tree", "bound"] []
  f_Walk__enter : Fun K "enter" "Walk.enter" s_Walk__enter A.a_Walk__enter A.d_Walk__enter
  mt_Walk__enter : Meth K A.k_Walk "enter" A.a_Walk__enter
  b_Walk__enter : Binds K A.d_Walk__enter ["self", "name", "values"] []
  f_Walk__tick : Fun K "tick" "Walk.tick" s_Walk__tick A.a_Walk__tick A.d_Walk__tick
  mt_Walk__tick : Meth K A.k_Walk "tick" A.a_Walk__tick
  b_Walk__tick : Binds K A.d_Walk__tick ["self"] []
  f_Walk__taken : Fun K "taken" "Walk.taken" s_Walk__taken A.a_Walk__taken A.d_Walk__taken
  mt_Walk__taken : Meth K A.k_Walk "taken" A.a_Walk__taken
  b_Walk__taken : Binds K A.d_Walk__taken ["self", "frame", "many"] []
  f_Walk__give : Fun K "give" "Walk.give" s_Walk__give A.a_Walk__give A.d_Walk__give
  mt_Walk__give : Meth K A.k_Walk "give" A.a_Walk__give
  b_Walk__give : Binds K A.d_Walk__give ["self", "frame"] []
  f_Walk__reckon : Fun K "reckon" "Walk.reckon" s_Walk__reckon A.a_Walk__reckon A.d_Walk__reckon
  mt_Walk__reckon : Meth K A.k_Walk "reckon" A.a_Walk__reckon
  b_Walk__reckon : Binds K A.d_Walk__reckon ["self", "frame", "op"] []
  f_Walk__turn_step : Fun K "turn_step" "Walk.turn_step" s_Walk__turn_step A.a_Walk__turn_step A.d_Walk__turn_step
  mt_Walk__turn_step : Meth K A.k_Walk "turn_step" A.a_Walk__turn_step
  b_Walk__turn_step : Binds K A.d_Walk__turn_step ["self", "frame", "step"] []
  f_Walk__reckon_step : Fun K "reckon_step" "Walk.reckon_step" s_Walk__reckon_step A.a_Walk__reckon_step A.d_Walk__reckon_step
  mt_Walk__reckon_step : Meth K A.k_Walk "reckon_step" A.a_Walk__reckon_step
  b_Walk__reckon_step : Binds K A.d_Walk__reckon_step ["self", "frame", "step"] []
  f_Walk__walked : Fun K "walked" "Walk.walked" s_Walk__walked A.a_Walk__walked A.d_Walk__walked
  mt_Walk__walked : Meth K A.k_Walk "walked" A.a_Walk__walked
  b_Walk__walked : Binds K A.d_Walk__walked ["self"] []
  f_run_source : Fun K "run_source" "run_source" s_run_source A.a_run_source A.d_run_source
  m_run_source : mg "run_source" = some (.ref A.a_run_source)
  b_run_source : Binds K A.d_run_source ["tree", "name", "values", "bound"] []
  f__law_feed : Fun K "_law_feed" "_law_feed" s__law_feed A.a__law_feed A.d__law_feed
  m__law_feed : mg "_law_feed" = some (.ref A.a__law_feed)
  b__law_feed : Binds K A.d__law_feed ["_law_script"] []
  f__law_draw : Fun K "_law_draw" "_law_draw" s__law_draw A.a__law_draw A.d__law_draw
  m__law_draw : mg "_law_draw" = some (.ref A.a__law_draw)
  b__law_draw : Binds K A.d__law_draw ["_law_feed_here", "_law_many"] []
  f__law_number : Fun K "_law_number" "_law_number" s__law_number A.a__law_number A.d__law_number
  m__law_number : mg "_law_number" = some (.ref A.a__law_number)
  b__law_number : Binds K A.d__law_number ["_law_feed_here"] []
  f__law_row : Fun K "_law_row" "_law_row" s__law_row A.a__law_row A.d__law_row
  m__law_row : mg "_law_row" = some (.ref A.a__law_row)
  b__law_row : Binds K A.d__law_row ["_law_feed_here"] []
  f__law_same : Fun K "_law_same" "_law_same" s__law_same A.a__law_same A.d__law_same
  m__law_same : mg "_law_same" = some (.ref A.a__law_same)
  b__law_same : Binds K A.d__law_same ["_law_found", "_law_due"] []
  f__law_with : Fun K "_law_with" "_law_with" s__law_with A.a__law_with A.d__law_with
  m__law_with : mg "_law_with" = some (.ref A.a__law_with)
  b__law_with : Binds K A.d__law_with ["_law_value", "_law_places", "_law_fresh"] []
  f__law_put : Fun K "_law_put" "_law_put" s__law_put A.a__law_put A.d__law_put
  m__law_put : mg "_law_put" = some (.ref A.a__law_put)
  b__law_put : Binds K A.d__law_put ["_law_row_here", "_law_at", "_law_number_here"] []
  f__law_whole : Fun K "_law_whole" "_law_whole" s__law_whole A.a__law_whole A.d__law_whole
  m__law_whole : mg "_law_whole" = some (.ref A.a__law_whole)
  b__law_whole : Binds K A.d__law_whole ["_law_feed_here", "_law_names", "_law_have"] []
  f__law_field : Fun K "_law_field" "_law_field" s__law_field A.a__law_field A.d__law_field
  m__law_field : mg "_law_field" = some (.ref A.a__law_field)
  b__law_field : Binds K A.d__law_field ["_law_feed_here", "_law_names", "_law_have"] []
  f__law_laid : Fun K "_law_laid" "_law_laid" s__law_laid A.a__law_laid A.d__law_laid
  m__law_laid : mg "_law_laid" = some (.ref A.a__law_laid)
  b__law_laid : Binds K A.d__law_laid ["_law_feed_here", "_law_names", "_law_have"] []
  f__law_deeds : Fun K "_law_deeds" "_law_deeds" s__law_deeds A.a__law_deeds A.d__law_deeds
  m__law_deeds : mg "_law_deeds" = some (.ref A.a__law_deeds)
  b__law_deeds : Binds K A.d__law_deeds ["_law_feed_here", "_law_names", "_law_have"] []
  f_law : Fun K "law" "law" s_law A.a_law A.d_law
  m_law : mg "law" = some (.ref A.a_law)
  b_law : Binds K A.d_law ["_law_script"] []
  m_Steps : mg "Steps" = some (.ref A.k_Steps)
  ci_Steps : ClsIn K "Steps" A.k_Steps
  cl_Steps : Cls K A.k_Steps
  mk_Steps : Mk K A.k_Steps A.a_Steps____init__
  na_Steps_laid_steps : NoAttr K A.k_Steps "laid_steps"
  na_Steps_own_tree : NoAttr K A.k_Steps "own_tree"
  na_Steps_seen : NoAttr K A.k_Steps "seen"
  m_Walk : mg "Walk" = some (.ref A.k_Walk)
  ci_Walk : ClsIn K "Walk" A.k_Walk
  cl_Walk : Cls K A.k_Walk
  mk_Walk : Mk K A.k_Walk A.a_Walk____init__
  na_Walk_outcome : NoAttr K A.k_Walk "outcome"
  na_Walk_stack : NoAttr K A.k_Walk "stack"
  na_Walk_ticks_left : NoAttr K A.k_Walk "ticks_left"
  na_Walk_told_steps : NoAttr K A.k_Walk "told_steps"
  c_COUNTED : TabAt w K mg "COUNTED" tab_COUNTED
  c_KIND_OF : TabAt w K mg "KIND_OF" tab_KIND_OF
  c_LEAST : ∃ t, mg "LEAST" = some (.int (-32768) t)
  c_LONGEST : ∃ t, mg "LONGEST" = some (.int 40 t)
  c_OPERATIONS : TabAt w K mg "OPERATIONS" tab_OPERATIONS
  c_TURN : ∃ t, mg "TURN" = some (.int 65536 t)
  z_int : mg "int" = none
  z_len : mg "len" = none
  z_max : mg "max" = none
  z_min : mg "min" = none
  z_tuple : mg "tuple" = none
  z_isinstance : mg "isinstance" = none
  z_zip : mg "zip" = none
  z_list : mg "list" = none
  z_range : mg "range" = none
  z_all : mg "all" = none
  z_bool : mg "bool" = none
section
variable {P : Program} {w : World} {K : PySem.W.Frag} {mg : Str → Option Value} {base : Heap} {A : Adr}
theorem sc_taken_in : FnScope ["whole"] ["whole"] (defScope s_taken_in) := ⟨by kernel_rfl, by kernel_rfl, by kernel_rfl, by decide +kernel, by kernel_rfl, by decide +kernel, by decide +kernel⟩
set_option maxHeartbeats 4000000 in
theorem ok_taken_in (T : Txt w K mg A) (n : Nat) : FnOk P w K mg base (L2.CX P w) 1 A.a_taken_in A.d_taken_in ["whole"] (spM K (F_taken_in n) 1) :=
  def_okF ["whole"] ["whole"] (b_taken_in n) (k := 0) (kk := 1) (nn := 1) (g := F_taken_in n) (by kernel_rfl) (by kernel_rfl) (by kernel_rfl) T.f_taken_in sc_taken_in fun cdv Ar outer s H E hr => by
  have hu := hu_of hr
  have tk : Takes (cxOf (L2.CX P w) P w K mg base ["whole"] "taken_in" (defScope s_taken_in) A.a_taken_in cdv Ar outer s H E) (fun c d _ H => E c d H) := takes_of rfl rfl rfl rfl
  exact (mss_one (ms_ret (me_add (me_mod (me_sub (me_var 0 (hv := Or.inl (by kernel_rfl))) (me_globI' (gl_of (by kernel_rfl)) T.c_LEAST)) (me_globI' (gl_of (by kernel_rfl)) T.c_TURN)) (me_globI' (gl_of (by kernel_rfl)) T.c_LEAST))))
theorem sc_kinds_of : FnScope ["op"] ["op"] (defScope s_kinds_of) := ⟨by kernel_rfl, by kernel_rfl, by kernel_rfl, by decide +kernel, by kernel_rfl, by decide +kernel, by decide +kernel⟩
set_option maxHeartbeats 4000000 in
theorem ok_kinds_of (T : Txt w K mg A) (n : Nat) : FnOk P w K mg base (L2.CX P w) 1 A.a_kinds_of A.d_kinds_of ["op"] (spM K (F_kinds_of n) 1) :=
  def_okF ["op"] ["op"] (b_kinds_of n) (k := 0) (kk := 1) (nn := 1) (g := F_kinds_of n) (by kernel_rfl) (by kernel_rfl) (by kernel_rfl) T.f_kinds_of sc_kinds_of fun cdv Ar outer s H E hr => by
  have hu := hu_of hr
  have tk : Takes (cxOf (L2.CX P w) P w K mg base ["op"] "kinds_of" (defScope s_kinds_of) A.a_kinds_of cdv Ar outer s H E) (fun c d _ H => E c d H) := takes_of rfl rfl rfl rfl
  exact (mss_one (ms_ret (me_getTab T.c_OPERATIONS (me_var 0 (hv := Or.inl (by kernel_rfl))))))
theorem sc_divided : FnScope ["one", "other"] ["one", "other"] (defScope s_divided) := ⟨by kernel_rfl, by kernel_rfl, by kernel_rfl, by decide +kernel, by kernel_rfl, by decide +kernel, by decide +kernel⟩
set_option maxHeartbeats 4000000 in
theorem ok_divided (T : Txt w K mg A) (n : Nat) : FnOk P w K mg base (L2.CX P w) 2 A.a_divided A.d_divided ["one", "other"] (spM K (F_divided n) 2) :=
  def_okF ["one", "other"] ["one", "other"] (b_divided n) (k := 1) (kk := 2) (nn := 2) (g := F_divided n) (by kernel_rfl) (by kernel_rfl) (by kernel_rfl) T.f_divided sc_divided fun cdv Ar outer s H E hr => by
  have hu := hu_of hr
  have tk : Takes (cxOf (L2.CX P w) P w K mg base ["one", "other"] "divided" (defScope s_divided) A.a_divided cdv Ar outer s H E) (fun c d _ H => E c d H) := takes_of rfl rfl rfl rfl
  exact (mss_cons (ms_if (mt_eq hr.units (me_var 1 (hv := Or.inl (by kernel_rfl))) me_int) (mss_one (ms_ret me_int)) mss_nil)
  (mss_one (ms_ret (me_call (ok_taken_in T n) (hr.mono (by decide)) (gl_of (by kernel_rfl)) T.m_taken_in T.f_taken_in.kp T.b_taken_in tk (ma_cons (me_fdiv (me_var 0 (hv := Or.inl (by kernel_rfl))) (me_var 1 (hv := Or.inl (by kernel_rfl)))) ma_nil) (aLen_cons aLen_nil)))))
theorem sc_done_sum : FnScope ["op", "one", "other"] ["op", "one", "other"] (defScope s_done_sum) := ⟨by kernel_rfl, by kernel_rfl, by kernel_rfl, by decide +kernel, by kernel_rfl, by decide +kernel, by decide +kernel⟩
set_option maxHeartbeats 4000000 in
theorem ok_done_sum (T : Txt w K mg A) (n : Nat) : FnOk P w K mg base (L2.CX P w) 3 A.a_done_sum A.d_done_sum ["op", "one", "other"] (spM K (F_done_sum n) 3) :=
  def_okF ["op", "one", "other"] ["op", "one", "other"] (b_done_sum n) (k := 2) (kk := 3) (nn := 3) (g := F_done_sum n) (by kernel_rfl) (by kernel_rfl) (by kernel_rfl) T.f_done_sum sc_done_sum fun cdv Ar outer s H E hr => by
  have hu := hu_of hr
  have tk : Takes (cxOf (L2.CX P w) P w K mg base ["op", "one", "other"] "done_sum" (defScope s_done_sum) A.a_done_sum cdv Ar outer s H E) (fun c d _ H => E c d H) := takes_of rfl rfl rfl rfl
  exact (mss_cons (ms_if (mt_eq hr.units (me_var 0 (hv := Or.inl (by kernel_rfl))) (me_str [97, 100, 100] (by decide +kernel))) (mss_one (ms_ret (me_call (ok_taken_in T n) (hr.mono (by decide)) (gl_of (by kernel_rfl)) T.m_taken_in T.f_taken_in.kp T.b_taken_in tk (ma_cons (me_add (me_var 1 (hv := Or.inl (by kernel_rfl))) (me_var 2 (hv := Or.inl (by kernel_rfl)))) ma_nil) (aLen_cons aLen_nil)))) mss_nil)
  (mss_cons (ms_if (mt_eq hr.units (me_var 0 (hv := Or.inl (by kernel_rfl))) (me_str [115, 117, 98] (by decide +kernel))) (mss_one (ms_ret (me_call (ok_taken_in T n) (hr.mono (by decide)) (gl_of (by kernel_rfl)) T.m_taken_in T.f_taken_in.kp T.b_taken_in tk (ma_cons (me_sub (me_var 1 (hv := Or.inl (by kernel_rfl))) (me_var 2 (hv := Or.inl (by kernel_rfl)))) ma_nil) (aLen_cons aLen_nil)))) mss_nil)
  (mss_cons (ms_if (mt_eq hr.units (me_var 0 (hv := Or.inl (by kernel_rfl))) (me_str [109, 117, 108] (by decide +kernel))) (mss_one (ms_ret (me_call (ok_taken_in T n) (hr.mono (by decide)) (gl_of (by kernel_rfl)) T.m_taken_in T.f_taken_in.kp T.b_taken_in tk (ma_cons (me_mul (me_var 1 (hv := Or.inl (by kernel_rfl))) (me_var 2 (hv := Or.inl (by kernel_rfl)))) ma_nil) (aLen_cons aLen_nil)))) mss_nil)
  (mss_cons (ms_if (mt_eq hr.units (me_var 0 (hv := Or.inl (by kernel_rfl))) (me_str [100, 105, 118] (by decide +kernel))) (mss_one (ms_ret (me_call (ok_divided T n) (hr.mono (by decide)) (gl_of (by kernel_rfl)) T.m_divided T.f_divided.kp T.b_divided tk (ma_cons (me_var 1 (hv := Or.inl (by kernel_rfl))) (ma_cons (me_var 2 (hv := Or.inl (by kernel_rfl))) ma_nil)) (aLen_cons (aLen_cons aLen_nil))))) mss_nil)
  (mss_cons (ms_if (mt_eq hr.units (me_var 0 (hv := Or.inl (by kernel_rfl))) (me_str [114, 101, 115, 116] (by decide +kernel))) (mss_one (ms_ret (me_call (ok_taken_in T n) (hr.mono (by decide)) (gl_of (by kernel_rfl)) T.m_taken_in T.f_taken_in.kp T.b_taken_in tk (ma_cons (me_sub (me_var 1 (hv := Or.inl (by kernel_rfl))) (me_mul (me_var 2 (hv := Or.inl (by kernel_rfl))) (me_call (ok_divided T n) (hr.mono (by decide)) (gl_of (by kernel_rfl)) T.m_divided T.f_divided.kp T.b_divided tk (ma_cons (me_var 1 (hv := Or.inl (by kernel_rfl))) (ma_cons (me_var 2 (hv := Or.inl (by kernel_rfl))) ma_nil)) (aLen_cons (aLen_cons aLen_nil))))) ma_nil) (aLen_cons aLen_nil)))) mss_nil)
  (mss_cons (ms_if (mt_eq hr.units (me_var 0 (hv := Or.inl (by kernel_rfl))) (me_str [108, 101, 115, 115] (by decide +kernel))) (mss_one (ms_ret (me_intOf (gl_of (by kernel_rfl)) T.z_int (ma_cons (me_lt (me_var 1 (hv := Or.inl (by kernel_rfl))) (me_var 2 (hv := Or.inl (by kernel_rfl)))) ma_nil)))) mss_nil)
  (mss_one (ms_ret (me_intOf (gl_of (by kernel_rfl)) T.z_int (ma_cons (me_eq hr.units (me_var 1 (hv := Or.inl (by kernel_rfl))) (me_var 2 (hv := Or.inl (by kernel_rfl)))) ma_nil))))))))))
theorem sc_put_at : FnScope ["row", "place", "number"] ["row", "place", "number"] (defScope s_put_at) := ⟨by kernel_rfl, by kernel_rfl, by kernel_rfl, by decide +kernel, by kernel_rfl, by decide +kernel, by decide +kernel⟩
set_option maxHeartbeats 4000000 in
theorem ok_put_at (T : Txt w K mg A) (n : Nat) : FnOk P w K mg base (L2.CX P w) 1 A.a_put_at A.d_put_at ["row", "place", "number"] (spM K (F_put_at n) 3) :=
  def_okF ["row", "place", "number"] ["row", "place", "number"] (b_put_at n) (k := 0) (kk := 3) (nn := 3) (g := F_put_at n) (by kernel_rfl) (by kernel_rfl) (by kernel_rfl) T.f_put_at sc_put_at fun cdv Ar outer s H E hr => by
  have hu := hu_of hr
  have tk : Takes (cxOf (L2.CX P w) P w K mg base ["row", "place", "number"] "put_at" (defScope s_put_at) A.a_put_at cdv Ar outer s H E) (fun c d _ H => E c d H) := takes_of rfl rfl rfl rfl
  exact (mss_cons (ms_if (mt_of (mw_or (mt_lt (me_var 1 (hv := Or.inl (by kernel_rfl))) me_int) (mw_or1 (mt_ge (me_var 1 (hv := Or.inl (by kernel_rfl))) (me_len (gl_of (by kernel_rfl)) T.z_len (ma_cons (me_var 0 (hv := Or.inl (by kernel_rfl))) ma_nil)))))) (mss_one (ms_ret (me_var 0 (hv := Or.inl (by kernel_rfl))))) mss_nil)
  (mss_one (ms_ret (me_add (me_add (me_slice (me_var 0 (hv := Or.inl (by kernel_rfl))) mo_none (mo_some (me_var 1 (hv := Or.inl (by kernel_rfl))))) (me_tup (ma_cons (me_var 2 (hv := Or.inl (by kernel_rfl))) ma_nil))) (me_slice (me_var 0 (hv := Or.inl (by kernel_rfl))) (mo_some (me_add (me_var 1 (hv := Or.inl (by kernel_rfl))) me_int)) mo_none)))))
theorem sc_done_row : FnScope ["op", "values", "inside"] ["op", "values"] (defScope s_done_row) := ⟨by kernel_rfl, by kernel_rfl, by kernel_rfl, by decide +kernel, by kernel_rfl, by decide +kernel, by decide +kernel⟩
set_option maxHeartbeats 4000000 in
theorem ok_done_row (T : Txt w K mg A) (n : Nat) : FnOk P w K mg base (L2.CX P w) 2 A.a_done_row A.d_done_row ["op", "values"] (spM K (F_done_row n) 2) :=
  def_okF ["op", "values", "inside"] ["op", "values"] (b_done_row n) (k := 1) (kk := 3) (nn := 2) (g := F_done_row n) (by kernel_rfl) (by kernel_rfl) (by kernel_rfl) T.f_done_row sc_done_row fun cdv Ar outer s H E hr => by
  have hu := hu_of hr
  have tk : Takes (cxOf (L2.CX P w) P w K mg base ["op", "values", "inside"] "done_row" (defScope s_done_row) A.a_done_row cdv Ar outer s H E) (fun c d _ H => E c d H) := takes_of rfl rfl rfl rfl
  exact (mss_cons (ms_if (mt_eq hr.units (me_var 0 (hv := Or.inl (by kernel_rfl))) (me_str [97, 116] (by decide +kernel))) (mss_cons (ms_s (i := 2) (hx := Or.inl (by kernel_rfl)) (hf := Or.inr (by kernel_rfl)) sc_done_row.nd (me_chain op_le (t_cmpI _) op_lt (t_cmpI _) me_int (me_sub_ix hu (me_var 1 (hv := Or.inl (by kernel_rfl))) me_int (fun _ _ => by kernel_rfl)) (me_len (gl_of (by kernel_rfl)) T.z_len (ma_cons (me_sub_ix hu (me_var 1 (hv := Or.inl (by kernel_rfl))) me_int (fun _ _ => by kernel_rfl)) ma_nil))))
  (mss_one (ms_ret (me_ifExp (mt_val (me_var 2 (hv := Or.inl (by kernel_rfl)))) (me_sub_ix hu (me_sub_ix hu (me_var 1 (hv := Or.inl (by kernel_rfl))) me_int (fun _ _ => by kernel_rfl)) (me_sub_ix hu (me_var 1 (hv := Or.inl (by kernel_rfl))) me_int (fun _ _ => by kernel_rfl)) (fun _ _ => by kernel_rfl)) me_int)))) mss_nil)
  (mss_cons (ms_if (mt_eq hr.units (me_var 0 (hv := Or.inl (by kernel_rfl))) (me_str [115, 105, 122, 101] (by decide +kernel))) (mss_one (ms_ret (me_len (gl_of (by kernel_rfl)) T.z_len (ma_cons (me_sub_ix hu (me_var 1 (hv := Or.inl (by kernel_rfl))) me_int (fun _ _ => by kernel_rfl)) ma_nil)))) mss_nil)
  (mss_cons (ms_if (mt_eq hr.units (me_var 0 (hv := Or.inl (by kernel_rfl))) (me_str [112, 117, 116] (by decide +kernel))) (mss_one (ms_ret (me_call (ok_put_at T n) (hr.mono (by decide)) (gl_of (by kernel_rfl)) T.m_put_at T.f_put_at.kp T.b_put_at tk (ma_cons (me_sub_ix hu (me_var 1 (hv := Or.inl (by kernel_rfl))) me_int (fun _ _ => by kernel_rfl)) (ma_cons (me_sub_ix hu (me_var 1 (hv := Or.inl (by kernel_rfl))) me_int (fun _ _ => by kernel_rfl)) (ma_cons (me_sub_ix hu (me_var 1 (hv := Or.inl (by kernel_rfl))) me_int (fun _ _ => by kernel_rfl)) ma_nil))) (aLen_cons (aLen_cons (aLen_cons aLen_nil)))))) mss_nil)
  (mss_cons (ms_if (mt_eq hr.units (me_var 0 (hv := Or.inl (by kernel_rfl))) (me_str [109, 97, 110, 121] (by decide +kernel))) (mss_one (ms_ret (me_mul (me_tup (ma_cons (me_sub_ix hu (me_var 1 (hv := Or.inl (by kernel_rfl))) me_int (fun _ _ => by kernel_rfl)) ma_nil)) (me_max2 rfl (gl_of (by kernel_rfl)) T.z_max (ma_cons me_int (ma_cons (me_min2 rfl (gl_of (by kernel_rfl)) T.z_min (ma_cons (me_globI' (gl_of (by kernel_rfl)) T.c_LONGEST) (ma_cons (me_sub_ix hu (me_var 1 (hv := Or.inl (by kernel_rfl))) me_int (fun _ _ => by kernel_rfl)) ma_nil))) ma_nil)))))) mss_nil)
  (mss_one (ms_ret (me_tupleOf (gl_of (by kernel_rfl)) T.z_tuple (ma_cons (me_var 1 (hv := Or.inl (by kernel_rfl))) ma_nil))))))))
theorem sc_done : FnScope ["op", "values"] ["op", "values"] (defScope s_done) := ⟨by kernel_rfl, by kernel_rfl, by kernel_rfl, by decide +kernel, by kernel_rfl, by decide +kernel, by decide +kernel⟩
set_option maxHeartbeats 4000000 in
theorem ok_done (T : Txt w K mg A) (n : Nat) : FnOk P w K mg base (L2.CX P w) 4 A.a_done A.d_done ["op", "values"] (spM K (F_done n) 2) :=
  def_okF ["op", "values"] ["op", "values"] (b_done n) (k := 3) (kk := 2) (nn := 2) (g := F_done n) (by kernel_rfl) (by kernel_rfl) (by kernel_rfl) T.f_done sc_done fun cdv Ar outer s H E hr => by
  have hu := hu_of hr
  have tk : Takes (cxOf (L2.CX P w) P w K mg base ["op", "values"] "done" (defScope s_done) A.a_done cdv Ar outer s H E) (fun c d _ H => E c d H) := takes_of rfl rfl rfl rfl
  exact (mss_cons (ms_if (mt_of (mw_or (mt_eq hr.units (me_var 0 (hv := Or.inl (by kernel_rfl))) (me_str [99, 111, 112, 121] (by decide +kernel))) (mw_or1 (mt_eq hr.units (me_var 0 (hv := Or.inl (by kernel_rfl))) (me_str [107, 101, 101, 112] (by decide +kernel)))))) (mss_one (ms_ret (me_sub_ix hu (me_var 1 (hv := Or.inl (by kernel_rfl))) me_int (fun _ _ => by kernel_rfl)))) mss_nil)
  (mss_cons (ms_if (mt_eq hr.units (me_var 0 (hv := Or.inl (by kernel_rfl))) (me_str [112, 105, 99, 107] (by decide +kernel))) (mss_one (ms_ret (me_ifExp (mt_ne hr.units (me_sub_ix hu (me_var 1 (hv := Or.inl (by kernel_rfl))) me_int (fun _ _ => by kernel_rfl)) me_int) (me_sub_ix hu (me_var 1 (hv := Or.inl (by kernel_rfl))) me_int (fun _ _ => by kernel_rfl)) (me_sub_ix hu (me_var 1 (hv := Or.inl (by kernel_rfl))) me_int (fun _ _ => by kernel_rfl))))) mss_nil)
  (mss_cons (ms_if (mt_in hu (me_var 0 (hv := Or.inl (by kernel_rfl))) (me_tup (ma_cons (me_str [97, 116] (by decide +kernel)) (ma_cons (me_str [115, 105, 122, 101] (by decide +kernel)) (ma_cons (me_str [112, 117, 116] (by decide +kernel)) (ma_cons (me_str [109, 97, 110, 121] (by decide +kernel)) (ma_cons (me_str [109, 97, 107, 101] (by decide +kernel)) ma_nil)))))) (by kernel_rfl)) (mss_one (ms_ret (me_call (ok_done_row T n) (hr.mono (by decide)) (gl_of (by kernel_rfl)) T.m_done_row T.f_done_row.kp T.b_done_row tk (ma_cons (me_var 0 (hv := Or.inl (by kernel_rfl))) (ma_cons (me_var 1 (hv := Or.inl (by kernel_rfl))) ma_nil)) (aLen_cons (aLen_cons aLen_nil))))) mss_nil)
  (mss_one (ms_ret (me_call (ok_done_sum T n) (hr.mono (by decide)) (gl_of (by kernel_rfl)) T.m_done_sum T.f_done_sum.kp T.b_done_sum tk (ma_cons (me_var 0 (hv := Or.inl (by kernel_rfl))) (ma_cons (me_sub_ix hu (me_var 1 (hv := Or.inl (by kernel_rfl))) me_int (fun _ _ => by kernel_rfl)) (ma_cons (me_sub_ix hu (me_var 1 (hv := Or.inl (by kernel_rfl))) me_int (fun _ _ => by kernel_rfl)) ma_nil))) (aLen_cons (aLen_cons (aLen_cons aLen_nil)))))))))
theorem sc_found_in : FnScope ["pairs", "name", "one"] ["pairs", "name"] (defScope s_found_in) := ⟨by kernel_rfl, by kernel_rfl, by kernel_rfl, by decide +kernel, by kernel_rfl, by decide +kernel, by decide +kernel⟩
set_option maxHeartbeats 4000000 in
theorem ok_found_in (T : Txt w K mg A) (n : Nat) : FnOk P w K mg base (L2.CX P w) 1 A.a_found_in A.d_found_in ["pairs", "name"] (spM K (F_found_in n) 2) :=
  def_okF ["pairs", "name", "one"] ["pairs", "name"] (b_found_in n) (k := 0) (kk := 3) (nn := 2) (g := F_found_in n) (by kernel_rfl) (by kernel_rfl) (by kernel_rfl) T.f_found_in sc_found_in fun cdv Ar outer s H E hr => by
  have hu := hu_of hr
  have tk : Takes (cxOf (L2.CX P w) P w K mg base ["pairs", "name", "one"] "found_in" (defScope s_found_in) A.a_found_in cdv Ar outer s H E) (fun c d _ H => E c d H) := takes_of rfl rfl rfl rfl
  exact (mss_cons (ms_for (passes_of rfl) rfl (mi_seq (me_var 0 (hv := Or.inl (by kernel_rfl)))) (mg_n (i := 2) (hx := Or.inl (by kernel_rfl)) (hf := Or.inr (by kernel_rfl)) sc_found_in.nd) (mss_one (ms_if (mt_eq hr.units (me_sub_ix hu (me_var 2 (hv := Or.inl (by kernel_rfl))) me_int (fun _ _ => by kernel_rfl)) (me_var 1 (hv := Or.inl (by kernel_rfl)))) (mss_one (ms_ret (me_sub_ix hu (me_var 2 (hv := Or.inl (by kernel_rfl))) me_int (fun _ _ => by kernel_rfl)))) mss_nil)))
  (mss_one (ms_ret me_non)))
theorem sc_path_kind : FnScope ["tree", "known", "path", "kind", "name", "fields"] ["tree", "known", "path"] (defScope s_path_kind) := ⟨by kernel_rfl, by kernel_rfl, by kernel_rfl, by decide +kernel, by kernel_rfl, by decide +kernel, by decide +kernel⟩
set_option maxHeartbeats 4000000 in
theorem ok_path_kind (T : Txt w K mg A) (n : Nat) : FnOk P w K mg base (L2.CX P w) 2 A.a_path_kind A.d_path_kind ["tree", "known", "path"] (spM K (F_path_kind n) 3) :=
  def_okF ["tree", "known", "path", "kind", "name", "fields"] ["tree", "known", "path"] (b_path_kind n) (k := 1) (kk := 6) (nn := 3) (g := F_path_kind n) (by kernel_rfl) (by kernel_rfl) (by kernel_rfl) T.f_path_kind sc_path_kind fun cdv Ar outer s H E hr => by
  have hu := hu_of hr
  have tk : Takes (cxOf (L2.CX P w) P w K mg base ["tree", "known", "path", "kind", "name", "fields"] "path_kind" (defScope s_path_kind) A.a_path_kind cdv Ar outer s H E) (fun c d _ H => E c d H) := takes_of rfl rfl rfl rfl
  exact (mss_cons (ms_s (i := 3) (hx := Or.inl (by kernel_rfl)) (hf := Or.inr (by kernel_rfl)) sc_path_kind.nd (me_get1 hu (me_var 1 (hv := Or.inl (by kernel_rfl))) (me_sub_ix hu (me_var 2 (hv := Or.inl (by kernel_rfl))) me_int (fun _ _ => by kernel_rfl))))
  (mss_cons (ms_for (passes_of rfl) rfl (mi_seq (me_slice (me_var 2 (hv := Or.inl (by kernel_rfl))) (mo_some me_int) mo_none)) (mg_n (i := 4) (hx := Or.inl (by kernel_rfl)) (hf := Or.inr (by kernel_rfl)) sc_path_kind.nd) (mss_cons (ms_s (i := 5) (hx := Or.inl (by kernel_rfl)) (hf := Or.inr (by kernel_rfl)) sc_path_kind.nd (me_call (ok_found_in T n) (hr.mono (by decide)) (gl_of (by kernel_rfl)) T.m_found_in T.f_found_in.kp T.b_found_in tk (ma_cons (me_sub_ix hu (me_var 0 (hv := Or.inl (by kernel_rfl))) me_int (fun _ _ => by kernel_rfl)) (ma_cons (me_var 3 (hv := Or.inl (by kernel_rfl))) ma_nil)) (aLen_cons (aLen_cons aLen_nil))))
  (mss_one (ms_s (i := 3) (hx := Or.inl (by kernel_rfl)) (hf := Or.inr (by kernel_rfl)) sc_path_kind.nd (me_ifExp (mt_is (me_var 5 (hv := Or.inl (by kernel_rfl))) me_non) me_non (me_call (ok_found_in T n) (hr.mono (by decide)) (gl_of (by kernel_rfl)) T.m_found_in T.f_found_in.kp T.b_found_in tk (ma_cons (me_var 5 (hv := Or.inl (by kernel_rfl))) (ma_cons (me_var 4 (hv := Or.inl (by kernel_rfl))) ma_nil)) (aLen_cons (aLen_cons aLen_nil))))))))
  (mss_one (ms_ret (me_var 3 (hv := Or.inl (by kernel_rfl)))))))
theorem sc_kind_of_expr : FnScope ["tree", "known", "e", "kinds"] ["tree", "known", "e"] (defScope s_kind_of_expr) := ⟨by kernel_rfl, by kernel_rfl, by kernel_rfl, by decide +kernel, by kernel_rfl, by decide +kernel, by decide +kernel⟩
set_option maxHeartbeats 4000000 in
theorem ok_kind_of_expr (T : Txt w K mg A) (n : Nat) : FnOk P w K mg base (L2.CX P w) 3 A.a_kind_of_expr A.d_kind_of_expr ["tree", "known", "e"] (spM K (F_kind_of_expr n) 3) :=
  def_okF ["tree", "known", "e", "kinds"] ["tree", "known", "e"] (b_kind_of_expr n) (k := 2) (kk := 4) (nn := 3) (g := F_kind_of_expr n) (by kernel_rfl) (by kernel_rfl) (by kernel_rfl) T.f_kind_of_expr sc_kind_of_expr fun cdv Ar outer s H E hr => by
  have hu := hu_of hr
  have tk : Takes (cxOf (L2.CX P w) P w K mg base ["tree", "known", "e", "kinds"] "kind_of_expr" (defScope s_kind_of_expr) A.a_kind_of_expr cdv Ar outer s H E) (fun c d _ H => E c d H) := takes_of rfl rfl rfl rfl
  exact (mss_cons (ms_if (mt_val (me_isinst (gl_of (by kernel_rfl)) T.z_isinstance (ma_cons (me_var 2 (hv := Or.inl (by kernel_rfl))) (ma_cons (me_ty (gl_of (by kernel_rfl)) T.z_int (by decide +kernel)) ma_nil)))) (mss_one (ms_ret (me_str [110, 117, 109] (by decide +kernel)))) mss_nil)
  (mss_cons (ms_if (mt_eq hr.units (me_sub_ix hu (me_var 2 (hv := Or.inl (by kernel_rfl))) me_int (fun _ _ => by kernel_rfl)) (me_str [111, 102] (by decide +kernel))) (mss_one (ms_ret (me_call (ok_path_kind T n) (hr.mono (by decide)) (gl_of (by kernel_rfl)) T.m_path_kind T.f_path_kind.kp T.b_path_kind tk (ma_cons (me_var 0 (hv := Or.inl (by kernel_rfl))) (ma_cons (me_var 1 (hv := Or.inl (by kernel_rfl))) (ma_cons (me_sub_ix hu (me_var 2 (hv := Or.inl (by kernel_rfl))) me_int (fun _ _ => by kernel_rfl)) ma_nil))) (aLen_cons (aLen_cons (aLen_cons aLen_nil)))))) mss_nil)
  (mss_cons (ms_if (mt_eq hr.units (me_sub_ix hu (me_var 2 (hv := Or.inl (by kernel_rfl))) me_int (fun _ _ => by kernel_rfl)) (me_str [99, 97, 108, 108] (by decide +kernel))) (mss_one (ms_ret (me_call (ok_found_in T n) (hr.mono (by decide)) (gl_of (by kernel_rfl)) T.m_found_in T.f_found_in.kp T.b_found_in tk (ma_cons (me_sub_ix hu (me_var 0 (hv := Or.inl (by kernel_rfl))) me_int (fun _ _ => by kernel_rfl)) (ma_cons (me_sub_ix hu (me_var 2 (hv := Or.inl (by kernel_rfl))) me_int (fun _ _ => by kernel_rfl)) ma_nil)) (aLen_cons (aLen_cons aLen_nil))))) mss_nil)
  (mss_cons (ms_if (mt_eq hr.units (me_sub_ix hu (me_var 2 (hv := Or.inl (by kernel_rfl))) me_int (fun _ _ => by kernel_rfl)) (me_str [110, 101, 119] (by decide +kernel))) (mss_one (ms_ret (me_sub_ix hu (me_var 2 (hv := Or.inl (by kernel_rfl))) me_int (fun _ _ => by kernel_rfl)))) mss_nil)
  (mss_cons (ms_s (i := 3) (hx := Or.inl (by kernel_rfl)) (hf := Or.inr (by kernel_rfl)) sc_kind_of_expr.nd (me_call (ok_kinds_of T n) (hr.mono (by decide)) (gl_of (by kernel_rfl)) T.m_kinds_of T.f_kinds_of.kp T.b_kinds_of tk (ma_cons (me_sub_ix hu (me_var 2 (hv := Or.inl (by kernel_rfl))) me_int (fun _ _ => by kernel_rfl)) ma_nil) (aLen_cons aLen_nil)))
  (mss_one (ms_ret (me_ifExp (mt_is (me_var 3 (hv := Or.inl (by kernel_rfl))) me_non) (me_str [110, 117, 109] (by decide +kernel)) (me_ixTab T.c_KIND_OF (me_sub_ix hu (me_var 3 (hv := Or.inl (by kernel_rfl))) me_int (fun _ _ => by kernel_rfl)) (fun _ _ => by kernel_rfl))))))))))
theorem sc_fault_of : FnScope ["op", "values"] ["op", "values"] (defScope s_fault_of) := ⟨by kernel_rfl, by kernel_rfl, by kernel_rfl, by decide +kernel, by kernel_rfl, by decide +kernel, by decide +kernel⟩
set_option maxHeartbeats 4000000 in
theorem ok_fault_of (T : Txt w K mg A) (n : Nat) : FnOk P w K mg base (L2.CX P w) 1 A.a_fault_of A.d_fault_of ["op", "values"] (spM K (F_fault_of n) 2) :=
  def_okF ["op", "values"] ["op", "values"] (b_fault_of n) (k := 0) (kk := 2) (nn := 2) (g := F_fault_of n) (by kernel_rfl) (by kernel_rfl) (by kernel_rfl) T.f_fault_of sc_fault_of fun cdv Ar outer s H E hr => by
  have hu := hu_of hr
  have tk : Takes (cxOf (L2.CX P w) P w K mg base ["op", "values"] "fault_of" (defScope s_fault_of) A.a_fault_of cdv Ar outer s H E) (fun c d _ H => E c d H) := takes_of rfl rfl rfl rfl
  exact (mss_cons (ms_if (mt_of (mw_and (mt_in hu (me_var 0 (hv := Or.inl (by kernel_rfl))) (me_tup (ma_cons (me_str [100, 105, 118] (by decide +kernel)) (ma_cons (me_str [114, 101, 115, 116] (by decide +kernel)) ma_nil))) (by kernel_rfl)) (mw_and1 (mt_eq hr.units (me_sub_ix hu (me_var 1 (hv := Or.inl (by kernel_rfl))) me_int (fun _ _ => by kernel_rfl)) me_int)))) (mss_one (ms_ret (me_str [110, 111, 117, 103, 104, 116] (by decide +kernel)))) mss_nil)
  (mss_cons (ms_if (mt_of (mw_and (mt_in hu (me_var 0 (hv := Or.inl (by kernel_rfl))) (me_tup (ma_cons (me_str [97, 116] (by decide +kernel)) (ma_cons (me_str [112, 117, 116] (by decide +kernel)) ma_nil))) (by kernel_rfl)) (mw_and1 (mt_not (mt_chain op_le (t_cmpI _) op_lt (t_cmpI _) me_int (me_sub_ix hu (me_var 1 (hv := Or.inl (by kernel_rfl))) me_int (fun _ _ => by kernel_rfl)) (me_len (gl_of (by kernel_rfl)) T.z_len (ma_cons (me_sub_ix hu (me_var 1 (hv := Or.inl (by kernel_rfl))) me_int (fun _ _ => by kernel_rfl)) ma_nil))))))) (mss_one (ms_ret (me_str [114, 97, 110, 103, 101] (by decide +kernel)))) mss_nil)
  (mss_cons (ms_if (mt_of (mw_and (mt_eq hr.units (me_var 0 (hv := Or.inl (by kernel_rfl))) (me_str [109, 97, 110, 121] (by decide +kernel))) (mw_and1 (mt_not (mt_chain op_le (t_cmpI _) op_le (t_cmpI _) me_int (me_sub_ix hu (me_var 1 (hv := Or.inl (by kernel_rfl))) me_int (fun _ _ => by kernel_rfl)) me_int))))) (mss_one (ms_ret (me_str [108, 111, 110, 103] (by decide +kernel)))) mss_nil)
  (mss_one (ms_ret me_non)))))
theorem sc_fields_of : FnScope ["tree", "kind", "name", "fields"] ["tree", "kind"] (defScope s_fields_of) := ⟨by kernel_rfl, by kernel_rfl, by kernel_rfl, by decide +kernel, by kernel_rfl, by decide +kernel, by decide +kernel⟩
set_option maxHeartbeats 4000000 in
theorem ok_fields_of (T : Txt w K mg A) (n : Nat) : FnOk P w K mg base (L2.CX P w) 1 A.a_fields_of A.d_fields_of ["tree", "kind"] (spM K (F_fields_of n) 2) :=
  def_okF ["tree", "kind", "name", "fields"] ["tree", "kind"] (b_fields_of n) (k := 0) (kk := 4) (nn := 2) (g := F_fields_of n) (by kernel_rfl) (by kernel_rfl) (by kernel_rfl) T.f_fields_of sc_fields_of fun cdv Ar outer s H E hr => by
  have hu := hu_of hr
  have tk : Takes (cxOf (L2.CX P w) P w K mg base ["tree", "kind", "name", "fields"] "fields_of" (defScope s_fields_of) A.a_fields_of cdv Ar outer s H E) (fun c d _ H => E c d H) := takes_of rfl rfl rfl rfl
  exact (mss_cons (ms_for (passes_of rfl) rfl (mi_seq (me_sub_ix hu (me_var 0 (hv := Or.inl (by kernel_rfl))) me_int (fun _ _ => by kernel_rfl))) (mg_tup rfl (mgs_cons (mg_n (i := 2) (hx := Or.inl (by kernel_rfl)) (hf := Or.inr (by kernel_rfl)) sc_fields_of.nd) (mgs_cons (mg_n (i := 3) (hx := Or.inl (by kernel_rfl)) (hf := Or.inr (by kernel_rfl)) sc_fields_of.nd) mgs_nil))) (mss_one (ms_if (mt_eq hr.units (me_var 2 (hv := Or.inl (by kernel_rfl))) (me_var 1 (hv := Or.inl (by kernel_rfl)))) (mss_one (ms_ret (me_var 3 (hv := Or.inl (by kernel_rfl))))) mss_nil)))
  (mss_one (ms_ret (me_tup ma_nil))))
theorem sc_places_of : FnScope ["tree", "known", "path", "kind", "found", "name", "fields", "at", "one"] ["tree", "known", "path"] (defScope s_places_of) := ⟨by kernel_rfl, by kernel_rfl, by kernel_rfl, by decide +kernel, by kernel_rfl, by decide +kernel, by decide +kernel⟩
set_option maxHeartbeats 4000000 in
theorem ok_places_of (T : Txt w K mg A) (n : Nat) : FnOk P w K mg base (L2.CX P w) 2 A.a_places_of A.d_places_of ["tree", "known", "path"] (spM K (F_places_of n) 3) :=
  def_okF ["tree", "known", "path", "kind", "found", "name", "fields", "at", "one"] ["tree", "known", "path"] (b_places_of n) (k := 1) (kk := 9) (nn := 3) (g := F_places_of n) (by kernel_rfl) (by kernel_rfl) (by kernel_rfl) T.f_places_of sc_places_of fun cdv Ar outer s H E hr => by
  have hu := hu_of hr
  have tk : Takes (cxOf (L2.CX P w) P w K mg base ["tree", "known", "path", "kind", "found", "name", "fields", "at", "one"] "places_of" (defScope s_places_of) A.a_places_of cdv Ar outer s H E) (fun c d _ H => E c d H) := takes_of rfl rfl rfl rfl
  exact (mss_cons (ms_s (i := 3) (hx := Or.inl (by kernel_rfl)) (hf := Or.inr (by kernel_rfl)) sc_places_of.nd (me_sub_ix hu (me_var 1 (hv := Or.inl (by kernel_rfl))) (me_sub_ix hu (me_var 2 (hv := Or.inl (by kernel_rfl))) me_int (fun _ _ => by kernel_rfl)) (fun _ _ => by kernel_rfl)))
  (mss_cons (ms_s (i := 4) (hx := Or.inl (by kernel_rfl)) (hf := Or.inr (by kernel_rfl)) sc_places_of.nd (me_lstN ma_nil))
  (mss_cons (ms_for (passes_of rfl) rfl (mi_seq (me_slice (me_var 2 (hv := Or.inl (by kernel_rfl))) (mo_some me_int) mo_none)) (mg_n (i := 5) (hx := Or.inl (by kernel_rfl)) (hf := Or.inr (by kernel_rfl)) sc_places_of.nd) (mss_cons (ms_s (i := 6) (hx := Or.inl (by kernel_rfl)) (hf := Or.inr (by kernel_rfl)) sc_places_of.nd (me_call (ok_fields_of T n) (hr.mono (by decide)) (gl_of (by kernel_rfl)) T.m_fields_of T.f_fields_of.kp T.b_fields_of tk (ma_cons (me_var 0 (hv := Or.inl (by kernel_rfl))) (ma_cons (me_var 3 (hv := Or.inl (by kernel_rfl))) ma_nil)) (aLen_cons (aLen_cons aLen_nil))))
  (mss_cons (ms_s (i := 7) (hx := Or.inl (by kernel_rfl)) (hf := Or.inr (by kernel_rfl)) sc_places_of.nd (me_indexL (me_lc (own := [("one", 8)]) rfl sc_places_of.nd (mi_seq (me_var 6 (hv := Or.inl (by kernel_rfl)))) (blkOk_by (by kernel_rfl)) (tgo_name (by decide)) lcV_end (fun _ _ _ _ _ => (pg_n (i := 8) (hx := Or.inl (by kernel_rfl)) (hf := Or.inr (by kernel_rfl)) sc_places_of.nd)) (fun _ _ _ _ _ => mts_nil) (fun _ _ _ _ _ => (me_sub_ix hu (me_var 8 (hv := Or.inl (by kernel_rfl))) me_int (fun _ _ => by kernel_rfl)))) (ma_cons (me_var 5 (hv := Or.inl (by kernel_rfl))) ma_nil)))
  (mss_cons (ms_expr (me_append (me_var 4 (hv := Or.inl (by kernel_rfl))) (ma_cons (me_var 7 (hv := Or.inl (by kernel_rfl))) ma_nil)))
  (mss_one (ms_s (i := 3) (hx := Or.inl (by kernel_rfl)) (hf := Or.inr (by kernel_rfl)) sc_places_of.nd (me_sub_ix hu (me_sub_ix hu (me_var 6 (hv := Or.inl (by kernel_rfl))) (me_var 7 (hv := Or.inl (by kernel_rfl))) (fun _ _ => by kernel_rfl)) me_int (fun _ _ => by kernel_rfl))))))))
  (mss_one (ms_ret (me_tupleOf (gl_of (by kernel_rfl)) T.z_tuple (ma_cons (me_var 4 (hv := Or.inl (by kernel_rfl))) ma_nil)))))))
theorem sc_value_at : FnScope ["value", "places", "at"] ["value", "places"] (defScope s_value_at) := ⟨by kernel_rfl, by kernel_rfl, by kernel_rfl, by decide +kernel, by kernel_rfl, by decide +kernel, by decide +kernel⟩
set_option maxHeartbeats 4000000 in
theorem ok_value_at (T : Txt w K mg A) (n : Nat) : FnOk P w K mg base (L2.CX P w) 1 A.a_value_at A.d_value_at ["value", "places"] (spM K (F_value_at n) 2) :=
  def_okF ["value", "places", "at"] ["value", "places"] (b_value_at n) (k := 0) (kk := 3) (nn := 2) (g := F_value_at n) (by kernel_rfl) (by kernel_rfl) (by kernel_rfl) T.f_value_at sc_value_at fun cdv Ar outer s H E hr => by
  have hu := hu_of hr
  have tk : Takes (cxOf (L2.CX P w) P w K mg base ["value", "places", "at"] "value_at" (defScope s_value_at) A.a_value_at cdv Ar outer s H E) (fun c d _ H => E c d H) := takes_of rfl rfl rfl rfl
  exact (mss_cons (ms_for (passes_of rfl) rfl (mi_seq (me_var 1 (hv := Or.inl (by kernel_rfl)))) (mg_n (i := 2) (hx := Or.inl (by kernel_rfl)) (hf := Or.inr (by kernel_rfl)) sc_value_at.nd) (mss_one (ms_s (i := 0) (hx := Or.inl (by kernel_rfl)) (hf := Or.inr (by kernel_rfl)) sc_value_at.nd (me_sub_ix hu (me_var 0 (hv := Or.inl (by kernel_rfl))) (me_var 2 (hv := Or.inl (by kernel_rfl))) (fun _ _ => by kernel_rfl)))))
  (mss_one (ms_ret (me_var 0 (hv := Or.inl (by kernel_rfl))))))
theorem sc_with_field : FnScope ["value", "places", "fresh", "at"] ["value", "places", "fresh"] (defScope s_with_field) := ⟨by kernel_rfl, by kernel_rfl, by kernel_rfl, by decide +kernel, by kernel_rfl, by decide +kernel, by decide +kernel⟩
set_option maxHeartbeats 4000000 in
theorem st_with_field (T : Txt w K mg A) (n d : Nat) (rc_with_field : FnOk P w K mg base (L2.CX P w) (0 + d) A.a_with_field A.d_with_field ["value", "places", "fresh"] (spM K (F_with_field n d) 3)) : FnOk P w K mg base (L2.CX P w) (0 + (d + 1)) A.a_with_field A.d_with_field ["value", "places", "fresh"] (spM K (F_with_field n (d + 1)) 3) :=
  def_okF ["value", "places", "fresh", "at"] ["value", "places", "fresh"] (b_with_field n (F_with_field n d)) (k := 0 + d) (kk := 4) (nn := 3) (g := F_with_field n (d + 1)) (by first | rfl | rw [F_with_field]) (by kernel_rfl) (by kernel_rfl) T.f_with_field sc_with_field fun cdv Ar outer s H E hr => by
  have hu := hu_of hr
  have tk : Takes (cxOf (L2.CX P w) P w K mg base ["value", "places", "fresh", "at"] "with_field" (defScope s_with_field) A.a_with_field cdv Ar outer s H E) (fun c d _ H => E c d H) := takes_of rfl rfl rfl rfl
  exact (mss_cons (ms_if (mt_eq hr.units (me_var 1 (hv := Or.inl (by kernel_rfl))) (me_tup ma_nil)) (mss_one (ms_ret (me_var 2 (hv := Or.inl (by kernel_rfl))))) mss_nil)
  (mss_cons (ms_s (i := 3) (hx := Or.inl (by kernel_rfl)) (hf := Or.inr (by kernel_rfl)) sc_with_field.nd (me_sub_ix hu (me_var 1 (hv := Or.inl (by kernel_rfl))) me_int (fun _ _ => by kernel_rfl)))
  (mss_one (ms_ret (me_add (me_add (me_slice (me_var 0 (hv := Or.inl (by kernel_rfl))) mo_none (mo_some (me_var 3 (hv := Or.inl (by kernel_rfl))))) (me_tup (ma_cons (me_call (rc_with_field) (hr.mono (by omega)) (gl_of (by kernel_rfl)) T.m_with_field T.f_with_field.kp T.b_with_field tk (ma_cons (me_sub_ix hu (me_var 0 (hv := Or.inl (by kernel_rfl))) (me_var 3 (hv := Or.inl (by kernel_rfl))) (fun _ _ => by kernel_rfl)) (ma_cons (me_slice (me_var 1 (hv := Or.inl (by kernel_rfl))) (mo_some me_int) mo_none) (ma_cons (me_var 2 (hv := Or.inl (by kernel_rfl))) ma_nil))) (aLen_cons (aLen_cons (aLen_cons aLen_nil)))) ma_nil))) (me_slice (me_var 0 (hv := Or.inl (by kernel_rfl))) (mo_some (me_add (me_var 3 (hv := Or.inl (by kernel_rfl))) me_int)) mo_none))))))
theorem all_with_field (T : Txt w K mg A) (n : Nat) : ∀ d : Nat, FnOk P w K mg base (L2.CX P w) (0 + d) A.a_with_field A.d_with_field ["value", "places", "fresh"] (spM K (F_with_field n d) 3)
  | 0 => (by first | exact fnOk_no | (rw [F_with_field]; exact fnOk_no))
  | d + 1 => st_with_field T n d (all_with_field T n d)
theorem ok_with_field (T : Txt w K mg A) (n d : Nat) : FnOk P w K mg base (L2.CX P w) (0 + d) A.a_with_field A.d_with_field ["value", "places", "fresh"] (spM K (F_with_field n d) 3) := (all_with_field T n d)
theorem sc_Steps____init__ : FnScope ["self", "tree", "params", "name", "kind"] ["self", "tree", "params"] (defScope s_Steps____init__) := ⟨by kernel_rfl, by kernel_rfl, by kernel_rfl, by decide +kernel, by kernel_rfl, by decide +kernel, by decide +kernel⟩
set_option maxHeartbeats 4000000 in
theorem ok_Steps____init__ (T : Txt w K mg A) (n : Nat) : FnOk P w K mg base (L2.CX P w) 1 A.a_Steps____init__ A.d_Steps____init__ ["self", "tree", "params"] (spM K (F_Steps____init__ n) 3) :=
  def_okF ["self", "tree", "params", "name", "kind"] ["self", "tree", "params"] (b_Steps____init__ n) (k := 0) (kk := 5) (nn := 3) (g := F_Steps____init__ n) (by kernel_rfl) (by kernel_rfl) (by kernel_rfl) T.f_Steps____init__ sc_Steps____init__ fun cdv Ar outer s H E hr => by
  have hu := hu_of hr
  have tk : Takes (cxOf (L2.CX P w) P w K mg base ["self", "tree", "params", "name", "kind"] "Steps.__init__" (defScope s_Steps____init__) A.a_Steps____init__ cdv Ar outer s H E) (fun c d _ H => E c d H) := takes_of rfl rfl rfl rfl
  exact (mss_cons (ms_attr (f := "own_tree") (attr_ok1 T.ci_Steps T.cl_Steps T.na_Steps_own_tree) (me_var 0 (hv := Or.inl (by kernel_rfl))) (me_var 1 (hv := Or.inl (by kernel_rfl))))
  (mss_cons (ms_attr (f := "seen") (attr_ok1 T.ci_Steps T.cl_Steps T.na_Steps_seen) (me_var 0 (hv := Or.inl (by kernel_rfl))) me_dict0)
  (mss_cons (ms_for (passes_of rfl) rfl (mi_seq (me_var 2 (hv := Or.inl (by kernel_rfl)))) (mg_tup rfl (mgs_cons (mg_n (i := 3) (hx := Or.inl (by kernel_rfl)) (hf := Or.inr (by kernel_rfl)) sc_Steps____init__.nd) (mgs_cons (mg_n (i := 4) (hx := Or.inl (by kernel_rfl)) (hf := Or.inr (by kernel_rfl)) sc_Steps____init__.nd) mgs_nil))) (mss_one (ms_asg (me_var 4 (hv := Or.inl (by kernel_rfl))) (mg_sub hu (me_attr (f := "seen") (attr_ok1 T.ci_Steps T.cl_Steps T.na_Steps_seen) (me_var 0 (hv := Or.inl (by kernel_rfl)))) (me_var 3 (hv := Or.inl (by kernel_rfl)))))))
  (mss_one (ms_attr (f := "laid_steps") (attr_ok1 T.ci_Steps T.cl_Steps T.na_Steps_laid_steps) (me_var 0 (hv := Or.inl (by kernel_rfl))) (me_lstN ma_nil))))))
theorem sc_Steps__lay : FnScope ["self", "step"] ["self", "step"] (defScope s_Steps__lay) := ⟨by kernel_rfl, by kernel_rfl, by kernel_rfl, by decide +kernel, by kernel_rfl, by decide +kernel, by decide +kernel⟩
set_option maxHeartbeats 4000000 in
theorem ok_Steps__lay (T : Txt w K mg A) (n : Nat) : FnOk P w K mg base (L2.CX P w) 1 A.a_Steps__lay A.d_Steps__lay ["self", "step"] (spM K (F_Steps__lay n) 2) :=
  def_okF ["self", "step"] ["self", "step"] (b_Steps__lay n) (k := 0) (kk := 2) (nn := 2) (g := F_Steps__lay n) (by kernel_rfl) (by kernel_rfl) (by kernel_rfl) T.f_Steps__lay sc_Steps__lay fun cdv Ar outer s H E hr => by
  have hu := hu_of hr
  have tk : Takes (cxOf (L2.CX P w) P w K mg base ["self", "step"] "Steps.lay" (defScope s_Steps__lay) A.a_Steps__lay cdv Ar outer s H E) (fun c d _ H => E c d H) := takes_of rfl rfl rfl rfl
  exact (mss_cons (ms_expr (me_append (me_attr (f := "laid_steps") (attr_ok1 T.ci_Steps T.cl_Steps T.na_Steps_laid_steps) (me_var 0 (hv := Or.inl (by kernel_rfl)))) (ma_cons (me_var 1 (hv := Or.inl (by kernel_rfl))) ma_nil)))
  (mss_one (ms_ret (me_sub (me_len (gl_of (by kernel_rfl)) T.z_len (ma_cons (me_attr (f := "laid_steps") (attr_ok1 T.ci_Steps T.cl_Steps T.na_Steps_laid_steps) (me_var 0 (hv := Or.inl (by kernel_rfl)))) ma_nil)) me_int))))
theorem sc_Steps__here : FnScope ["self"] ["self"] (defScope s_Steps__here) := ⟨by kernel_rfl, by kernel_rfl, by kernel_rfl, by decide +kernel, by kernel_rfl, by decide +kernel, by decide +kernel⟩
set_option maxHeartbeats 4000000 in
theorem ok_Steps__here (T : Txt w K mg A) (n : Nat) : FnOk P w K mg base (L2.CX P w) 1 A.a_Steps__here A.d_Steps__here ["self"] (spM K (F_Steps__here n) 1) :=
  def_okF ["self"] ["self"] (b_Steps__here n) (k := 0) (kk := 1) (nn := 1) (g := F_Steps__here n) (by kernel_rfl) (by kernel_rfl) (by kernel_rfl) T.f_Steps__here sc_Steps__here fun cdv Ar outer s H E hr => by
  have hu := hu_of hr
  have tk : Takes (cxOf (L2.CX P w) P w K mg base ["self"] "Steps.here" (defScope s_Steps__here) A.a_Steps__here cdv Ar outer s H E) (fun c d _ H => E c d H) := takes_of rfl rfl rfl rfl
  exact (mss_one (ms_ret (me_len (gl_of (by kernel_rfl)) T.z_len (ma_cons (me_attr (f := "laid_steps") (attr_ok1 T.ci_Steps T.cl_Steps T.na_Steps_laid_steps) (me_var 0 (hv := Or.inl (by kernel_rfl)))) ma_nil))))
theorem sc_Steps__lay_either : FnScope ["self", "expr", "at"] ["self", "expr"] (defScope s_Steps__lay_either) := ⟨by kernel_rfl, by kernel_rfl, by kernel_rfl, by decide +kernel, by kernel_rfl, by decide +kernel, by decide +kernel⟩
theorem sc_Steps__lay_expr : FnScope ["self", "expr", "inner", "one"] ["self", "expr"] (defScope s_Steps__lay_expr) := ⟨by kernel_rfl, by kernel_rfl, by kernel_rfl, by decide +kernel, by kernel_rfl, by decide +kernel, by decide +kernel⟩
set_option maxHeartbeats 4000000 in
theorem st_Steps__lay_either (T : Txt w K mg A) (n d : Nat) (rc_Steps__lay_either : FnOk P w K mg base (L2.CX P w) (2 + d) A.a_Steps__lay_either A.d_Steps__lay_either ["self", "expr"] (spM K (F_Steps__lay_either n d) 2)) (rc_Steps__lay_expr : FnOk P w K mg base (L2.CX P w) (2 + d) A.a_Steps__lay_expr A.d_Steps__lay_expr ["self", "expr"] (spM K (F_Steps__lay_expr n d) 2)) : FnOk P w K mg base (L2.CX P w) (2 + (d + 1)) A.a_Steps__lay_either A.d_Steps__lay_either ["self", "expr"] (spM K (F_Steps__lay_either n (d + 1)) 2) :=
  def_okF ["self", "expr", "at"] ["self", "expr"] (b_Steps__lay_either n (F_Steps__lay_either n d) (F_Steps__lay_expr n d)) (k := 2 + d) (kk := 3) (nn := 2) (g := F_Steps__lay_either n (d + 1)) (by first | rfl | rw [F_Steps__lay_either]) (by kernel_rfl) (by kernel_rfl) T.f_Steps__lay_either sc_Steps__lay_either fun cdv Ar outer s H E hr => by
  have hu := hu_of hr
  have tk : Takes (cxOf (L2.CX P w) P w K mg base ["self", "expr", "at"] "Steps.lay_either" (defScope s_Steps__lay_either) A.a_Steps__lay_either cdv Ar outer s H E) (fun c d _ H => E c d H) := takes_of rfl rfl rfl rfl
  exact (mss_cons (ms_expr (me_mth (c := "Steps") (m := "lay_expr") T.cl_Steps T.ci_Steps T.mt_Steps__lay_expr (rc_Steps__lay_expr) (hr.mono (by omega)) T.b_Steps__lay_expr tk (me_var 0 (hv := Or.inl (by kernel_rfl))) (ma_cons (me_sub_ix hu (me_var 1 (hv := Or.inl (by kernel_rfl))) me_int (fun _ _ => by kernel_rfl)) ma_nil) (aLen_cons aLen_nil)))
  (mss_cons (ms_s (i := 2) (hx := Or.inl (by kernel_rfl)) (hf := Or.inr (by kernel_rfl)) sc_Steps__lay_either.nd (me_mth (c := "Steps") (m := "lay") T.cl_Steps T.ci_Steps T.mt_Steps__lay (ok_Steps__lay T n) (hr.mono (by omega)) T.b_Steps__lay tk (me_var 0 (hv := Or.inl (by kernel_rfl))) (ma_cons (me_tup ma_nil) ma_nil) (aLen_cons aLen_nil)))
  (mss_cons (ms_expr (me_mth (c := "Steps") (m := "lay_expr") T.cl_Steps T.ci_Steps T.mt_Steps__lay_expr (rc_Steps__lay_expr) (hr.mono (by omega)) T.b_Steps__lay_expr tk (me_var 0 (hv := Or.inl (by kernel_rfl))) (ma_cons (me_sub_ix hu (me_var 1 (hv := Or.inl (by kernel_rfl))) me_int (fun _ _ => by kernel_rfl)) ma_nil) (aLen_cons aLen_nil)))
  (mss_cons (ms_expr (me_mth (c := "Steps") (m := "lay") T.cl_Steps T.ci_Steps T.mt_Steps__lay (ok_Steps__lay T n) (hr.mono (by omega)) T.b_Steps__lay tk (me_var 0 (hv := Or.inl (by kernel_rfl))) (ma_cons (me_tup (ma_cons (me_str [116, 114, 117, 116, 104] (by decide +kernel)) ma_nil)) ma_nil) (aLen_cons aLen_nil)))
  (mss_one (ms_asg (me_tup (ma_cons (me_sub_ix hu (me_var 1 (hv := Or.inl (by kernel_rfl))) me_int (fun _ _ => by kernel_rfl)) (ma_cons (me_mth0 (c := "Steps") (m := "here") T.cl_Steps T.ci_Steps T.mt_Steps__here (ok_Steps__here T n) (hr.mono (by omega)) T.b_Steps__here tk (me_var 0 (hv := Or.inl (by kernel_rfl)))) ma_nil))) (mg_sub hu (me_attr (f := "laid_steps") (attr_ok1 T.ci_Steps T.cl_Steps T.na_Steps_laid_steps) (me_var 0 (hv := Or.inl (by kernel_rfl)))) (me_var 2 (hv := Or.inl (by kernel_rfl))))))))))
set_option maxHeartbeats 4000000 in
theorem st_Steps__lay_expr (T : Txt w K mg A) (n d : Nat) (rc_Steps__lay_either : FnOk P w K mg base (L2.CX P w) (2 + d) A.a_Steps__lay_either A.d_Steps__lay_either ["self", "expr"] (spM K (F_Steps__lay_either n d) 2)) (rc_Steps__lay_expr : FnOk P w K mg base (L2.CX P w) (2 + d) A.a_Steps__lay_expr A.d_Steps__lay_expr ["self", "expr"] (spM K (F_Steps__lay_expr n d) 2)) : FnOk P w K mg base (L2.CX P w) (2 + (d + 1)) A.a_Steps__lay_expr A.d_Steps__lay_expr ["self", "expr"] (spM K (F_Steps__lay_expr n (d + 1)) 2) :=
  def_okF ["self", "expr", "inner", "one"] ["self", "expr"] (b_Steps__lay_expr n (F_Steps__lay_either n d) (F_Steps__lay_expr n d)) (k := 2 + d) (kk := 4) (nn := 2) (g := F_Steps__lay_expr n (d + 1)) (by first | rfl | rw [F_Steps__lay_expr]) (by kernel_rfl) (by kernel_rfl) T.f_Steps__lay_expr sc_Steps__lay_expr fun cdv Ar outer s H E hr => by
  have hu := hu_of hr
  have tk : Takes (cxOf (L2.CX P w) P w K mg base ["self", "expr", "inner", "one"] "Steps.lay_expr" (defScope s_Steps__lay_expr) A.a_Steps__lay_expr cdv Ar outer s H E) (fun c d _ H => E c d H) := takes_of rfl rfl rfl rfl
  exact (mss_one (ms_if (mt_val (me_isinst (gl_of (by kernel_rfl)) T.z_isinstance (ma_cons (me_var 1 (hv := Or.inl (by kernel_rfl))) (ma_cons (me_ty (gl_of (by kernel_rfl)) T.z_int (by decide +kernel)) ma_nil)))) (mss_one (ms_expr (me_mth (c := "Steps") (m := "lay") T.cl_Steps T.ci_Steps T.mt_Steps__lay (ok_Steps__lay T n) (hr.mono (by omega)) T.b_Steps__lay tk (me_var 0 (hv := Or.inl (by kernel_rfl))) (ma_cons (me_tup (ma_cons (me_str [112, 108, 97, 105, 110] (by decide +kernel)) (ma_cons (me_var 1 (hv := Or.inl (by kernel_rfl))) ma_nil))) ma_nil) (aLen_cons aLen_nil)))) (mss_one (ms_if (mt_eq hr.units (me_sub_ix hu (me_var 1 (hv := Or.inl (by kernel_rfl))) me_int (fun _ _ => by kernel_rfl)) (me_str [111, 102] (by decide +kernel))) (mss_one (ms_expr (me_mth (c := "Steps") (m := "lay") T.cl_Steps T.ci_Steps T.mt_Steps__lay (ok_Steps__lay T n) (hr.mono (by omega)) T.b_Steps__lay tk (me_var 0 (hv := Or.inl (by kernel_rfl))) (ma_cons (me_tup (ma_cons (me_str [111, 102] (by decide +kernel)) (ma_cons (me_sub_ix hu (me_sub_ix hu (me_var 1 (hv := Or.inl (by kernel_rfl))) me_int (fun _ _ => by kernel_rfl)) me_int (fun _ _ => by kernel_rfl)) (ma_cons (me_call (ok_places_of T n) (hr.mono (by omega)) (gl_of (by kernel_rfl)) T.m_places_of T.f_places_of.kp T.b_places_of tk (ma_cons (me_attr (f := "own_tree") (attr_ok1 T.ci_Steps T.cl_Steps T.na_Steps_own_tree) (me_var 0 (hv := Or.inl (by kernel_rfl)))) (ma_cons (me_attr (f := "seen") (attr_ok1 T.ci_Steps T.cl_Steps T.na_Steps_seen) (me_var 0 (hv := Or.inl (by kernel_rfl)))) (ma_cons (me_sub_ix hu (me_var 1 (hv := Or.inl (by kernel_rfl))) me_int (fun _ _ => by kernel_rfl)) ma_nil))) (aLen_cons (aLen_cons (aLen_cons aLen_nil)))) ma_nil)))) ma_nil) (aLen_cons aLen_nil)))) (mss_one (ms_if (mt_in hu (me_sub_ix hu (me_var 1 (hv := Or.inl (by kernel_rfl))) me_int (fun _ _ => by kernel_rfl)) (me_tup (ma_cons (me_str [97, 110, 100] (by decide +kernel)) (ma_cons (me_str [111, 114] (by decide +kernel)) ma_nil))) (by kernel_rfl)) (mss_one (ms_expr (me_mth (c := "Steps") (m := "lay_either") T.cl_Steps T.ci_Steps T.mt_Steps__lay_either (rc_Steps__lay_either) (hr.mono (by omega)) T.b_Steps__lay_either tk (me_var 0 (hv := Or.inl (by kernel_rfl))) (ma_cons (me_var 1 (hv := Or.inl (by kernel_rfl))) ma_nil) (aLen_cons aLen_nil)))) (mss_cons (ms_s (i := 2) (hx := Or.inl (by kernel_rfl)) (hf := Or.inr (by kernel_rfl)) sc_Steps__lay_expr.nd (me_slice (me_var 1 (hv := Or.inl (by kernel_rfl))) (mo_some me_int) mo_none))
  (mss_cons (ms_if (mt_in hu (me_sub_ix hu (me_var 1 (hv := Or.inl (by kernel_rfl))) me_int (fun _ _ => by kernel_rfl)) (me_tup (ma_cons (me_str [99, 97, 108, 108] (by decide +kernel)) (ma_cons (me_str [110, 101, 119] (by decide +kernel)) ma_nil))) (by kernel_rfl)) (mss_one (ms_s (i := 2) (hx := Or.inl (by kernel_rfl)) (hf := Or.inr (by kernel_rfl)) sc_Steps__lay_expr.nd (me_slice (me_var 1 (hv := Or.inl (by kernel_rfl))) (mo_some me_int) mo_none))) mss_nil)
  (mss_cons (ms_for (passes_of rfl) rfl (mi_seq (me_var 2 (hv := Or.inl (by kernel_rfl)))) (mg_n (i := 3) (hx := Or.inl (by kernel_rfl)) (hf := Or.inr (by kernel_rfl)) sc_Steps__lay_expr.nd) (mss_one (ms_expr (me_mth (c := "Steps") (m := "lay_expr") T.cl_Steps T.ci_Steps T.mt_Steps__lay_expr (rc_Steps__lay_expr) (hr.mono (by omega)) T.b_Steps__lay_expr tk (me_var 0 (hv := Or.inl (by kernel_rfl))) (ma_cons (me_var 3 (hv := Or.inl (by kernel_rfl))) ma_nil) (aLen_cons aLen_nil)))))
  (mss_one (ms_if (mt_eq hr.units (me_sub_ix hu (me_var 1 (hv := Or.inl (by kernel_rfl))) me_int (fun _ _ => by kernel_rfl)) (me_str [99, 97, 108, 108] (by decide +kernel))) (mss_one (ms_expr (me_mth (c := "Steps") (m := "lay") T.cl_Steps T.ci_Steps T.mt_Steps__lay (ok_Steps__lay T n) (hr.mono (by omega)) T.b_Steps__lay tk (me_var 0 (hv := Or.inl (by kernel_rfl))) (ma_cons (me_tup (ma_cons (me_str [99, 97, 108, 108] (by decide +kernel)) (ma_cons (me_sub_ix hu (me_var 1 (hv := Or.inl (by kernel_rfl))) me_int (fun _ _ => by kernel_rfl)) (ma_cons (me_len (gl_of (by kernel_rfl)) T.z_len (ma_cons (me_var 2 (hv := Or.inl (by kernel_rfl))) ma_nil)) ma_nil)))) ma_nil) (aLen_cons aLen_nil)))) (mss_one (ms_if (mt_in hu (me_sub_ix hu (me_var 1 (hv := Or.inl (by kernel_rfl))) me_int (fun _ _ => by kernel_rfl)) (me_tup (ma_cons (me_str [109, 97, 107, 101] (by decide +kernel)) (ma_cons (me_str [110, 101, 119] (by decide +kernel)) ma_nil))) (by kernel_rfl)) (mss_one (ms_expr (me_mth (c := "Steps") (m := "lay") T.cl_Steps T.ci_Steps T.mt_Steps__lay (ok_Steps__lay T n) (hr.mono (by omega)) T.b_Steps__lay tk (me_var 0 (hv := Or.inl (by kernel_rfl))) (ma_cons (me_tup (ma_cons (me_str [116, 117, 112, 108, 101] (by decide +kernel)) (ma_cons (me_len (gl_of (by kernel_rfl)) T.z_len (ma_cons (me_var 2 (hv := Or.inl (by kernel_rfl))) ma_nil)) ma_nil))) ma_nil) (aLen_cons aLen_nil)))) (mss_one (ms_expr (me_mth (c := "Steps") (m := "lay") T.cl_Steps T.ci_Steps T.mt_Steps__lay (ok_Steps__lay T n) (hr.mono (by omega)) T.b_Steps__lay tk (me_var 0 (hv := Or.inl (by kernel_rfl))) (ma_cons (me_tup (ma_cons (me_str [111, 112] (by decide +kernel)) (ma_cons (me_sub_ix hu (me_var 1 (hv := Or.inl (by kernel_rfl))) me_int (fun _ _ => by kernel_rfl)) ma_nil))) ma_nil) (aLen_cons aLen_nil)))))))))))))))))
theorem all_Steps__lay_either (T : Txt w K mg A) (n : Nat) : ∀ d : Nat, FnOk P w K mg base (L2.CX P w) (2 + d) A.a_Steps__lay_either A.d_Steps__lay_either ["self", "expr"] (spM K (F_Steps__lay_either n d) 2) ∧ FnOk P w K mg base (L2.CX P w) (2 + d) A.a_Steps__lay_expr A.d_Steps__lay_expr ["self", "expr"] (spM K (F_Steps__lay_expr n d) 2)
  | 0 => ⟨(by first | exact fnOk_no | (rw [F_Steps__lay_either]; exact fnOk_no)), (by first | exact fnOk_no | (rw [F_Steps__lay_expr]; exact fnOk_no))⟩
  | d + 1 => by
    obtain ⟨h0, h1⟩ := all_Steps__lay_either T n d
    exact ⟨st_Steps__lay_either T n d h0 h1, st_Steps__lay_expr T n d h0 h1⟩
theorem ok_Steps__lay_either (T : Txt w K mg A) (n d : Nat) : FnOk P w K mg base (L2.CX P w) (2 + d) A.a_Steps__lay_either A.d_Steps__lay_either ["self", "expr"] (spM K (F_Steps__lay_either n d) 2) := (all_Steps__lay_either T n d).1
theorem ok_Steps__lay_expr (T : Txt w K mg A) (n d : Nat) : FnOk P w K mg base (L2.CX P w) (2 + d) A.a_Steps__lay_expr A.d_Steps__lay_expr ["self", "expr"] (spM K (F_Steps__lay_expr n d) 2) := (all_Steps__lay_either T n d).2
theorem sc_Steps__lay_while : FnScope ["self", "statement", "begin", "at"] ["self", "statement"] (defScope s_Steps__lay_while) := ⟨by kernel_rfl, by kernel_rfl, by kernel_rfl, by decide +kernel, by kernel_rfl, by decide +kernel, by decide +kernel⟩
theorem sc_Steps__lay_if : FnScope ["self", "statement", "at", "end"] ["self", "statement"] (defScope s_Steps__lay_if) := ⟨by kernel_rfl, by kernel_rfl, by kernel_rfl, by decide +kernel, by kernel_rfl, by decide +kernel, by decide +kernel⟩
theorem sc_Steps__lay_statement : FnScope ["self", "statement", "word"] ["self", "statement"] (defScope s_Steps__lay_statement) := ⟨by kernel_rfl, by kernel_rfl, by kernel_rfl, by decide +kernel, by kernel_rfl, by decide +kernel, by decide +kernel⟩
theorem sc_Steps__lay_body : FnScope ["self", "body", "statement"] ["self", "body"] (defScope s_Steps__lay_body) := ⟨by kernel_rfl, by kernel_rfl, by kernel_rfl, by decide +kernel, by kernel_rfl, by decide +kernel, by decide +kernel⟩
set_option maxHeartbeats 4000000 in
theorem st_Steps__lay_while (T : Txt w K mg A) (n d : Nat) (rc_Steps__lay_while : FnOk P w K mg base (L2.CX P w) (14 + d) A.a_Steps__lay_while A.d_Steps__lay_while ["self", "statement"] (spM K (F_Steps__lay_while n d) 2)) (rc_Steps__lay_if : FnOk P w K mg base (L2.CX P w) (14 + d) A.a_Steps__lay_if A.d_Steps__lay_if ["self", "statement"] (spM K (F_Steps__lay_if n d) 2)) (rc_Steps__lay_statement : FnOk P w K mg base (L2.CX P w) (14 + d) A.a_Steps__lay_statement A.d_Steps__lay_statement ["self", "statement"] (spM K (F_Steps__lay_statement n d) 2)) (rc_Steps__lay_body : FnOk P w K mg base (L2.CX P w) (14 + d) A.a_Steps__lay_body A.d_Steps__lay_body ["self", "body"] (spM K (F_Steps__lay_body n d) 2)) : FnOk P w K mg base (L2.CX P w) (14 + (d + 1)) A.a_Steps__lay_while A.d_Steps__lay_while ["self", "statement"] (spM K (F_Steps__lay_while n (d + 1)) 2) :=
  def_okF ["self", "statement", "begin", "at"] ["self", "statement"] (b_Steps__lay_while n (F_Steps__lay_while n d) (F_Steps__lay_if n d) (F_Steps__lay_statement n d) (F_Steps__lay_body n d)) (k := 14 + d) (kk := 4) (nn := 2) (g := F_Steps__lay_while n (d + 1)) (by first | rfl | rw [F_Steps__lay_while]) (by kernel_rfl) (by kernel_rfl) T.f_Steps__lay_while sc_Steps__lay_while fun cdv Ar outer s H E hr => by
  have hu := hu_of hr
  have tk : Takes (cxOf (L2.CX P w) P w K mg base ["self", "statement", "begin", "at"] "Steps.lay_while" (defScope s_Steps__lay_while) A.a_Steps__lay_while cdv Ar outer s H E) (fun c d _ H => E c d H) := takes_of rfl rfl rfl rfl
  exact (mss_cons (ms_s (i := 2) (hx := Or.inl (by kernel_rfl)) (hf := Or.inr (by kernel_rfl)) sc_Steps__lay_while.nd (me_mth0 (c := "Steps") (m := "here") T.cl_Steps T.ci_Steps T.mt_Steps__here (ok_Steps__here T n) (hr.mono (by omega)) T.b_Steps__here tk (me_var 0 (hv := Or.inl (by kernel_rfl)))))
  (mss_cons (ms_expr (me_mth (c := "Steps") (m := "lay_expr") T.cl_Steps T.ci_Steps T.mt_Steps__lay_expr (ok_Steps__lay_expr T n 12) (hr.mono (by omega)) T.b_Steps__lay_expr tk (me_var 0 (hv := Or.inl (by kernel_rfl))) (ma_cons (me_sub_ix hu (me_var 1 (hv := Or.inl (by kernel_rfl))) me_int (fun _ _ => by kernel_rfl)) ma_nil) (aLen_cons aLen_nil)))
  (mss_cons (ms_s (i := 3) (hx := Or.inl (by kernel_rfl)) (hf := Or.inr (by kernel_rfl)) sc_Steps__lay_while.nd (me_mth (c := "Steps") (m := "lay") T.cl_Steps T.ci_Steps T.mt_Steps__lay (ok_Steps__lay T n) (hr.mono (by omega)) T.b_Steps__lay tk (me_var 0 (hv := Or.inl (by kernel_rfl))) (ma_cons (me_tup ma_nil) ma_nil) (aLen_cons aLen_nil)))
  (mss_cons (ms_expr (me_mth (c := "Steps") (m := "lay") T.cl_Steps T.ci_Steps T.mt_Steps__lay (ok_Steps__lay T n) (hr.mono (by omega)) T.b_Steps__lay tk (me_var 0 (hv := Or.inl (by kernel_rfl))) (ma_cons (me_tup (ma_cons (me_str [116, 105, 99, 107] (by decide +kernel)) ma_nil)) ma_nil) (aLen_cons aLen_nil)))
  (mss_cons (ms_expr (me_mth (c := "Steps") (m := "lay_body") T.cl_Steps T.ci_Steps T.mt_Steps__lay_body (rc_Steps__lay_body) (hr.mono (by omega)) T.b_Steps__lay_body tk (me_var 0 (hv := Or.inl (by kernel_rfl))) (ma_cons (me_sub_ix hu (me_var 1 (hv := Or.inl (by kernel_rfl))) me_int (fun _ _ => by kernel_rfl)) ma_nil) (aLen_cons aLen_nil)))
  (mss_cons (ms_expr (me_mth (c := "Steps") (m := "lay") T.cl_Steps T.ci_Steps T.mt_Steps__lay (ok_Steps__lay T n) (hr.mono (by omega)) T.b_Steps__lay tk (me_var 0 (hv := Or.inl (by kernel_rfl))) (ma_cons (me_tup (ma_cons (me_str [103, 111] (by decide +kernel)) (ma_cons (me_var 2 (hv := Or.inl (by kernel_rfl))) ma_nil))) ma_nil) (aLen_cons aLen_nil)))
  (mss_one (ms_asg (me_tup (ma_cons (me_str [117, 110, 108, 101, 115, 115] (by decide +kernel)) (ma_cons (me_mth0 (c := "Steps") (m := "here") T.cl_Steps T.ci_Steps T.mt_Steps__here (ok_Steps__here T n) (hr.mono (by omega)) T.b_Steps__here tk (me_var 0 (hv := Or.inl (by kernel_rfl)))) ma_nil))) (mg_sub hu (me_attr (f := "laid_steps") (attr_ok1 T.ci_Steps T.cl_Steps T.na_Steps_laid_steps) (me_var 0 (hv := Or.inl (by kernel_rfl)))) (me_var 3 (hv := Or.inl (by kernel_rfl))))))))))))
set_option maxHeartbeats 4000000 in
theorem st_Steps__lay_if (T : Txt w K mg A) (n d : Nat) (rc_Steps__lay_while : FnOk P w K mg base (L2.CX P w) (14 + d) A.a_Steps__lay_while A.d_Steps__lay_while ["self", "statement"] (spM K (F_Steps__lay_while n d) 2)) (rc_Steps__lay_if : FnOk P w K mg base (L2.CX P w) (14 + d) A.a_Steps__lay_if A.d_Steps__lay_if ["self", "statement"] (spM K (F_Steps__lay_if n d) 2)) (rc_Steps__lay_statement : FnOk P w K mg base (L2.CX P w) (14 + d) A.a_Steps__lay_statement A.d_Steps__lay_statement ["self", "statement"] (spM K (F_Steps__lay_statement n d) 2)) (rc_Steps__lay_body : FnOk P w K mg base (L2.CX P w) (14 + d) A.a_Steps__lay_body A.d_Steps__lay_body ["self", "body"] (spM K (F_Steps__lay_body n d) 2)) : FnOk P w K mg base (L2.CX P w) (14 + (d + 1)) A.a_Steps__lay_if A.d_Steps__lay_if ["self", "statement"] (spM K (F_Steps__lay_if n (d + 1)) 2) :=
  def_okF ["self", "statement", "at", "end"] ["self", "statement"] (b_Steps__lay_if n (F_Steps__lay_while n d) (F_Steps__lay_if n d) (F_Steps__lay_statement n d) (F_Steps__lay_body n d)) (k := 14 + d) (kk := 4) (nn := 2) (g := F_Steps__lay_if n (d + 1)) (by first | rfl | rw [F_Steps__lay_if]) (by kernel_rfl) (by kernel_rfl) T.f_Steps__lay_if sc_Steps__lay_if fun cdv Ar outer s H E hr => by
  have hu := hu_of hr
  have tk : Takes (cxOf (L2.CX P w) P w K mg base ["self", "statement", "at", "end"] "Steps.lay_if" (defScope s_Steps__lay_if) A.a_Steps__lay_if cdv Ar outer s H E) (fun c d _ H => E c d H) := takes_of rfl rfl rfl rfl
  exact (mss_cons (ms_expr (me_mth (c := "Steps") (m := "lay_expr") T.cl_Steps T.ci_Steps T.mt_Steps__lay_expr (ok_Steps__lay_expr T n 12) (hr.mono (by omega)) T.b_Steps__lay_expr tk (me_var 0 (hv := Or.inl (by kernel_rfl))) (ma_cons (me_sub_ix hu (me_var 1 (hv := Or.inl (by kernel_rfl))) me_int (fun _ _ => by kernel_rfl)) ma_nil) (aLen_cons aLen_nil)))
  (mss_cons (ms_s (i := 2) (hx := Or.inl (by kernel_rfl)) (hf := Or.inr (by kernel_rfl)) sc_Steps__lay_if.nd (me_mth (c := "Steps") (m := "lay") T.cl_Steps T.ci_Steps T.mt_Steps__lay (ok_Steps__lay T n) (hr.mono (by omega)) T.b_Steps__lay tk (me_var 0 (hv := Or.inl (by kernel_rfl))) (ma_cons (me_tup ma_nil) ma_nil) (aLen_cons aLen_nil)))
  (mss_cons (ms_expr (me_mth (c := "Steps") (m := "lay_body") T.cl_Steps T.ci_Steps T.mt_Steps__lay_body (rc_Steps__lay_body) (hr.mono (by omega)) T.b_Steps__lay_body tk (me_var 0 (hv := Or.inl (by kernel_rfl))) (ma_cons (me_sub_ix hu (me_var 1 (hv := Or.inl (by kernel_rfl))) me_int (fun _ _ => by kernel_rfl)) ma_nil) (aLen_cons aLen_nil)))
  (mss_cons (ms_s (i := 3) (hx := Or.inl (by kernel_rfl)) (hf := Or.inr (by kernel_rfl)) sc_Steps__lay_if.nd (me_mth (c := "Steps") (m := "lay") T.cl_Steps T.ci_Steps T.mt_Steps__lay (ok_Steps__lay T n) (hr.mono (by omega)) T.b_Steps__lay tk (me_var 0 (hv := Or.inl (by kernel_rfl))) (ma_cons (me_tup ma_nil) ma_nil) (aLen_cons aLen_nil)))
  (mss_cons (ms_asg (me_tup (ma_cons (me_str [117, 110, 108, 101, 115, 115] (by decide +kernel)) (ma_cons (me_mth0 (c := "Steps") (m := "here") T.cl_Steps T.ci_Steps T.mt_Steps__here (ok_Steps__here T n) (hr.mono (by omega)) T.b_Steps__here tk (me_var 0 (hv := Or.inl (by kernel_rfl)))) ma_nil))) (mg_sub hu (me_attr (f := "laid_steps") (attr_ok1 T.ci_Steps T.cl_Steps T.na_Steps_laid_steps) (me_var 0 (hv := Or.inl (by kernel_rfl)))) (me_var 2 (hv := Or.inl (by kernel_rfl)))))
  (mss_cons (ms_expr (me_mth (c := "Steps") (m := "lay_body") T.cl_Steps T.ci_Steps T.mt_Steps__lay_body (rc_Steps__lay_body) (hr.mono (by omega)) T.b_Steps__lay_body tk (me_var 0 (hv := Or.inl (by kernel_rfl))) (ma_cons (me_sub_ix hu (me_var 1 (hv := Or.inl (by kernel_rfl))) me_int (fun _ _ => by kernel_rfl)) ma_nil) (aLen_cons aLen_nil)))
  (mss_one (ms_asg (me_tup (ma_cons (me_str [103, 111] (by decide +kernel)) (ma_cons (me_mth0 (c := "Steps") (m := "here") T.cl_Steps T.ci_Steps T.mt_Steps__here (ok_Steps__here T n) (hr.mono (by omega)) T.b_Steps__here tk (me_var 0 (hv := Or.inl (by kernel_rfl)))) ma_nil))) (mg_sub hu (me_attr (f := "laid_steps") (attr_ok1 T.ci_Steps T.cl_Steps T.na_Steps_laid_steps) (me_var 0 (hv := Or.inl (by kernel_rfl)))) (me_var 3 (hv := Or.inl (by kernel_rfl))))))))))))
set_option maxHeartbeats 4000000 in
theorem st_Steps__lay_statement (T : Txt w K mg A) (n d : Nat) (rc_Steps__lay_while : FnOk P w K mg base (L2.CX P w) (14 + d) A.a_Steps__lay_while A.d_Steps__lay_while ["self", "statement"] (spM K (F_Steps__lay_while n d) 2)) (rc_Steps__lay_if : FnOk P w K mg base (L2.CX P w) (14 + d) A.a_Steps__lay_if A.d_Steps__lay_if ["self", "statement"] (spM K (F_Steps__lay_if n d) 2)) (rc_Steps__lay_statement : FnOk P w K mg base (L2.CX P w) (14 + d) A.a_Steps__lay_statement A.d_Steps__lay_statement ["self", "statement"] (spM K (F_Steps__lay_statement n d) 2)) (rc_Steps__lay_body : FnOk P w K mg base (L2.CX P w) (14 + d) A.a_Steps__lay_body A.d_Steps__lay_body ["self", "body"] (spM K (F_Steps__lay_body n d) 2)) : FnOk P w K mg base (L2.CX P w) (14 + (d + 1)) A.a_Steps__lay_statement A.d_Steps__lay_statement ["self", "statement"] (spM K (F_Steps__lay_statement n (d + 1)) 2) :=
  def_okF ["self", "statement", "word"] ["self", "statement"] (b_Steps__lay_statement n (F_Steps__lay_while n d) (F_Steps__lay_if n d) (F_Steps__lay_statement n d) (F_Steps__lay_body n d)) (k := 14 + d) (kk := 3) (nn := 2) (g := F_Steps__lay_statement n (d + 1)) (by first | rfl | rw [F_Steps__lay_statement]) (by kernel_rfl) (by kernel_rfl) T.f_Steps__lay_statement sc_Steps__lay_statement fun cdv Ar outer s H E hr => by
  have hu := hu_of hr
  have tk : Takes (cxOf (L2.CX P w) P w K mg base ["self", "statement", "word"] "Steps.lay_statement" (defScope s_Steps__lay_statement) A.a_Steps__lay_statement cdv Ar outer s H E) (fun c d _ H => E c d H) := takes_of rfl rfl rfl rfl
  exact (mss_cons (ms_s (i := 2) (hx := Or.inl (by kernel_rfl)) (hf := Or.inr (by kernel_rfl)) sc_Steps__lay_statement.nd (me_sub_ix hu (me_var 1 (hv := Or.inl (by kernel_rfl))) me_int (fun _ _ => by kernel_rfl)))
  (mss_one (ms_if (mt_eq hr.units (me_var 2 (hv := Or.inl (by kernel_rfl))) (me_str [119, 104, 105, 108, 101] (by decide +kernel))) (mss_one (ms_expr (me_mth (c := "Steps") (m := "lay_while") T.cl_Steps T.ci_Steps T.mt_Steps__lay_while (rc_Steps__lay_while) (hr.mono (by omega)) T.b_Steps__lay_while tk (me_var 0 (hv := Or.inl (by kernel_rfl))) (ma_cons (me_var 1 (hv := Or.inl (by kernel_rfl))) ma_nil) (aLen_cons aLen_nil)))) (mss_one (ms_if (mt_eq hr.units (me_var 2 (hv := Or.inl (by kernel_rfl))) (me_str [105, 102] (by decide +kernel))) (mss_one (ms_expr (me_mth (c := "Steps") (m := "lay_if") T.cl_Steps T.ci_Steps T.mt_Steps__lay_if (rc_Steps__lay_if) (hr.mono (by omega)) T.b_Steps__lay_if tk (me_var 0 (hv := Or.inl (by kernel_rfl))) (ma_cons (me_var 1 (hv := Or.inl (by kernel_rfl))) ma_nil) (aLen_cons aLen_nil)))) (mss_one (ms_if (mt_eq hr.units (me_var 2 (hv := Or.inl (by kernel_rfl))) (me_str [112, 117, 116] (by decide +kernel))) (mss_cons (ms_expr (me_mth (c := "Steps") (m := "lay_expr") T.cl_Steps T.ci_Steps T.mt_Steps__lay_expr (ok_Steps__lay_expr T n 12) (hr.mono (by omega)) T.b_Steps__lay_expr tk (me_var 0 (hv := Or.inl (by kernel_rfl))) (ma_cons (me_tup (ma_cons (me_str [111, 102] (by decide +kernel)) (ma_cons (me_sub_ix hu (me_var 1 (hv := Or.inl (by kernel_rfl))) me_int (fun _ _ => by kernel_rfl)) ma_nil))) ma_nil) (aLen_cons aLen_nil)))
  (mss_cons (ms_expr (me_mth (c := "Steps") (m := "lay_expr") T.cl_Steps T.ci_Steps T.mt_Steps__lay_expr (ok_Steps__lay_expr T n 12) (hr.mono (by omega)) T.b_Steps__lay_expr tk (me_var 0 (hv := Or.inl (by kernel_rfl))) (ma_cons (me_sub_ix hu (me_var 1 (hv := Or.inl (by kernel_rfl))) me_int (fun _ _ => by kernel_rfl)) ma_nil) (aLen_cons aLen_nil)))
  (mss_cons (ms_expr (me_mth (c := "Steps") (m := "lay_expr") T.cl_Steps T.ci_Steps T.mt_Steps__lay_expr (ok_Steps__lay_expr T n 12) (hr.mono (by omega)) T.b_Steps__lay_expr tk (me_var 0 (hv := Or.inl (by kernel_rfl))) (ma_cons (me_sub_ix hu (me_var 1 (hv := Or.inl (by kernel_rfl))) me_int (fun _ _ => by kernel_rfl)) ma_nil) (aLen_cons aLen_nil)))
  (mss_cons (ms_expr (me_mth (c := "Steps") (m := "lay") T.cl_Steps T.ci_Steps T.mt_Steps__lay (ok_Steps__lay T n) (hr.mono (by omega)) T.b_Steps__lay tk (me_var 0 (hv := Or.inl (by kernel_rfl))) (ma_cons (me_tup (ma_cons (me_str [111, 112] (by decide +kernel)) (ma_cons (me_str [112, 117, 116] (by decide +kernel)) ma_nil))) ma_nil) (aLen_cons aLen_nil)))
  (mss_one (ms_expr (me_mth (c := "Steps") (m := "lay") T.cl_Steps T.ci_Steps T.mt_Steps__lay (ok_Steps__lay T n) (hr.mono (by omega)) T.b_Steps__lay tk (me_var 0 (hv := Or.inl (by kernel_rfl))) (ma_cons (me_tup (ma_cons (me_str [115, 101, 116] (by decide +kernel)) (ma_cons (me_sub_ix hu (me_sub_ix hu (me_var 1 (hv := Or.inl (by kernel_rfl))) me_int (fun _ _ => by kernel_rfl)) me_int (fun _ _ => by kernel_rfl)) (ma_cons (me_call (ok_places_of T n) (hr.mono (by omega)) (gl_of (by kernel_rfl)) T.m_places_of T.f_places_of.kp T.b_places_of tk (ma_cons (me_attr (f := "own_tree") (attr_ok1 T.ci_Steps T.cl_Steps T.na_Steps_own_tree) (me_var 0 (hv := Or.inl (by kernel_rfl)))) (ma_cons (me_attr (f := "seen") (attr_ok1 T.ci_Steps T.cl_Steps T.na_Steps_seen) (me_var 0 (hv := Or.inl (by kernel_rfl)))) (ma_cons (me_sub_ix hu (me_var 1 (hv := Or.inl (by kernel_rfl))) me_int (fun _ _ => by kernel_rfl)) ma_nil))) (aLen_cons (aLen_cons (aLen_cons aLen_nil)))) ma_nil)))) ma_nil) (aLen_cons aLen_nil)))))))) (mss_one (ms_if (mt_eq hr.units (me_var 2 (hv := Or.inl (by kernel_rfl))) (me_str [103, 105, 118, 101] (by decide +kernel))) (mss_cons (ms_expr (me_mth (c := "Steps") (m := "lay_expr") T.cl_Steps T.ci_Steps T.mt_Steps__lay_expr (ok_Steps__lay_expr T n 12) (hr.mono (by omega)) T.b_Steps__lay_expr tk (me_var 0 (hv := Or.inl (by kernel_rfl))) (ma_cons (me_sub_ix hu (me_var 1 (hv := Or.inl (by kernel_rfl))) me_int (fun _ _ => by kernel_rfl)) ma_nil) (aLen_cons aLen_nil)))
  (mss_one (ms_expr (me_mth (c := "Steps") (m := "lay") T.cl_Steps T.ci_Steps T.mt_Steps__lay (ok_Steps__lay T n) (hr.mono (by omega)) T.b_Steps__lay tk (me_var 0 (hv := Or.inl (by kernel_rfl))) (ma_cons (me_tup (ma_cons (me_str [103, 105, 118, 101] (by decide +kernel)) ma_nil)) ma_nil) (aLen_cons aLen_nil))))) (mss_one (ms_if (mt_eq hr.units (me_var 2 (hv := Or.inl (by kernel_rfl))) (me_str [115, 101, 116] (by decide +kernel))) (mss_cons (ms_expr (me_mth (c := "Steps") (m := "lay_expr") T.cl_Steps T.ci_Steps T.mt_Steps__lay_expr (ok_Steps__lay_expr T n 12) (hr.mono (by omega)) T.b_Steps__lay_expr tk (me_var 0 (hv := Or.inl (by kernel_rfl))) (ma_cons (me_sub_ix hu (me_var 1 (hv := Or.inl (by kernel_rfl))) me_int (fun _ _ => by kernel_rfl)) ma_nil) (aLen_cons aLen_nil)))
  (mss_one (ms_expr (me_mth (c := "Steps") (m := "lay") T.cl_Steps T.ci_Steps T.mt_Steps__lay (ok_Steps__lay T n) (hr.mono (by omega)) T.b_Steps__lay tk (me_var 0 (hv := Or.inl (by kernel_rfl))) (ma_cons (me_tup (ma_cons (me_str [115, 101, 116] (by decide +kernel)) (ma_cons (me_sub_ix hu (me_sub_ix hu (me_var 1 (hv := Or.inl (by kernel_rfl))) me_int (fun _ _ => by kernel_rfl)) me_int (fun _ _ => by kernel_rfl)) (ma_cons (me_call (ok_places_of T n) (hr.mono (by omega)) (gl_of (by kernel_rfl)) T.m_places_of T.f_places_of.kp T.b_places_of tk (ma_cons (me_attr (f := "own_tree") (attr_ok1 T.ci_Steps T.cl_Steps T.na_Steps_own_tree) (me_var 0 (hv := Or.inl (by kernel_rfl)))) (ma_cons (me_attr (f := "seen") (attr_ok1 T.ci_Steps T.cl_Steps T.na_Steps_seen) (me_var 0 (hv := Or.inl (by kernel_rfl)))) (ma_cons (me_sub_ix hu (me_var 1 (hv := Or.inl (by kernel_rfl))) me_int (fun _ _ => by kernel_rfl)) ma_nil))) (aLen_cons (aLen_cons (aLen_cons aLen_nil)))) ma_nil)))) ma_nil) (aLen_cons aLen_nil))))) (mss_cons (ms_expr (me_mth (c := "Steps") (m := "lay_expr") T.cl_Steps T.ci_Steps T.mt_Steps__lay_expr (ok_Steps__lay_expr T n 12) (hr.mono (by omega)) T.b_Steps__lay_expr tk (me_var 0 (hv := Or.inl (by kernel_rfl))) (ma_cons (me_sub_ix hu (me_var 1 (hv := Or.inl (by kernel_rfl))) me_int (fun _ _ => by kernel_rfl)) ma_nil) (aLen_cons aLen_nil)))
  (mss_cons (ms_asg (me_call (ok_kind_of_expr T n) (hr.mono (by omega)) (gl_of (by kernel_rfl)) T.m_kind_of_expr T.f_kind_of_expr.kp T.b_kind_of_expr tk (ma_cons (me_attr (f := "own_tree") (attr_ok1 T.ci_Steps T.cl_Steps T.na_Steps_own_tree) (me_var 0 (hv := Or.inl (by kernel_rfl)))) (ma_cons (me_attr (f := "seen") (attr_ok1 T.ci_Steps T.cl_Steps T.na_Steps_seen) (me_var 0 (hv := Or.inl (by kernel_rfl)))) (ma_cons (me_sub_ix hu (me_var 1 (hv := Or.inl (by kernel_rfl))) me_int (fun _ _ => by kernel_rfl)) ma_nil))) (aLen_cons (aLen_cons (aLen_cons aLen_nil)))) (mg_sub hu (me_attr (f := "seen") (attr_ok1 T.ci_Steps T.cl_Steps T.na_Steps_seen) (me_var 0 (hv := Or.inl (by kernel_rfl)))) (me_sub_ix hu (me_var 1 (hv := Or.inl (by kernel_rfl))) me_int (fun _ _ => by kernel_rfl))))
  (mss_one (ms_expr (me_mth (c := "Steps") (m := "lay") T.cl_Steps T.ci_Steps T.mt_Steps__lay (ok_Steps__lay T n) (hr.mono (by omega)) T.b_Steps__lay tk (me_var 0 (hv := Or.inl (by kernel_rfl))) (ma_cons (me_tup (ma_cons (me_str [115, 101, 116] (by decide +kernel)) (ma_cons (me_sub_ix hu (me_var 1 (hv := Or.inl (by kernel_rfl))) me_int (fun _ _ => by kernel_rfl)) (ma_cons (me_tup ma_nil) ma_nil)))) ma_nil) (aLen_cons aLen_nil)))))))))))))))))
set_option maxHeartbeats 4000000 in
theorem st_Steps__lay_body (T : Txt w K mg A) (n d : Nat) (rc_Steps__lay_while : FnOk P w K mg base (L2.CX P w) (14 + d) A.a_Steps__lay_while A.d_Steps__lay_while ["self", "statement"] (spM K (F_Steps__lay_while n d) 2)) (rc_Steps__lay_if : FnOk P w K mg base (L2.CX P w) (14 + d) A.a_Steps__lay_if A.d_Steps__lay_if ["self", "statement"] (spM K (F_Steps__lay_if n d) 2)) (rc_Steps__lay_statement : FnOk P w K mg base (L2.CX P w) (14 + d) A.a_Steps__lay_statement A.d_Steps__lay_statement ["self", "statement"] (spM K (F_Steps__lay_statement n d) 2)) (rc_Steps__lay_body : FnOk P w K mg base (L2.CX P w) (14 + d) A.a_Steps__lay_body A.d_Steps__lay_body ["self", "body"] (spM K (F_Steps__lay_body n d) 2)) : FnOk P w K mg base (L2.CX P w) (14 + (d + 1)) A.a_Steps__lay_body A.d_Steps__lay_body ["self", "body"] (spM K (F_Steps__lay_body n (d + 1)) 2) :=
  def_okF ["self", "body", "statement"] ["self", "body"] (b_Steps__lay_body n (F_Steps__lay_while n d) (F_Steps__lay_if n d) (F_Steps__lay_statement n d) (F_Steps__lay_body n d)) (k := 14 + d) (kk := 3) (nn := 2) (g := F_Steps__lay_body n (d + 1)) (by first | rfl | rw [F_Steps__lay_body]) (by kernel_rfl) (by kernel_rfl) T.f_Steps__lay_body sc_Steps__lay_body fun cdv Ar outer s H E hr => by
  have hu := hu_of hr
  have tk : Takes (cxOf (L2.CX P w) P w K mg base ["self", "body", "statement"] "Steps.lay_body" (defScope s_Steps__lay_body) A.a_Steps__lay_body cdv Ar outer s H E) (fun c d _ H => E c d H) := takes_of rfl rfl rfl rfl
  exact (mss_one (ms_for (passes_of rfl) rfl (mi_seq (me_var 1 (hv := Or.inl (by kernel_rfl)))) (mg_n (i := 2) (hx := Or.inl (by kernel_rfl)) (hf := Or.inr (by kernel_rfl)) sc_Steps__lay_body.nd) (mss_one (ms_expr (me_mth (c := "Steps") (m := "lay_statement") T.cl_Steps T.ci_Steps T.mt_Steps__lay_statement (rc_Steps__lay_statement) (hr.mono (by omega)) T.b_Steps__lay_statement tk (me_var 0 (hv := Or.inl (by kernel_rfl))) (ma_cons (me_var 2 (hv := Or.inl (by kernel_rfl))) ma_nil) (aLen_cons aLen_nil))))))
theorem all_Steps__lay_while (T : Txt w K mg A) (n : Nat) : ∀ d : Nat, FnOk P w K mg base (L2.CX P w) (14 + d) A.a_Steps__lay_while A.d_Steps__lay_while ["self", "statement"] (spM K (F_Steps__lay_while n d) 2) ∧ FnOk P w K mg base (L2.CX P w) (14 + d) A.a_Steps__lay_if A.d_Steps__lay_if ["self", "statement"] (spM K (F_Steps__lay_if n d) 2) ∧ FnOk P w K mg base (L2.CX P w) (14 + d) A.a_Steps__lay_statement A.d_Steps__lay_statement ["self", "statement"] (spM K (F_Steps__lay_statement n d) 2) ∧ FnOk P w K mg base (L2.CX P w) (14 + d) A.a_Steps__lay_body A.d_Steps__lay_body ["self", "body"] (spM K (F_Steps__lay_body n d) 2)
  | 0 => ⟨(by first | exact fnOk_no | (rw [F_Steps__lay_while]; exact fnOk_no)), (by first | exact fnOk_no | (rw [F_Steps__lay_if]; exact fnOk_no)), (by first | exact fnOk_no | (rw [F_Steps__lay_statement]; exact fnOk_no)), (by first | exact fnOk_no | (rw [F_Steps__lay_body]; exact fnOk_no))⟩
  | d + 1 => by
    obtain ⟨h0, h1, h2, h3⟩ := all_Steps__lay_while T n d
    exact ⟨st_Steps__lay_while T n d h0 h1 h2 h3, st_Steps__lay_if T n d h0 h1 h2 h3, st_Steps__lay_statement T n d h0 h1 h2 h3, st_Steps__lay_body T n d h0 h1 h2 h3⟩
theorem ok_Steps__lay_while (T : Txt w K mg A) (n d : Nat) : FnOk P w K mg base (L2.CX P w) (14 + d) A.a_Steps__lay_while A.d_Steps__lay_while ["self", "statement"] (spM K (F_Steps__lay_while n d) 2) := (all_Steps__lay_while T n d).1
theorem ok_Steps__lay_if (T : Txt w K mg A) (n d : Nat) : FnOk P w K mg base (L2.CX P w) (14 + d) A.a_Steps__lay_if A.d_Steps__lay_if ["self", "statement"] (spM K (F_Steps__lay_if n d) 2) := (all_Steps__lay_while T n d).2.1
theorem ok_Steps__lay_statement (T : Txt w K mg A) (n d : Nat) : FnOk P w K mg base (L2.CX P w) (14 + d) A.a_Steps__lay_statement A.d_Steps__lay_statement ["self", "statement"] (spM K (F_Steps__lay_statement n d) 2) := (all_Steps__lay_while T n d).2.2.1
theorem ok_Steps__lay_body (T : Txt w K mg A) (n d : Nat) : FnOk P w K mg base (L2.CX P w) (14 + d) A.a_Steps__lay_body A.d_Steps__lay_body ["self", "body"] (spM K (F_Steps__lay_body n d) 2) := (all_Steps__lay_while T n d).2.2.2
theorem sc_Walk____init__ : FnScope ["self", "tree", "bound", "name", "kind", "params", "body", "steps", "one"] ["self", "tree", "bound"] (defScope s_Walk____init__) := ⟨by kernel_rfl, by kernel_rfl, by kernel_rfl, by decide +kernel, by kernel_rfl, by decide +kernel, by decide +kernel⟩
set_option maxHeartbeats 4000000 in
theorem ok_Walk____init__ (T : Txt w K mg A) (n : Nat) : FnOk P w K mg base (L2.CX P w) 27 A.a_Walk____init__ A.d_Walk____init__ ["self", "tree", "bound"] (spM K (F_Walk____init__ n) 3) :=
  def_okF ["self", "tree", "bound", "name", "kind", "params", "body", "steps", "one"] ["self", "tree", "bound"] (b_Walk____init__ n) (k := 26) (kk := 9) (nn := 3) (g := F_Walk____init__ n) (by kernel_rfl) (by kernel_rfl) (by kernel_rfl) T.f_Walk____init__ sc_Walk____init__ fun cdv Ar outer s H E hr => by
  have hu := hu_of hr
  have tk : Takes (cxOf (L2.CX P w) P w K mg base ["self", "tree", "bound", "name", "kind", "params", "body", "steps", "one"] "Walk.__init__" (defScope s_Walk____init__) A.a_Walk____init__ cdv Ar outer s H E) (fun c d _ H => E c d H) := takes_of rfl rfl rfl rfl
  exact (mss_cons (ms_attr (f := "told_steps") (attr_ok1 T.ci_Walk T.cl_Walk T.na_Walk_told_steps) (me_var 0 (hv := Or.inl (by kernel_rfl))) me_dict0)
  (mss_cons (ms_for (passes_of rfl) rfl (mi_seq (me_sub_ix hu (me_var 1 (hv := Or.inl (by kernel_rfl))) me_int (fun _ _ => by kernel_rfl))) (mg_tup rfl (mgs_cons (mg_n (i := 3) (hx := Or.inl (by kernel_rfl)) (hf := Or.inr (by kernel_rfl)) sc_Walk____init__.nd) (mgs_cons (mg_n (i := 4) (hx := Or.inl (by kernel_rfl)) (hf := Or.inr (by kernel_rfl)) sc_Walk____init__.nd) (mgs_cons (mg_n (i := 5) (hx := Or.inl (by kernel_rfl)) (hf := Or.inr (by kernel_rfl)) sc_Walk____init__.nd) (mgs_cons (mg_n (i := 6) (hx := Or.inl (by kernel_rfl)) (hf := Or.inr (by kernel_rfl)) sc_Walk____init__.nd) mgs_nil))))) (mss_cons (ms_s (i := 7) (hx := Or.inl (by kernel_rfl)) (hf := Or.inr (by kernel_rfl)) sc_Walk____init__.nd (me_new (c := "Steps") T.mk_Steps T.ci_Steps (ok_Steps____init__ T n) (hr.mono (by decide)) (gl_of (by kernel_rfl)) T.m_Steps T.b_Steps____init__ passes_no (ma_cons (me_var 1 (hv := Or.inl (by kernel_rfl))) (ma_cons (me_var 5 (hv := Or.inl (by kernel_rfl))) ma_nil)) (aLen_cons (aLen_cons aLen_nil))))
  (mss_cons (ms_expr (me_mth (c := "Steps") (m := "lay_body") T.cl_Steps T.ci_Steps T.mt_Steps__lay_body (ok_Steps__lay_body T n 12) (hr.mono (by decide)) T.b_Steps__lay_body tk (me_var 7 (hv := Or.inl (by kernel_rfl))) (ma_cons (me_var 6 (hv := Or.inl (by kernel_rfl))) ma_nil) (aLen_cons aLen_nil)))
  (mss_one (ms_asg (me_tup (ma_cons (me_lc (own := [("one", 8)]) rfl sc_Walk____init__.nd (mi_seq (me_var 5 (hv := Or.inl (by kernel_rfl)))) (blkOk_by (by kernel_rfl)) (tgo_name (by decide)) lcV_end (fun _ _ _ _ _ => (pg_n (i := 8) (hx := Or.inl (by kernel_rfl)) (hf := Or.inr (by kernel_rfl)) sc_Walk____init__.nd)) (fun _ _ _ _ _ => mts_nil) (fun _ _ _ _ _ => (me_sub_ix hu (me_var 8 (hv := Or.inl (by kernel_rfl))) me_int (fun _ _ => by kernel_rfl)))) (ma_cons (me_attr (f := "laid_steps") (attr_ok1 T.ci_Steps T.cl_Steps T.na_Steps_laid_steps) (me_var 7 (hv := Or.inl (by kernel_rfl)))) ma_nil))) (mg_sub hu (me_attr (f := "told_steps") (attr_ok1 T.ci_Walk T.cl_Walk T.na_Walk_told_steps) (me_var 0 (hv := Or.inl (by kernel_rfl)))) (me_var 3 (hv := Or.inl (by kernel_rfl)))))))))
  (mss_cons (ms_attr (f := "ticks_left") (attr_ok1 T.ci_Walk T.cl_Walk T.na_Walk_ticks_left) (me_var 0 (hv := Or.inl (by kernel_rfl))) (me_var 2 (hv := Or.inl (by kernel_rfl))))
  (mss_cons (ms_attr (f := "stack") (attr_ok1 T.ci_Walk T.cl_Walk T.na_Walk_stack) (me_var 0 (hv := Or.inl (by kernel_rfl))) (me_lstN ma_nil))
  (mss_one (ms_attr (f := "outcome") (attr_ok1 T.ci_Walk T.cl_Walk T.na_Walk_outcome) (me_var 0 (hv := Or.inl (by kernel_rfl))) me_non))))))
theorem sc_Walk__enter : FnScope ["self", "name", "values", "params", "steps", "variables", "param", "value"] ["self", "name", "values"] (defScope s_Walk__enter) := ⟨by kernel_rfl, by kernel_rfl, by kernel_rfl, by decide +kernel, by kernel_rfl, by decide +kernel, by decide +kernel⟩
set_option maxHeartbeats 4000000 in
theorem ok_Walk__enter (T : Txt w K mg A) (n : Nat) : FnOk P w K mg base (L2.CX P w) 1 A.a_Walk__enter A.d_Walk__enter ["self", "name", "values"] (spM K (F_Walk__enter n) 3) :=
  def_okF ["self", "name", "values", "params", "steps", "variables", "param", "value"] ["self", "name", "values"] (b_Walk__enter n) (k := 0) (kk := 8) (nn := 3) (g := F_Walk__enter n) (by kernel_rfl) (by kernel_rfl) (by kernel_rfl) T.f_Walk__enter sc_Walk__enter fun cdv Ar outer s H E hr => by
  have hu := hu_of hr
  have tk : Takes (cxOf (L2.CX P w) P w K mg base ["self", "name", "values", "params", "steps", "variables", "param", "value"] "Walk.enter" (defScope s_Walk__enter) A.a_Walk__enter cdv Ar outer s H E) (fun c d _ H => E c d H) := takes_of rfl rfl rfl rfl
  exact (mss_cons (ms_asg (me_sub_ix hu (me_attr (f := "told_steps") (attr_ok1 T.ci_Walk T.cl_Walk T.na_Walk_told_steps) (me_var 0 (hv := Or.inl (by kernel_rfl)))) (me_var 1 (hv := Or.inl (by kernel_rfl))) (fun _ _ => by kernel_rfl)) (mg_tup rfl (mgs_cons (mg_n (i := 3) (hx := Or.inl (by kernel_rfl)) (hf := Or.inr (by kernel_rfl)) sc_Walk__enter.nd) (mgs_cons (mg_n (i := 4) (hx := Or.inl (by kernel_rfl)) (hf := Or.inr (by kernel_rfl)) sc_Walk__enter.nd) mgs_nil))))
  (mss_cons (ms_s (i := 5) (hx := Or.inl (by kernel_rfl)) (hf := Or.inr (by kernel_rfl)) sc_Walk__enter.nd me_dict0)
  (mss_cons (ms_for (passes_of rfl) rfl (mi_zip (gl_of (by kernel_rfl)) T.z_zip (ma_cons (me_var 3 (hv := Or.inl (by kernel_rfl))) (ma_cons (me_var 2 (hv := Or.inl (by kernel_rfl))) ma_nil))) (mg_tup rfl (mgs_cons (mg_n (i := 6) (hx := Or.inl (by kernel_rfl)) (hf := Or.inr (by kernel_rfl)) sc_Walk__enter.nd) (mgs_cons (mg_n (i := 7) (hx := Or.inl (by kernel_rfl)) (hf := Or.inr (by kernel_rfl)) sc_Walk__enter.nd) mgs_nil))) (mss_one (ms_asg (me_var 7 (hv := Or.inl (by kernel_rfl))) (mg_sub hu (me_var 5 (hv := Or.inl (by kernel_rfl))) (me_var 6 (hv := Or.inl (by kernel_rfl)))))))
  (mss_one (ms_expr (me_append (me_attr (f := "stack") (attr_ok1 T.ci_Walk T.cl_Walk T.na_Walk_stack) (me_var 0 (hv := Or.inl (by kernel_rfl)))) (ma_cons (me_lstN (ma_cons (me_var 4 (hv := Or.inl (by kernel_rfl))) (ma_cons (me_var 5 (hv := Or.inl (by kernel_rfl))) (ma_cons (me_lstN ma_nil) (ma_cons me_int ma_nil))))) ma_nil)))))))
theorem sc_Walk__tick : FnScope ["self"] ["self"] (defScope s_Walk__tick) := ⟨by kernel_rfl, by kernel_rfl, by kernel_rfl, by decide +kernel, by kernel_rfl, by decide +kernel, by decide +kernel⟩
set_option maxHeartbeats 4000000 in
theorem ok_Walk__tick (T : Txt w K mg A) (n : Nat) : FnOk P w K mg base (L2.CX P w) 1 A.a_Walk__tick A.d_Walk__tick ["self"] (spM K (F_Walk__tick n) 1) :=
  def_okF ["self"] ["self"] (b_Walk__tick n) (k := 0) (kk := 1) (nn := 1) (g := F_Walk__tick n) (by kernel_rfl) (by kernel_rfl) (by kernel_rfl) T.f_Walk__tick sc_Walk__tick fun cdv Ar outer s H E hr => by
  have hu := hu_of hr
  have tk : Takes (cxOf (L2.CX P w) P w K mg base ["self"] "Walk.tick" (defScope s_Walk__tick) A.a_Walk__tick cdv Ar outer s H E) (fun c d _ H => E c d H) := takes_of rfl rfl rfl rfl
  exact (mss_cons (ms_if (mt_eq hr.units (me_attr (f := "ticks_left") (attr_ok1 T.ci_Walk T.cl_Walk T.na_Walk_ticks_left) (me_var 0 (hv := Or.inl (by kernel_rfl)))) me_int) (mss_cons (ms_attr (f := "outcome") (attr_ok1 T.ci_Walk T.cl_Walk T.na_Walk_outcome) (me_var 0 (hv := Or.inl (by kernel_rfl))) (me_tup (ma_cons (me_str [100, 114, 121] (by decide +kernel)) ma_nil)))
  (mss_one (ms_ret me_bl))) mss_nil)
  (mss_cons (ms_attr (f := "ticks_left") (attr_ok1 T.ci_Walk T.cl_Walk T.na_Walk_ticks_left) (me_var 0 (hv := Or.inl (by kernel_rfl))) (me_sub (me_attr (f := "ticks_left") (attr_ok1 T.ci_Walk T.cl_Walk T.na_Walk_ticks_left) (me_var 0 (hv := Or.inl (by kernel_rfl)))) me_int))
  (mss_one (ms_ret me_bl))))
theorem sc_Walk__taken : FnScope ["self", "frame", "many", "hand", "values"] ["self", "frame", "many"] (defScope s_Walk__taken) := ⟨by kernel_rfl, by kernel_rfl, by kernel_rfl, by decide +kernel, by kernel_rfl, by decide +kernel, by decide +kernel⟩
set_option maxHeartbeats 4000000 in
theorem ok_Walk__taken (T : Txt w K mg A) (n : Nat) : FnOk P w K mg base (L2.CX P w) 1 A.a_Walk__taken A.d_Walk__taken ["self", "frame", "many"] (spM K (F_Walk__taken n) 3) :=
  def_okF ["self", "frame", "many", "hand", "values"] ["self", "frame", "many"] (b_Walk__taken n) (k := 0) (kk := 5) (nn := 3) (g := F_Walk__taken n) (by kernel_rfl) (by kernel_rfl) (by kernel_rfl) T.f_Walk__taken sc_Walk__taken fun cdv Ar outer s H E hr => by
  have hu := hu_of hr
  have tk : Takes (cxOf (L2.CX P w) P w K mg base ["self", "frame", "many", "hand", "values"] "Walk.taken" (defScope s_Walk__taken) A.a_Walk__taken cdv Ar outer s H E) (fun c d _ H => E c d H) := takes_of rfl rfl rfl rfl
  exact (mss_cons (ms_s (i := 3) (hx := Or.inl (by kernel_rfl)) (hf := Or.inr (by kernel_rfl)) sc_Walk__taken.nd (me_sub_ix hu (me_var 1 (hv := Or.inl (by kernel_rfl))) me_int (fun _ _ => by kernel_rfl)))
  (mss_cons (ms_s (i := 4) (hx := Or.inl (by kernel_rfl)) (hf := Or.inr (by kernel_rfl)) sc_Walk__taken.nd (me_tupleOf (gl_of (by kernel_rfl)) T.z_tuple (ma_cons (me_slice (me_var 3 (hv := Or.inl (by kernel_rfl))) (mo_some (me_sub (me_len (gl_of (by kernel_rfl)) T.z_len (ma_cons (me_var 3 (hv := Or.inl (by kernel_rfl))) ma_nil)) (me_var 2 (hv := Or.inl (by kernel_rfl))))) mo_none) ma_nil)))
  (mss_cons (ms_asg (me_sliceN (me_var 3 (hv := Or.inl (by kernel_rfl))) mo_none (mo_some (me_sub (me_len (gl_of (by kernel_rfl)) T.z_len (ma_cons (me_var 3 (hv := Or.inl (by kernel_rfl))) ma_nil)) (me_var 2 (hv := Or.inl (by kernel_rfl)))))) (mg_sub hu (me_var 1 (hv := Or.inl (by kernel_rfl))) me_int))
  (mss_one (ms_ret (me_var 4 (hv := Or.inl (by kernel_rfl))))))))
theorem sc_Walk__give : FnScope ["self", "frame", "value"] ["self", "frame"] (defScope s_Walk__give) := ⟨by kernel_rfl, by kernel_rfl, by kernel_rfl, by decide +kernel, by kernel_rfl, by decide +kernel, by decide +kernel⟩
set_option maxHeartbeats 4000000 in
theorem ok_Walk__give (T : Txt w K mg A) (n : Nat) : FnOk P w K mg base (L2.CX P w) 1 A.a_Walk__give A.d_Walk__give ["self", "frame"] (spM K (F_Walk__give n) 2) :=
  def_okF ["self", "frame", "value"] ["self", "frame"] (b_Walk__give n) (k := 0) (kk := 3) (nn := 2) (g := F_Walk__give n) (by kernel_rfl) (by kernel_rfl) (by kernel_rfl) T.f_Walk__give sc_Walk__give fun cdv Ar outer s H E hr => by
  have hu := hu_of hr
  have tk : Takes (cxOf (L2.CX P w) P w K mg base ["self", "frame", "value"] "Walk.give" (defScope s_Walk__give) A.a_Walk__give cdv Ar outer s H E) (fun c d _ H => E c d H) := takes_of rfl rfl rfl rfl
  exact (mss_cons (ms_s (i := 2) (hx := Or.inl (by kernel_rfl)) (hf := Or.inr (by kernel_rfl)) sc_Walk__give.nd (me_sub_ix hu (me_sub_ix hu (me_var 1 (hv := Or.inl (by kernel_rfl))) me_int (fun _ _ => by kernel_rfl)) (me_neg me_int) (fun _ _ => by kernel_rfl)))
  (mss_cons (ms_expr (me_pop (me_attr (f := "stack") (attr_ok1 T.ci_Walk T.cl_Walk T.na_Walk_stack) (me_var 0 (hv := Or.inl (by kernel_rfl))))))
  (mss_one (ms_if (mt_eq hr.units (me_attr (f := "stack") (attr_ok1 T.ci_Walk T.cl_Walk T.na_Walk_stack) (me_var 0 (hv := Or.inl (by kernel_rfl)))) (me_lst ma_nil)) (mss_one (ms_attr (f := "outcome") (attr_ok1 T.ci_Walk T.cl_Walk T.na_Walk_outcome) (me_var 0 (hv := Or.inl (by kernel_rfl))) (me_tup (ma_cons (me_str [98, 97, 99, 107] (by decide +kernel)) (ma_cons (me_var 2 (hv := Or.inl (by kernel_rfl))) ma_nil))))) (mss_one (ms_expr (me_append (me_sub_ix hu (me_sub_ix hu (me_attr (f := "stack") (attr_ok1 T.ci_Walk T.cl_Walk T.na_Walk_stack) (me_var 0 (hv := Or.inl (by kernel_rfl)))) (me_neg me_int) (fun _ _ => by kernel_rfl)) me_int (fun _ _ => by kernel_rfl)) (ma_cons (me_var 2 (hv := Or.inl (by kernel_rfl))) ma_nil))))))))
theorem sc_Walk__reckon : FnScope ["self", "frame", "op", "values", "word"] ["self", "frame", "op"] (defScope s_Walk__reckon) := ⟨by kernel_rfl, by kernel_rfl, by kernel_rfl, by decide +kernel, by kernel_rfl, by decide +kernel, by decide +kernel⟩
set_option maxHeartbeats 4000000 in
theorem ok_Walk__reckon (T : Txt w K mg A) (n : Nat) : FnOk P w K mg base (L2.CX P w) 5 A.a_Walk__reckon A.d_Walk__reckon ["self", "frame", "op"] (spM K (F_Walk__reckon n) 3) :=
  def_okF ["self", "frame", "op", "values", "word"] ["self", "frame", "op"] (b_Walk__reckon n) (k := 4) (kk := 5) (nn := 3) (g := F_Walk__reckon n) (by kernel_rfl) (by kernel_rfl) (by kernel_rfl) T.f_Walk__reckon sc_Walk__reckon fun cdv Ar outer s H E hr => by
  have hu := hu_of hr
  have tk : Takes (cxOf (L2.CX P w) P w K mg base ["self", "frame", "op", "values", "word"] "Walk.reckon" (defScope s_Walk__reckon) A.a_Walk__reckon cdv Ar outer s H E) (fun c d _ H => E c d H) := takes_of rfl rfl rfl rfl
  exact (mss_cons (ms_s (i := 3) (hx := Or.inl (by kernel_rfl)) (hf := Or.inr (by kernel_rfl)) sc_Walk__reckon.nd (me_mth (c := "Walk") (m := "taken") T.cl_Walk T.ci_Walk T.mt_Walk__taken (ok_Walk__taken T n) (hr.mono (by decide)) T.b_Walk__taken tk (me_var 0 (hv := Or.inl (by kernel_rfl))) (ma_cons (me_var 1 (hv := Or.inl (by kernel_rfl))) (ma_cons (me_ixTab T.c_COUNTED (me_var 2 (hv := Or.inl (by kernel_rfl))) (fun _ _ => by kernel_rfl)) ma_nil)) (aLen_cons (aLen_cons aLen_nil))))
  (mss_cons (ms_s (i := 4) (hx := Or.inl (by kernel_rfl)) (hf := Or.inr (by kernel_rfl)) sc_Walk__reckon.nd (me_call (ok_fault_of T n) (hr.mono (by decide)) (gl_of (by kernel_rfl)) T.m_fault_of T.f_fault_of.kp T.b_fault_of tk (ma_cons (me_var 2 (hv := Or.inl (by kernel_rfl))) (ma_cons (me_var 3 (hv := Or.inl (by kernel_rfl))) ma_nil)) (aLen_cons (aLen_cons aLen_nil))))
  (mss_one (ms_if (mt_isnot (me_var 4 (hv := Or.inl (by kernel_rfl))) me_non) (mss_one (ms_attr (f := "outcome") (attr_ok1 T.ci_Walk T.cl_Walk T.na_Walk_outcome) (me_var 0 (hv := Or.inl (by kernel_rfl))) (me_tup (ma_cons (me_str [102, 97, 117, 108, 116] (by decide +kernel)) (ma_cons (me_var 4 (hv := Or.inl (by kernel_rfl))) ma_nil))))) (mss_one (ms_if (mt_eq hr.units (me_var 2 (hv := Or.inl (by kernel_rfl))) (me_str [110, 111, 116] (by decide +kernel))) (mss_one (ms_expr (me_append (me_sub_ix hu (me_var 1 (hv := Or.inl (by kernel_rfl))) me_int (fun _ _ => by kernel_rfl)) (ma_cons (me_intOf (gl_of (by kernel_rfl)) T.z_int (ma_cons (me_eq hr.units (me_sub_ix hu (me_var 3 (hv := Or.inl (by kernel_rfl))) me_int (fun _ _ => by kernel_rfl)) me_int) ma_nil)) ma_nil)))) (mss_one (ms_expr (me_append (me_sub_ix hu (me_var 1 (hv := Or.inl (by kernel_rfl))) me_int (fun _ _ => by kernel_rfl)) (ma_cons (me_call (ok_done T n) (hr.mono (by decide)) (gl_of (by kernel_rfl)) T.m_done T.f_done.kp T.b_done tk (ma_cons (me_var 2 (hv := Or.inl (by kernel_rfl))) (ma_cons (me_var 3 (hv := Or.inl (by kernel_rfl))) ma_nil)) (aLen_cons (aLen_cons aLen_nil))) ma_nil))))))))))
theorem sc_Walk__turn_step : FnScope ["self", "frame", "step", "word", "values", "value"] ["self", "frame", "step"] (defScope s_Walk__turn_step) := ⟨by kernel_rfl, by kernel_rfl, by kernel_rfl, by decide +kernel, by kernel_rfl, by decide +kernel, by decide +kernel⟩
set_option maxHeartbeats 4000000 in
theorem ok_Walk__turn_step (T : Txt w K mg A) (n : Nat) : FnOk P w K mg base (L2.CX P w) 5 A.a_Walk__turn_step A.d_Walk__turn_step ["self", "frame", "step"] (spM K (F_Walk__turn_step n) 3) :=
  def_okF ["self", "frame", "step", "word", "values", "value"] ["self", "frame", "step"] (b_Walk__turn_step n) (k := 4) (kk := 6) (nn := 3) (g := F_Walk__turn_step n) (by kernel_rfl) (by kernel_rfl) (by kernel_rfl) T.f_Walk__turn_step sc_Walk__turn_step fun cdv Ar outer s H E hr => by
  have hu := hu_of hr
  have tk : Takes (cxOf (L2.CX P w) P w K mg base ["self", "frame", "step", "word", "values", "value"] "Walk.turn_step" (defScope s_Walk__turn_step) A.a_Walk__turn_step cdv Ar outer s H E) (fun c d _ H => E c d H) := takes_of rfl rfl rfl rfl
  exact (mss_cons (ms_s (i := 3) (hx := Or.inl (by kernel_rfl)) (hf := Or.inr (by kernel_rfl)) sc_Walk__turn_step.nd (me_sub_ix hu (me_var 2 (hv := Or.inl (by kernel_rfl))) me_int (fun _ _ => by kernel_rfl)))
  (mss_one (ms_if (mt_eq hr.units (me_var 3 (hv := Or.inl (by kernel_rfl))) (me_str [103, 111] (by decide +kernel))) (mss_one (ms_asg (me_sub_ix hu (me_var 2 (hv := Or.inl (by kernel_rfl))) me_int (fun _ _ => by kernel_rfl)) (mg_sub hu (me_var 1 (hv := Or.inl (by kernel_rfl))) me_int))) (mss_one (ms_if (mt_eq hr.units (me_var 3 (hv := Or.inl (by kernel_rfl))) (me_str [103, 105, 118, 101] (by decide +kernel))) (mss_one (ms_expr (me_mth (c := "Walk") (m := "give") T.cl_Walk T.ci_Walk T.mt_Walk__give (ok_Walk__give T n) (hr.mono (by decide)) T.b_Walk__give tk (me_var 0 (hv := Or.inl (by kernel_rfl))) (ma_cons (me_var 1 (hv := Or.inl (by kernel_rfl))) ma_nil) (aLen_cons aLen_nil)))) (mss_one (ms_if (mt_eq hr.units (me_var 3 (hv := Or.inl (by kernel_rfl))) (me_str [116, 105, 99, 107] (by decide +kernel))) (mss_one (ms_expr (me_mth0 (c := "Walk") (m := "tick") T.cl_Walk T.ci_Walk T.mt_Walk__tick (ok_Walk__tick T n) (hr.mono (by decide)) T.b_Walk__tick tk (me_var 0 (hv := Or.inl (by kernel_rfl)))))) (mss_one (ms_if (mt_eq hr.units (me_var 3 (hv := Or.inl (by kernel_rfl))) (me_str [99, 97, 108, 108] (by decide +kernel))) (mss_cons (ms_s (i := 4) (hx := Or.inl (by kernel_rfl)) (hf := Or.inr (by kernel_rfl)) sc_Walk__turn_step.nd (me_mth (c := "Walk") (m := "taken") T.cl_Walk T.ci_Walk T.mt_Walk__taken (ok_Walk__taken T n) (hr.mono (by decide)) T.b_Walk__taken tk (me_var 0 (hv := Or.inl (by kernel_rfl))) (ma_cons (me_var 1 (hv := Or.inl (by kernel_rfl))) (ma_cons (me_sub_ix hu (me_var 2 (hv := Or.inl (by kernel_rfl))) me_int (fun _ _ => by kernel_rfl)) ma_nil)) (aLen_cons (aLen_cons aLen_nil))))
  (mss_one (ms_if (mt_val (me_mth0 (c := "Walk") (m := "tick") T.cl_Walk T.ci_Walk T.mt_Walk__tick (ok_Walk__tick T n) (hr.mono (by decide)) T.b_Walk__tick tk (me_var 0 (hv := Or.inl (by kernel_rfl))))) (mss_one (ms_expr (me_mth (c := "Walk") (m := "enter") T.cl_Walk T.ci_Walk T.mt_Walk__enter (ok_Walk__enter T n) (hr.mono (by decide)) T.b_Walk__enter tk (me_var 0 (hv := Or.inl (by kernel_rfl))) (ma_cons (me_sub_ix hu (me_var 2 (hv := Or.inl (by kernel_rfl))) me_int (fun _ _ => by kernel_rfl)) (ma_cons (me_var 4 (hv := Or.inl (by kernel_rfl))) ma_nil)) (aLen_cons (aLen_cons aLen_nil))))) mss_nil))) (mss_one (ms_if (mt_eq hr.units (me_var 3 (hv := Or.inl (by kernel_rfl))) (me_str [115, 101, 116] (by decide +kernel))) (mss_cons (ms_s (i := 5) (hx := Or.inl (by kernel_rfl)) (hf := Or.inr (by kernel_rfl)) sc_Walk__turn_step.nd (me_sub_ix hu (me_mth (c := "Walk") (m := "taken") T.cl_Walk T.ci_Walk T.mt_Walk__taken (ok_Walk__taken T n) (hr.mono (by decide)) T.b_Walk__taken tk (me_var 0 (hv := Or.inl (by kernel_rfl))) (ma_cons (me_var 1 (hv := Or.inl (by kernel_rfl))) (ma_cons me_int ma_nil)) (aLen_cons (aLen_cons aLen_nil))) me_int (fun _ _ => by kernel_rfl)))
  (mss_one (ms_asg (me_call (ok_with_field T n 4) (hr.mono (by decide)) (gl_of (by kernel_rfl)) T.m_with_field T.f_with_field.kp T.b_with_field tk (ma_cons (me_get1 hu (me_sub_ix hu (me_var 1 (hv := Or.inl (by kernel_rfl))) me_int (fun _ _ => by kernel_rfl)) (me_sub_ix hu (me_var 2 (hv := Or.inl (by kernel_rfl))) me_int (fun _ _ => by kernel_rfl))) (ma_cons (me_sub_ix hu (me_var 2 (hv := Or.inl (by kernel_rfl))) me_int (fun _ _ => by kernel_rfl)) (ma_cons (me_var 5 (hv := Or.inl (by kernel_rfl))) ma_nil))) (aLen_cons (aLen_cons (aLen_cons aLen_nil)))) (mg_sub hu (me_sub_ix hu (me_var 1 (hv := Or.inl (by kernel_rfl))) me_int (fun _ _ => by kernel_rfl)) (me_sub_ix hu (me_var 2 (hv := Or.inl (by kernel_rfl))) me_int (fun _ _ => by kernel_rfl)))))) (mss_cons (ms_s (i := 5) (hx := Or.inl (by kernel_rfl)) (hf := Or.inr (by kernel_rfl)) sc_Walk__turn_step.nd (me_sub_ix hu (me_mth (c := "Walk") (m := "taken") T.cl_Walk T.ci_Walk T.mt_Walk__taken (ok_Walk__taken T n) (hr.mono (by decide)) T.b_Walk__taken tk (me_var 0 (hv := Or.inl (by kernel_rfl))) (ma_cons (me_var 1 (hv := Or.inl (by kernel_rfl))) (ma_cons me_int ma_nil)) (aLen_cons (aLen_cons aLen_nil))) me_int (fun _ _ => by kernel_rfl)))
  (mss_one (ms_if (mt_eq hr.units (me_ne hr.units (me_var 5 (hv := Or.inl (by kernel_rfl))) me_int) (me_eq hr.units (me_var 3 (hv := Or.inl (by kernel_rfl))) (me_str [111, 114] (by decide +kernel)))) (mss_cons (ms_asg (me_sub_ix hu (me_var 2 (hv := Or.inl (by kernel_rfl))) me_int (fun _ _ => by kernel_rfl)) (mg_sub hu (me_var 1 (hv := Or.inl (by kernel_rfl))) me_int))
  (mss_one (ms_if (mt_ne hr.units (me_var 3 (hv := Or.inl (by kernel_rfl))) (me_str [117, 110, 108, 101, 115, 115] (by decide +kernel))) (mss_one (ms_expr (me_append (me_sub_ix hu (me_var 1 (hv := Or.inl (by kernel_rfl))) me_int (fun _ _ => by kernel_rfl)) (ma_cons (me_intOf (gl_of (by kernel_rfl)) T.z_int (ma_cons (me_eq hr.units (me_var 3 (hv := Or.inl (by kernel_rfl))) (me_str [111, 114] (by decide +kernel))) ma_nil)) ma_nil)))) mss_nil))) mss_nil))))))))))))))
theorem sc_Walk__reckon_step : FnScope ["self", "frame", "step", "word", "values"] ["self", "frame", "step"] (defScope s_Walk__reckon_step) := ⟨by kernel_rfl, by kernel_rfl, by kernel_rfl, by decide +kernel, by kernel_rfl, by decide +kernel, by decide +kernel⟩
set_option maxHeartbeats 4000000 in
theorem ok_Walk__reckon_step (T : Txt w K mg A) (n : Nat) : FnOk P w K mg base (L2.CX P w) 6 A.a_Walk__reckon_step A.d_Walk__reckon_step ["self", "frame", "step"] (spM K (F_Walk__reckon_step n) 3) :=
  def_okF ["self", "frame", "step", "word", "values"] ["self", "frame", "step"] (b_Walk__reckon_step n) (k := 5) (kk := 5) (nn := 3) (g := F_Walk__reckon_step n) (by kernel_rfl) (by kernel_rfl) (by kernel_rfl) T.f_Walk__reckon_step sc_Walk__reckon_step fun cdv Ar outer s H E hr => by
  have hu := hu_of hr
  have tk : Takes (cxOf (L2.CX P w) P w K mg base ["self", "frame", "step", "word", "values"] "Walk.reckon_step" (defScope s_Walk__reckon_step) A.a_Walk__reckon_step cdv Ar outer s H E) (fun c d _ H => E c d H) := takes_of rfl rfl rfl rfl
  exact (mss_cons (ms_s (i := 3) (hx := Or.inl (by kernel_rfl)) (hf := Or.inr (by kernel_rfl)) sc_Walk__reckon_step.nd (me_sub_ix hu (me_var 2 (hv := Or.inl (by kernel_rfl))) me_int (fun _ _ => by kernel_rfl)))
  (mss_one (ms_if (mt_eq hr.units (me_var 3 (hv := Or.inl (by kernel_rfl))) (me_str [112, 108, 97, 105, 110] (by decide +kernel))) (mss_one (ms_expr (me_append (me_sub_ix hu (me_var 1 (hv := Or.inl (by kernel_rfl))) me_int (fun _ _ => by kernel_rfl)) (ma_cons (me_sub_ix hu (me_var 2 (hv := Or.inl (by kernel_rfl))) me_int (fun _ _ => by kernel_rfl)) ma_nil)))) (mss_one (ms_if (mt_eq hr.units (me_var 3 (hv := Or.inl (by kernel_rfl))) (me_str [111, 102] (by decide +kernel))) (mss_one (ms_expr (me_append (me_sub_ix hu (me_var 1 (hv := Or.inl (by kernel_rfl))) me_int (fun _ _ => by kernel_rfl)) (ma_cons (me_call (ok_value_at T n) (hr.mono (by decide)) (gl_of (by kernel_rfl)) T.m_value_at T.f_value_at.kp T.b_value_at tk (ma_cons (me_sub_ix hu (me_sub_ix hu (me_var 1 (hv := Or.inl (by kernel_rfl))) me_int (fun _ _ => by kernel_rfl)) (me_sub_ix hu (me_var 2 (hv := Or.inl (by kernel_rfl))) me_int (fun _ _ => by kernel_rfl)) (fun _ _ => by kernel_rfl)) (ma_cons (me_sub_ix hu (me_var 2 (hv := Or.inl (by kernel_rfl))) me_int (fun _ _ => by kernel_rfl)) ma_nil)) (aLen_cons (aLen_cons aLen_nil))) ma_nil)))) (mss_one (ms_if (mt_eq hr.units (me_var 3 (hv := Or.inl (by kernel_rfl))) (me_str [116, 117, 112, 108, 101] (by decide +kernel))) (mss_cons (ms_s (i := 4) (hx := Or.inl (by kernel_rfl)) (hf := Or.inr (by kernel_rfl)) sc_Walk__reckon_step.nd (me_mth (c := "Walk") (m := "taken") T.cl_Walk T.ci_Walk T.mt_Walk__taken (ok_Walk__taken T n) (hr.mono (by decide)) T.b_Walk__taken tk (me_var 0 (hv := Or.inl (by kernel_rfl))) (ma_cons (me_var 1 (hv := Or.inl (by kernel_rfl))) (ma_cons (me_sub_ix hu (me_var 2 (hv := Or.inl (by kernel_rfl))) me_int (fun _ _ => by kernel_rfl)) ma_nil)) (aLen_cons (aLen_cons aLen_nil))))
  (mss_one (ms_expr (me_append (me_sub_ix hu (me_var 1 (hv := Or.inl (by kernel_rfl))) me_int (fun _ _ => by kernel_rfl)) (ma_cons (me_var 4 (hv := Or.inl (by kernel_rfl))) ma_nil))))) (mss_one (ms_if (mt_eq hr.units (me_var 3 (hv := Or.inl (by kernel_rfl))) (me_str [116, 114, 117, 116, 104] (by decide +kernel))) (mss_cons (ms_s (i := 4) (hx := Or.inl (by kernel_rfl)) (hf := Or.inr (by kernel_rfl)) sc_Walk__reckon_step.nd (me_mth (c := "Walk") (m := "taken") T.cl_Walk T.ci_Walk T.mt_Walk__taken (ok_Walk__taken T n) (hr.mono (by decide)) T.b_Walk__taken tk (me_var 0 (hv := Or.inl (by kernel_rfl))) (ma_cons (me_var 1 (hv := Or.inl (by kernel_rfl))) (ma_cons me_int ma_nil)) (aLen_cons (aLen_cons aLen_nil))))
  (mss_one (ms_expr (me_append (me_sub_ix hu (me_var 1 (hv := Or.inl (by kernel_rfl))) me_int (fun _ _ => by kernel_rfl)) (ma_cons (me_intOf (gl_of (by kernel_rfl)) T.z_int (ma_cons (me_ne hr.units (me_sub_ix hu (me_var 4 (hv := Or.inl (by kernel_rfl))) me_int (fun _ _ => by kernel_rfl)) me_int) ma_nil)) ma_nil))))) (mss_one (ms_if (mt_eq hr.units (me_var 3 (hv := Or.inl (by kernel_rfl))) (me_str [111, 112] (by decide +kernel))) (mss_one (ms_expr (me_mth (c := "Walk") (m := "reckon") T.cl_Walk T.ci_Walk T.mt_Walk__reckon (ok_Walk__reckon T n) (hr.mono (by decide)) T.b_Walk__reckon tk (me_var 0 (hv := Or.inl (by kernel_rfl))) (ma_cons (me_var 1 (hv := Or.inl (by kernel_rfl))) (ma_cons (me_sub_ix hu (me_var 2 (hv := Or.inl (by kernel_rfl))) me_int (fun _ _ => by kernel_rfl)) ma_nil)) (aLen_cons (aLen_cons aLen_nil))))) (mss_one (ms_expr (me_mth (c := "Walk") (m := "turn_step") T.cl_Walk T.ci_Walk T.mt_Walk__turn_step (ok_Walk__turn_step T n) (hr.mono (by decide)) T.b_Walk__turn_step tk (me_var 0 (hv := Or.inl (by kernel_rfl))) (ma_cons (me_var 1 (hv := Or.inl (by kernel_rfl))) (ma_cons (me_var 2 (hv := Or.inl (by kernel_rfl))) ma_nil)) (aLen_cons (aLen_cons aLen_nil))))))))))))))))
theorem sc_Walk__walked : FnScope ["self", "frame", "step"] ["self"] (defScope s_Walk__walked) := ⟨by kernel_rfl, by kernel_rfl, by kernel_rfl, by decide +kernel, by kernel_rfl, by decide +kernel, by decide +kernel⟩
set_option maxHeartbeats 4000000 in
theorem ok_Walk__walked (T : Txt w K mg A) (n : Nat) : FnOk P w K mg base (L2.CX P w) 7 A.a_Walk__walked A.d_Walk__walked ["self"] (spM K (F_Walk__walked n) 1) :=
  def_okF ["self", "frame", "step"] ["self"] (b_Walk__walked n) (k := 6) (kk := 3) (nn := 1) (g := F_Walk__walked n) (by kernel_rfl) (by kernel_rfl) (by kernel_rfl) T.f_Walk__walked sc_Walk__walked fun cdv Ar outer s H E hr => by
  have hu := hu_of hr
  have tk : Takes (cxOf (L2.CX P w) P w K mg base ["self", "frame", "step"] "Walk.walked" (defScope s_Walk__walked) A.a_Walk__walked cdv Ar outer s H E) (fun c d _ H => E c d H) := takes_of rfl rfl rfl rfl
  exact (mss_cons (ms_while n (passes_of rfl) (mt_is (me_attr (f := "outcome") (attr_ok1 T.ci_Walk T.cl_Walk T.na_Walk_outcome) (me_var 0 (hv := Or.inl (by kernel_rfl)))) me_non) (mss_cons (ms_s (i := 1) (hx := Or.inl (by kernel_rfl)) (hf := Or.inr (by kernel_rfl)) sc_Walk__walked.nd (me_sub_ix hu (me_attr (f := "stack") (attr_ok1 T.ci_Walk T.cl_Walk T.na_Walk_stack) (me_var 0 (hv := Or.inl (by kernel_rfl)))) (me_neg me_int) (fun _ _ => by kernel_rfl)))
  (mss_cons (ms_s (i := 2) (hx := Or.inl (by kernel_rfl)) (hf := Or.inr (by kernel_rfl)) sc_Walk__walked.nd (me_sub_ix hu (me_sub_ix hu (me_var 1 (hv := Or.inl (by kernel_rfl))) me_int (fun _ _ => by kernel_rfl)) (me_sub_ix hu (me_var 1 (hv := Or.inl (by kernel_rfl))) me_int (fun _ _ => by kernel_rfl)) (fun _ _ => by kernel_rfl)))
  (mss_cons (ms_asg (me_add (me_sub_ix hu (me_var 1 (hv := Or.inl (by kernel_rfl))) me_int (fun _ _ => by kernel_rfl)) me_int) (mg_sub hu (me_var 1 (hv := Or.inl (by kernel_rfl))) me_int))
  (mss_one (ms_expr (me_mth (c := "Walk") (m := "reckon_step") T.cl_Walk T.ci_Walk T.mt_Walk__reckon_step (ok_Walk__reckon_step T n) (hr.mono (by decide)) T.b_Walk__reckon_step tk (me_var 0 (hv := Or.inl (by kernel_rfl))) (ma_cons (me_var 1 (hv := Or.inl (by kernel_rfl))) (ma_cons (me_var 2 (hv := Or.inl (by kernel_rfl))) ma_nil)) (aLen_cons (aLen_cons aLen_nil)))))))))
  (mss_one (ms_ret (me_attr (f := "outcome") (attr_ok1 T.ci_Walk T.cl_Walk T.na_Walk_outcome) (me_var 0 (hv := Or.inl (by kernel_rfl)))))))
theorem sc_run_source : FnScope ["tree", "name", "values", "bound", "walk"] ["tree", "name", "values", "bound"] (defScope s_run_source) := ⟨by kernel_rfl, by kernel_rfl, by kernel_rfl, by decide +kernel, by kernel_rfl, by decide +kernel, by decide +kernel⟩
set_option maxHeartbeats 4000000 in
theorem ok_run_source (T : Txt w K mg A) (n : Nat) : FnOk P w K mg base (L2.CX P w) 29 A.a_run_source A.d_run_source ["tree", "name", "values", "bound"] (spM K (F_run_source n) 4) :=
  def_okF ["tree", "name", "values", "bound", "walk"] ["tree", "name", "values", "bound"] (b_run_source n) (k := 28) (kk := 5) (nn := 4) (g := F_run_source n) (by kernel_rfl) (by kernel_rfl) (by kernel_rfl) T.f_run_source sc_run_source fun cdv Ar outer s H E hr => by
  have hu := hu_of hr
  have tk : Takes (cxOf (L2.CX P w) P w K mg base ["tree", "name", "values", "bound", "walk"] "run_source" (defScope s_run_source) A.a_run_source cdv Ar outer s H E) (fun c d _ H => E c d H) := takes_of rfl rfl rfl rfl
  exact (mss_cons (ms_s (i := 4) (hx := Or.inl (by kernel_rfl)) (hf := Or.inr (by kernel_rfl)) sc_run_source.nd (me_new (c := "Walk") T.mk_Walk T.ci_Walk (ok_Walk____init__ T n) (hr.mono (by decide)) (gl_of (by kernel_rfl)) T.m_Walk T.b_Walk____init__ passes_no (ma_cons (me_var 0 (hv := Or.inl (by kernel_rfl))) (ma_cons (me_var 3 (hv := Or.inl (by kernel_rfl))) ma_nil)) (aLen_cons (aLen_cons aLen_nil))))
  (mss_cons (ms_expr (me_mth (c := "Walk") (m := "enter") T.cl_Walk T.ci_Walk T.mt_Walk__enter (ok_Walk__enter T n) (hr.mono (by decide)) T.b_Walk__enter tk (me_var 4 (hv := Or.inl (by kernel_rfl))) (ma_cons (me_var 1 (hv := Or.inl (by kernel_rfl))) (ma_cons (me_var 2 (hv := Or.inl (by kernel_rfl))) ma_nil)) (aLen_cons (aLen_cons aLen_nil))))
  (mss_one (ms_ret (me_mth0 (c := "Walk") (m := "walked") T.cl_Walk T.ci_Walk T.mt_Walk__walked (ok_Walk__walked T n) (hr.mono (by decide)) T.b_Walk__walked tk (me_var 4 (hv := Or.inl (by kernel_rfl))))))))
theorem sc__law_feed : FnScope ["_law_script", "_law_cells", "_law_pair"] ["_law_script"] (defScope s__law_feed) := ⟨by kernel_rfl, by kernel_rfl, by kernel_rfl, by decide +kernel, by kernel_rfl, by decide +kernel, by decide +kernel⟩
set_option maxHeartbeats 4000000 in
theorem ok__law_feed (T : Txt w K mg A) (n : Nat) : FnOk P w K mg base (L2.CX P w) 1 A.a__law_feed A.d__law_feed ["_law_script"] (spM K (F__law_feed n) 1) :=
  def_okF ["_law_script", "_law_cells", "_law_pair"] ["_law_script"] (b__law_feed n) (k := 0) (kk := 3) (nn := 1) (g := F__law_feed n) (by kernel_rfl) (by kernel_rfl) (by kernel_rfl) T.f__law_feed sc__law_feed fun cdv Ar outer s H E hr => by
  have hu := hu_of hr
  have tk : Takes (cxOf (L2.CX P w) P w K mg base ["_law_script", "_law_cells", "_law_pair"] "_law_feed" (defScope s__law_feed) A.a__law_feed cdv Ar outer s H E) (fun c d _ H => E c d H) := takes_of rfl rfl rfl rfl
  exact (mss_cons (ms_s (i := 1) (hx := Or.inl (by kernel_rfl)) (hf := Or.inr (by kernel_rfl)) sc__law_feed.nd (me_listOf (gl_of (by kernel_rfl)) T.z_list (ma_cons (me_slice (me_var 0 (hv := Or.inl (by kernel_rfl))) mo_none (mo_some me_int)) ma_nil)))
  (mss_cons (ms_s (i := 2) (hx := Or.inl (by kernel_rfl)) (hf := Or.inr (by kernel_rfl)) sc__law_feed.nd (me_add (me_slice (me_var 1 (hv := Or.inl (by kernel_rfl))) mo_none (mo_some me_int)) (me_lst (ma_cons me_int (ma_cons me_int ma_nil)))))
  (mss_one (ms_ret (me_dict (mps_cons (me_str [99, 101, 108, 108, 115] (by decide +kernel)) (me_var 1 (hv := Or.inl (by kernel_rfl))) (mps_cons (me_str [97, 116] (by decide +kernel)) me_int (mps_cons (me_str [108, 101, 102, 116] (by decide +kernel)) (me_sub_ix hu (me_var 2 (hv := Or.inl (by kernel_rfl))) me_int (fun _ _ => by kernel_rfl)) (mps_cons (me_str [100, 105, 103, 105, 116, 115] (by decide +kernel)) (me_eq hr.units (me_mod (me_sub_ix hu (me_var 2 (hv := Or.inl (by kernel_rfl))) me_int (fun _ _ => by kernel_rfl)) me_int) me_int) mps_nil)))))))))
theorem sc__law_draw : FnScope ["_law_feed_here", "_law_many", "_law_found", "_law_at", "_law_cell", "_law_number_here"] ["_law_feed_here", "_law_many"] (defScope s__law_draw) := ⟨by kernel_rfl, by kernel_rfl, by kernel_rfl, by decide +kernel, by kernel_rfl, by decide +kernel, by decide +kernel⟩
set_option maxHeartbeats 4000000 in
theorem ok__law_draw (T : Txt w K mg A) (n : Nat) : FnOk P w K mg base (L2.CX P w) 1 A.a__law_draw A.d__law_draw ["_law_feed_here", "_law_many"] (spM K (F__law_draw n) 2) :=
  def_okF ["_law_feed_here", "_law_many", "_law_found", "_law_at", "_law_cell", "_law_number_here"] ["_law_feed_here", "_law_many"] (b__law_draw n) (k := 0) (kk := 6) (nn := 2) (g := F__law_draw n) (by kernel_rfl) (by kernel_rfl) (by kernel_rfl) T.f__law_draw sc__law_draw fun cdv Ar outer s H E hr => by
  have hu := hu_of hr
  have tk : Takes (cxOf (L2.CX P w) P w K mg base ["_law_feed_here", "_law_many", "_law_found", "_law_at", "_law_cell", "_law_number_here"] "_law_draw" (defScope s__law_draw) A.a__law_draw cdv Ar outer s H E) (fun c d _ H => E c d H) := takes_of rfl rfl rfl rfl
  exact (mss_cons (ms_if (mt_val (me_sub_ix hu (me_var 0 (hv := Or.inl (by kernel_rfl))) (me_str [100, 105, 103, 105, 116, 115] (by decide +kernel)) (fun _ _ => by kernel_rfl))) (mss_cons (ms_s (i := 2) (hx := Or.inl (by kernel_rfl)) (hf := Or.inr (by kernel_rfl)) sc__law_draw.nd (me_mod (me_sub_ix hu (me_var 0 (hv := Or.inl (by kernel_rfl))) (me_str [108, 101, 102, 116] (by decide +kernel)) (fun _ _ => by kernel_rfl)) (me_var 1 (hv := Or.inl (by kernel_rfl)))))
  (mss_cons (ms_asg (me_fdiv (me_sub_ix hu (me_var 0 (hv := Or.inl (by kernel_rfl))) (me_str [108, 101, 102, 116] (by decide +kernel)) (fun _ _ => by kernel_rfl)) (me_var 1 (hv := Or.inl (by kernel_rfl)))) (mg_sub hu (me_var 0 (hv := Or.inl (by kernel_rfl))) (me_str [108, 101, 102, 116] (by decide +kernel))))
  (mss_cons (ms_asg (me_notin hu (me_sub_ix hu (me_var 0 (hv := Or.inl (by kernel_rfl))) (me_str [108, 101, 102, 116] (by decide +kernel)) (fun _ _ => by kernel_rfl)) (me_tup (ma_cons me_int (ma_cons (me_neg me_int) ma_nil))) (by kernel_rfl)) (mg_sub hu (me_var 0 (hv := Or.inl (by kernel_rfl))) (me_str [100, 105, 103, 105, 116, 115] (by decide +kernel))))
  (mss_one (ms_ret (me_var 2 (hv := Or.inl (by kernel_rfl)))))))) mss_nil)
  (mss_cons (ms_s (i := 3) (hx := Or.inl (by kernel_rfl)) (hf := Or.inr (by kernel_rfl)) sc__law_draw.nd (me_sub_ix hu (me_var 0 (hv := Or.inl (by kernel_rfl))) (me_str [97, 116] (by decide +kernel)) (fun _ _ => by kernel_rfl)))
  (mss_cons (ms_asg (me_add (me_var 3 (hv := Or.inl (by kernel_rfl))) me_int) (mg_sub hu (me_var 0 (hv := Or.inl (by kernel_rfl))) (me_str [97, 116] (by decide +kernel))))
  (mss_cons (ms_s (i := 4) (hx := Or.inl (by kernel_rfl)) (hf := Or.inr (by kernel_rfl)) sc__law_draw.nd (me_var 3 (hv := Or.inl (by kernel_rfl))))
  (mss_cons (ms_if (mt_ne hr.units (me_sub_ix hu (me_var 0 (hv := Or.inl (by kernel_rfl))) (me_str [99, 101, 108, 108, 115] (by decide +kernel)) (fun _ _ => by kernel_rfl)) (me_lst ma_nil)) (mss_one (ms_s (i := 4) (hx := Or.inl (by kernel_rfl)) (hf := Or.inr (by kernel_rfl)) sc__law_draw.nd (me_sub_ix hu (me_sub_ix hu (me_var 0 (hv := Or.inl (by kernel_rfl))) (me_str [99, 101, 108, 108, 115] (by decide +kernel)) (fun _ _ => by kernel_rfl)) (me_mod (me_var 3 (hv := Or.inl (by kernel_rfl))) (me_len (gl_of (by kernel_rfl)) T.z_len (ma_cons (me_sub_ix hu (me_var 0 (hv := Or.inl (by kernel_rfl))) (me_str [99, 101, 108, 108, 115] (by decide +kernel)) (fun _ _ => by kernel_rfl)) ma_nil))) (fun _ _ => by kernel_rfl)))) mss_nil)
  (mss_cons (ms_s (i := 5) (hx := Or.inl (by kernel_rfl)) (hf := Or.inr (by kernel_rfl)) sc__law_draw.nd (me_mod (me_mul (me_add (me_add (me_add (me_mod (me_var 4 (hv := Or.inl (by kernel_rfl))) me_int) (me_mul (me_mul me_int (me_var 3 (hv := Or.inl (by kernel_rfl)))) (me_var 3 (hv := Or.inl (by kernel_rfl))))) (me_mul me_int (me_var 3 (hv := Or.inl (by kernel_rfl))))) me_int) me_int) me_int))
  (mss_one (ms_ret (me_mod (me_mod (me_mul (me_var 5 (hv := Or.inl (by kernel_rfl))) me_int) me_int) (me_var 1 (hv := Or.inl (by kernel_rfl))))))))))))
theorem sc__law_number : FnScope ["_law_feed_here", "_law_way"] ["_law_feed_here"] (defScope s__law_number) := ⟨by kernel_rfl, by kernel_rfl, by kernel_rfl, by decide +kernel, by kernel_rfl, by decide +kernel, by decide +kernel⟩
set_option maxHeartbeats 4000000 in
theorem ok__law_number (T : Txt w K mg A) (n : Nat) : FnOk P w K mg base (L2.CX P w) 2 A.a__law_number A.d__law_number ["_law_feed_here"] (spM K (F__law_number n) 1) :=
  def_okF ["_law_feed_here", "_law_way"] ["_law_feed_here"] (b__law_number n) (k := 1) (kk := 2) (nn := 1) (g := F__law_number n) (by kernel_rfl) (by kernel_rfl) (by kernel_rfl) T.f__law_number sc__law_number fun cdv Ar outer s H E hr => by
  have hu := hu_of hr
  have tk : Takes (cxOf (L2.CX P w) P w K mg base ["_law_feed_here", "_law_way"] "_law_number" (defScope s__law_number) A.a__law_number cdv Ar outer s H E) (fun c d _ H => E c d H) := takes_of rfl rfl rfl rfl
  exact (mss_cons (ms_s (i := 1) (hx := Or.inl (by kernel_rfl)) (hf := Or.inr (by kernel_rfl)) sc__law_number.nd (me_call (ok__law_draw T n) (hr.mono (by decide)) (gl_of (by kernel_rfl)) T.m__law_draw T.f__law_draw.kp T.b__law_draw tk (ma_cons (me_var 0 (hv := Or.inl (by kernel_rfl))) (ma_cons me_int ma_nil)) (aLen_cons (aLen_cons aLen_nil))))
  (mss_cons (ms_if (mt_lt (me_var 1 (hv := Or.inl (by kernel_rfl))) me_int) (mss_one (ms_ret (me_sub_ix hu (me_lst (ma_cons me_int (ma_cons me_int (ma_cons (me_neg me_int) (ma_cons me_int (ma_cons me_int (ma_cons (me_neg me_int) ma_nil))))))) (me_var 1 (hv := Or.inl (by kernel_rfl))) (fun _ _ => by kernel_rfl)))) mss_nil)
  (mss_cons (ms_if (mt_eq hr.units (me_var 1 (hv := Or.inl (by kernel_rfl))) me_int) (mss_one (ms_ret (me_sub (me_call (ok__law_draw T n) (hr.mono (by decide)) (gl_of (by kernel_rfl)) T.m__law_draw T.f__law_draw.kp T.b__law_draw tk (ma_cons (me_var 0 (hv := Or.inl (by kernel_rfl))) (ma_cons me_int ma_nil)) (aLen_cons (aLen_cons aLen_nil))) me_int))) mss_nil)
  (mss_one (ms_ret (me_sub (me_call (ok__law_draw T n) (hr.mono (by decide)) (gl_of (by kernel_rfl)) T.m__law_draw T.f__law_draw.kp T.b__law_draw tk (ma_cons (me_var 0 (hv := Or.inl (by kernel_rfl))) (ma_cons me_int ma_nil)) (aLen_cons (aLen_cons aLen_nil))) me_int))))))
theorem sc__law_row : FnScope ["_law_feed_here", "_law_way", "_law_k"] ["_law_feed_here"] (defScope s__law_row) := ⟨by kernel_rfl, by kernel_rfl, by kernel_rfl, by decide +kernel, by kernel_rfl, by decide +kernel, by decide +kernel⟩
set_option maxHeartbeats 4000000 in
theorem ok__law_row (T : Txt w K mg A) (n : Nat) : FnOk P w K mg base (L2.CX P w) 3 A.a__law_row A.d__law_row ["_law_feed_here"] (spM K (F__law_row n) 1) :=
  def_okF ["_law_feed_here", "_law_way", "_law_k"] ["_law_feed_here"] (b__law_row n) (k := 2) (kk := 3) (nn := 1) (g := F__law_row n) (by kernel_rfl) (by kernel_rfl) (by kernel_rfl) T.f__law_row sc__law_row fun cdv Ar outer s H E hr => by
  have hu := hu_of hr
  have tk : Takes (cxOf (L2.CX P w) P w K mg base ["_law_feed_here", "_law_way", "_law_k"] "_law_row" (defScope s__law_row) A.a__law_row cdv Ar outer s H E) (fun c d _ H => E c d H) := takes_of rfl rfl rfl rfl
  exact (mss_cons (ms_s (i := 1) (hx := Or.inl (by kernel_rfl)) (hf := Or.inr (by kernel_rfl)) sc__law_row.nd (me_call (ok__law_draw T n) (hr.mono (by decide)) (gl_of (by kernel_rfl)) T.m__law_draw T.f__law_draw.kp T.b__law_draw tk (ma_cons (me_var 0 (hv := Or.inr (Or.inl (by kernel_rfl)))) (ma_cons me_int ma_nil)) (aLen_cons (aLen_cons aLen_nil))))
  (mss_cons (ms_if (mt_eq hr.units (me_var 1 (hv := Or.inl (by kernel_rfl))) me_int) (mss_one (ms_ret (me_mul (me_tup (ma_cons (me_call (ok__law_number T n) (hr.mono (by decide)) (gl_of (by kernel_rfl)) T.m__law_number T.f__law_number.kp T.b__law_number tk (ma_cons (me_var 0 (hv := Or.inr (Or.inl (by kernel_rfl)))) ma_nil) (aLen_cons aLen_nil)) ma_nil)) (me_add me_int (me_call (ok__law_draw T n) (hr.mono (by decide)) (gl_of (by kernel_rfl)) T.m__law_draw T.f__law_draw.kp T.b__law_draw tk (ma_cons (me_var 0 (hv := Or.inr (Or.inl (by kernel_rfl)))) (ma_cons me_int ma_nil)) (aLen_cons (aLen_cons aLen_nil))))))) mss_nil)
  (mss_one (ms_ret (me_tupleOf (gl_of (by kernel_rfl)) T.z_tuple (ma_cons (me_lc (own := [("_law_k", 2)]) rfl sc__law_row.nd (mi_range1 (gl_of (by kernel_rfl)) T.z_range (ma_cons (me_fdiv (me_var 1 (hv := Or.inl (by kernel_rfl))) me_int) ma_nil)) (blkOk_by (by kernel_rfl)) (tgo_name (by decide)) lcV_end (fun _ _ _ _ _ => (pg_n (i := 2) (hx := Or.inl (by kernel_rfl)) (hf := Or.inr (by kernel_rfl)) sc__law_row.nd)) (fun _ _ _ _ _ => mts_nil) (fun _ _ _ _ _ => (me_call (ok__law_number T n) (hr.mono (by decide)) (gl_of (by kernel_rfl)) T.m__law_number T.f__law_number.kp T.b__law_number takes0 (ma_cons (me_var 0 (hv := Or.inr (Or.inl (by kernel_rfl)))) ma_nil) (aLen_cons aLen_nil)))) ma_nil))))))
theorem sc__law_same : FnScope ["_law_found", "_law_due", "_law_k"] ["_law_found", "_law_due"] (defScope s__law_same) := ⟨by kernel_rfl, by kernel_rfl, by kernel_rfl, by decide +kernel, by kernel_rfl, by decide +kernel, by decide +kernel⟩
set_option maxHeartbeats 4000000 in
theorem st__law_same (T : Txt w K mg A) (n d : Nat) (rc__law_same : FnOk P w K mg base (L2.CX P w) (0 + d) A.a__law_same A.d__law_same ["_law_found", "_law_due"] (spM K (F__law_same n d) 2)) : FnOk P w K mg base (L2.CX P w) (0 + (d + 1)) A.a__law_same A.d__law_same ["_law_found", "_law_due"] (spM K (F__law_same n (d + 1)) 2) :=
  def_okF ["_law_found", "_law_due", "_law_k"] ["_law_found", "_law_due"] (b__law_same n (F__law_same n d)) (k := 0 + d) (kk := 3) (nn := 2) (g := F__law_same n (d + 1)) (by first | rfl | rw [F__law_same]) (by kernel_rfl) (by kernel_rfl) T.f__law_same sc__law_same fun cdv Ar outer s H E hr => by
  have hu := hu_of hr
  have tk : Takes (cxOf (L2.CX P w) P w K mg base ["_law_found", "_law_due", "_law_k"] "_law_same" (defScope s__law_same) A.a__law_same cdv Ar outer s H E) (fun c d _ H => E c d H) := takes_of rfl rfl rfl rfl
  exact (mss_cons (ms_if (mt_val (me_isinst (gl_of (by kernel_rfl)) T.z_isinstance (ma_cons (me_var 1 (hv := Or.inr (Or.inl (by kernel_rfl)))) (ma_cons (me_ty (gl_of (by kernel_rfl)) T.z_tuple (by decide +kernel)) ma_nil)))) (mss_cons (ms_if (mt_of (mw_or (mt_not (mt_val (me_isinst (gl_of (by kernel_rfl)) T.z_isinstance (ma_cons (me_var 0 (hv := Or.inr (Or.inl (by kernel_rfl)))) (ma_cons (me_ty (gl_of (by kernel_rfl)) T.z_tuple (by decide +kernel)) ma_nil))))) (mw_or1 (mt_ne hr.units (me_len (gl_of (by kernel_rfl)) T.z_len (ma_cons (me_var 0 (hv := Or.inr (Or.inl (by kernel_rfl)))) ma_nil)) (me_len (gl_of (by kernel_rfl)) T.z_len (ma_cons (me_var 1 (hv := Or.inr (Or.inl (by kernel_rfl)))) ma_nil)))))) (mss_one (ms_ret me_bl)) mss_nil)
  (mss_one (ms_ret (me_all rfl (gl_of (by kernel_rfl)) T.z_all (ma_cons (me_lc (own := [("_law_k", 2)]) rfl sc__law_same.nd (mi_range1 (gl_of (by kernel_rfl)) T.z_range (ma_cons (me_len (gl_of (by kernel_rfl)) T.z_len (ma_cons (me_var 1 (hv := Or.inr (Or.inl (by kernel_rfl)))) ma_nil)) ma_nil)) (blkOk_by (by kernel_rfl)) (tgo_name (by decide)) lcV_end (fun _ _ _ _ _ => (pg_n (i := 2) (hx := Or.inl (by kernel_rfl)) (hf := Or.inr (by kernel_rfl)) sc__law_same.nd)) (fun _ _ _ _ _ => mts_nil) (fun _ _ _ _ _ => (me_call (rc__law_same) (hr.mono (by omega)) (gl_of (by kernel_rfl)) T.m__law_same T.f__law_same.kp T.b__law_same takes0 (ma_cons (me_sub_ix hu (me_var 0 (hv := Or.inr (Or.inl (by kernel_rfl)))) (me_var 2 (hv := Or.inl (by kernel_rfl))) (fun _ _ => by kernel_rfl)) (ma_cons (me_sub_ix hu (me_var 1 (hv := Or.inr (Or.inl (by kernel_rfl)))) (me_var 2 (hv := Or.inl (by kernel_rfl))) (fun _ _ => by kernel_rfl)) ma_nil)) (aLen_cons (aLen_cons aLen_nil))))) ma_nil))))) mss_nil)
  (mss_one (ms_ret (me_and (me_eq hr.units (me_var 0 (hv := Or.inr (Or.inl (by kernel_rfl)))) (me_var 1 (hv := Or.inr (Or.inl (by kernel_rfl))))) (me_one (me_eq hr.units (me_isinst (gl_of (by kernel_rfl)) T.z_isinstance (ma_cons (me_var 0 (hv := Or.inr (Or.inl (by kernel_rfl)))) (ma_cons (me_ty (gl_of (by kernel_rfl)) T.z_bool (by decide +kernel)) ma_nil))) (me_isinst (gl_of (by kernel_rfl)) T.z_isinstance (ma_cons (me_var 1 (hv := Or.inr (Or.inl (by kernel_rfl)))) (ma_cons (me_ty (gl_of (by kernel_rfl)) T.z_bool (by decide +kernel)) ma_nil)))))))))
theorem all__law_same (T : Txt w K mg A) (n : Nat) : ∀ d : Nat, FnOk P w K mg base (L2.CX P w) (0 + d) A.a__law_same A.d__law_same ["_law_found", "_law_due"] (spM K (F__law_same n d) 2)
  | 0 => (by first | exact fnOk_no | (rw [F__law_same]; exact fnOk_no))
  | d + 1 => st__law_same T n d (all__law_same T n d)
theorem ok__law_same (T : Txt w K mg A) (n d : Nat) : FnOk P w K mg base (L2.CX P w) (0 + d) A.a__law_same A.d__law_same ["_law_found", "_law_due"] (spM K (F__law_same n d) 2) := (all__law_same T n d)
theorem sc__law_with : FnScope ["_law_value", "_law_places", "_law_fresh", "_law_at"] ["_law_value", "_law_places", "_law_fresh"] (defScope s__law_with) := ⟨by kernel_rfl, by kernel_rfl, by kernel_rfl, by decide +kernel, by kernel_rfl, by decide +kernel, by decide +kernel⟩
set_option maxHeartbeats 4000000 in
theorem st__law_with (T : Txt w K mg A) (n d : Nat) (rc__law_with : FnOk P w K mg base (L2.CX P w) (0 + d) A.a__law_with A.d__law_with ["_law_value", "_law_places", "_law_fresh"] (spM K (F__law_with n d) 3)) : FnOk P w K mg base (L2.CX P w) (0 + (d + 1)) A.a__law_with A.d__law_with ["_law_value", "_law_places", "_law_fresh"] (spM K (F__law_with n (d + 1)) 3) :=
  def_okF ["_law_value", "_law_places", "_law_fresh", "_law_at"] ["_law_value", "_law_places", "_law_fresh"] (b__law_with n (F__law_with n d)) (k := 0 + d) (kk := 4) (nn := 3) (g := F__law_with n (d + 1)) (by first | rfl | rw [F__law_with]) (by kernel_rfl) (by kernel_rfl) T.f__law_with sc__law_with fun cdv Ar outer s H E hr => by
  have hu := hu_of hr
  have tk : Takes (cxOf (L2.CX P w) P w K mg base ["_law_value", "_law_places", "_law_fresh", "_law_at"] "_law_with" (defScope s__law_with) A.a__law_with cdv Ar outer s H E) (fun c d _ H => E c d H) := takes_of rfl rfl rfl rfl
  exact (mss_cons (ms_if (mt_eq hr.units (me_var 1 (hv := Or.inl (by kernel_rfl))) (me_tup ma_nil)) (mss_one (ms_ret (me_var 2 (hv := Or.inl (by kernel_rfl))))) mss_nil)
  (mss_cons (ms_s (i := 3) (hx := Or.inl (by kernel_rfl)) (hf := Or.inr (by kernel_rfl)) sc__law_with.nd (me_sub_ix hu (me_var 1 (hv := Or.inl (by kernel_rfl))) me_int (fun _ _ => by kernel_rfl)))
  (mss_one (ms_ret (me_add (me_add (me_slice (me_var 0 (hv := Or.inl (by kernel_rfl))) mo_none (mo_some (me_var 3 (hv := Or.inl (by kernel_rfl))))) (me_tup (ma_cons (me_call (rc__law_with) (hr.mono (by omega)) (gl_of (by kernel_rfl)) T.m__law_with T.f__law_with.kp T.b__law_with tk (ma_cons (me_sub_ix hu (me_var 0 (hv := Or.inl (by kernel_rfl))) (me_var 3 (hv := Or.inl (by kernel_rfl))) (fun _ _ => by kernel_rfl)) (ma_cons (me_slice (me_var 1 (hv := Or.inl (by kernel_rfl))) (mo_some me_int) mo_none) (ma_cons (me_var 2 (hv := Or.inl (by kernel_rfl))) ma_nil))) (aLen_cons (aLen_cons (aLen_cons aLen_nil)))) ma_nil))) (me_slice (me_var 0 (hv := Or.inl (by kernel_rfl))) (mo_some (me_add (me_var 3 (hv := Or.inl (by kernel_rfl))) me_int)) mo_none))))))
theorem all__law_with (T : Txt w K mg A) (n : Nat) : ∀ d : Nat, FnOk P w K mg base (L2.CX P w) (0 + d) A.a__law_with A.d__law_with ["_law_value", "_law_places", "_law_fresh"] (spM K (F__law_with n d) 3)
  | 0 => (by first | exact fnOk_no | (rw [F__law_with]; exact fnOk_no))
  | d + 1 => st__law_with T n d (all__law_with T n d)
theorem ok__law_with (T : Txt w K mg A) (n d : Nat) : FnOk P w K mg base (L2.CX P w) (0 + d) A.a__law_with A.d__law_with ["_law_value", "_law_places", "_law_fresh"] (spM K (F__law_with n d) 3) := (all__law_with T n d)
theorem sc__law_put : FnScope ["_law_row_here", "_law_at", "_law_number_here"] ["_law_row_here", "_law_at", "_law_number_here"] (defScope s__law_put) := ⟨by kernel_rfl, by kernel_rfl, by kernel_rfl, by decide +kernel, by kernel_rfl, by decide +kernel, by decide +kernel⟩
set_option maxHeartbeats 4000000 in
theorem ok__law_put (T : Txt w K mg A) (n : Nat) : FnOk P w K mg base (L2.CX P w) 1 A.a__law_put A.d__law_put ["_law_row_here", "_law_at", "_law_number_here"] (spM K (F__law_put n) 3) :=
  def_okF ["_law_row_here", "_law_at", "_law_number_here"] ["_law_row_here", "_law_at", "_law_number_here"] (b__law_put n) (k := 0) (kk := 3) (nn := 3) (g := F__law_put n) (by kernel_rfl) (by kernel_rfl) (by kernel_rfl) T.f__law_put sc__law_put fun cdv Ar outer s H E hr => by
  have hu := hu_of hr
  have tk : Takes (cxOf (L2.CX P w) P w K mg base ["_law_row_here", "_law_at", "_law_number_here"] "_law_put" (defScope s__law_put) A.a__law_put cdv Ar outer s H E) (fun c d _ H => E c d H) := takes_of rfl rfl rfl rfl
  exact (mss_cons (ms_if (mt_of (mw_or (mt_lt (me_var 1 (hv := Or.inl (by kernel_rfl))) me_int) (mw_or1 (mt_ge (me_var 1 (hv := Or.inl (by kernel_rfl))) (me_len (gl_of (by kernel_rfl)) T.z_len (ma_cons (me_var 0 (hv := Or.inl (by kernel_rfl))) ma_nil)))))) (mss_one (ms_ret me_non)) mss_nil)
  (mss_one (ms_ret (me_add (me_add (me_slice (me_var 0 (hv := Or.inl (by kernel_rfl))) mo_none (mo_some (me_var 1 (hv := Or.inl (by kernel_rfl))))) (me_tup (ma_cons (me_var 2 (hv := Or.inl (by kernel_rfl))) ma_nil))) (me_slice (me_var 0 (hv := Or.inl (by kernel_rfl))) (mo_some (me_add (me_var 1 (hv := Or.inl (by kernel_rfl))) me_int)) mo_none)))))
theorem sc__law_whole : FnScope ["_law_feed_here", "_law_names", "_law_have", "_law_first", "_law_second"] ["_law_feed_here", "_law_names", "_law_have"] (defScope s__law_whole) := ⟨by kernel_rfl, by kernel_rfl, by kernel_rfl, by decide +kernel, by kernel_rfl, by decide +kernel, by decide +kernel⟩
set_option maxHeartbeats 4000000 in
theorem ok__law_whole (T : Txt w K mg A) (n : Nat) : FnOk P w K mg base (L2.CX P w) 2 A.a__law_whole A.d__law_whole ["_law_feed_here", "_law_names", "_law_have"] (spM K (F__law_whole n) 3) :=
  def_okF ["_law_feed_here", "_law_names", "_law_have", "_law_first", "_law_second"] ["_law_feed_here", "_law_names", "_law_have"] (b__law_whole n) (k := 1) (kk := 5) (nn := 3) (g := F__law_whole n) (by kernel_rfl) (by kernel_rfl) (by kernel_rfl) T.f__law_whole sc__law_whole fun cdv Ar outer s H E hr => by
  have hu := hu_of hr
  have tk : Takes (cxOf (L2.CX P w) P w K mg base ["_law_feed_here", "_law_names", "_law_have", "_law_first", "_law_second"] "_law_whole" (defScope s__law_whole) A.a__law_whole cdv Ar outer s H E) (fun c d _ H => E c d H) := takes_of rfl rfl rfl rfl
  exact (mss_cons (ms_s (i := 3) (hx := Or.inl (by kernel_rfl)) (hf := Or.inr (by kernel_rfl)) sc__law_whole.nd (me_sub_ix hu (me_lst (ma_cons (me_str [97] (by decide +kernel)) (ma_cons (me_str [98] (by decide +kernel)) (ma_cons (me_str [99] (by decide +kernel)) ma_nil)))) (me_call (ok__law_draw T n) (hr.mono (by decide)) (gl_of (by kernel_rfl)) T.m__law_draw T.f__law_draw.kp T.b__law_draw tk (ma_cons (me_var 0 (hv := Or.inl (by kernel_rfl))) (ma_cons me_int ma_nil)) (aLen_cons (aLen_cons aLen_nil))) (fun _ _ => by kernel_rfl)))
  (mss_cons (ms_s (i := 4) (hx := Or.inl (by kernel_rfl)) (hf := Or.inr (by kernel_rfl)) sc__law_whole.nd (me_sub_ix hu (me_lst (ma_cons (me_str [97] (by decide +kernel)) (ma_cons (me_str [98] (by decide +kernel)) (ma_cons (me_str [99] (by decide +kernel)) ma_nil)))) (me_call (ok__law_draw T n) (hr.mono (by decide)) (gl_of (by kernel_rfl)) T.m__law_draw T.f__law_draw.kp T.b__law_draw tk (ma_cons (me_var 0 (hv := Or.inl (by kernel_rfl))) (ma_cons me_int ma_nil)) (aLen_cons (aLen_cons aLen_nil))) (fun _ _ => by kernel_rfl)))
  (mss_cons (ms_asg (me_sub_ix hu (me_var 2 (hv := Or.inl (by kernel_rfl))) (me_var 4 (hv := Or.inl (by kernel_rfl))) (fun _ _ => by kernel_rfl)) (mg_sub hu (me_var 2 (hv := Or.inl (by kernel_rfl))) (me_var 3 (hv := Or.inl (by kernel_rfl)))))
  (mss_one (ms_ret (me_tup (ma_cons (me_str [115, 101, 116] (by decide +kernel)) (ma_cons (me_tup (ma_cons (me_sub_ix hu (me_var 1 (hv := Or.inl (by kernel_rfl))) (me_var 3 (hv := Or.inl (by kernel_rfl))) (fun _ _ => by kernel_rfl)) ma_nil)) (ma_cons (me_tup (ma_cons (me_str [111, 102] (by decide +kernel)) (ma_cons (me_tup (ma_cons (me_sub_ix hu (me_var 1 (hv := Or.inl (by kernel_rfl))) (me_var 4 (hv := Or.inl (by kernel_rfl))) (fun _ _ => by kernel_rfl)) ma_nil)) ma_nil))) ma_nil)))))))))
theorem sc__law_field : FnScope ["_law_feed_here", "_law_names", "_law_have", "_law_who", "_law_way", "_law_number_here", "_law_other"] ["_law_feed_here", "_law_names", "_law_have"] (defScope s__law_field) := ⟨by kernel_rfl, by kernel_rfl, by kernel_rfl, by decide +kernel, by kernel_rfl, by decide +kernel, by decide +kernel⟩
set_option maxHeartbeats 4000000 in
theorem ok__law_field (T : Txt w K mg A) (n : Nat) : FnOk P w K mg base (L2.CX P w) 5 A.a__law_field A.d__law_field ["_law_feed_here", "_law_names", "_law_have"] (spM K (F__law_field n) 3) :=
  def_okF ["_law_feed_here", "_law_names", "_law_have", "_law_who", "_law_way", "_law_number_here", "_law_other"] ["_law_feed_here", "_law_names", "_law_have"] (b__law_field n) (k := 4) (kk := 7) (nn := 3) (g := F__law_field n) (by kernel_rfl) (by kernel_rfl) (by kernel_rfl) T.f__law_field sc__law_field fun cdv Ar outer s H E hr => by
  have hu := hu_of hr
  have tk : Takes (cxOf (L2.CX P w) P w K mg base ["_law_feed_here", "_law_names", "_law_have", "_law_who", "_law_way", "_law_number_here", "_law_other"] "_law_field" (defScope s__law_field) A.a__law_field cdv Ar outer s H E) (fun c d _ H => E c d H) := takes_of rfl rfl rfl rfl
  exact (mss_cons (ms_s (i := 3) (hx := Or.inl (by kernel_rfl)) (hf := Or.inr (by kernel_rfl)) sc__law_field.nd (me_sub_ix hu (me_lst (ma_cons (me_str [97] (by decide +kernel)) (ma_cons (me_str [98] (by decide +kernel)) (ma_cons (me_str [99] (by decide +kernel)) ma_nil)))) (me_call (ok__law_draw T n) (hr.mono (by decide)) (gl_of (by kernel_rfl)) T.m__law_draw T.f__law_draw.kp T.b__law_draw tk (ma_cons (me_var 0 (hv := Or.inl (by kernel_rfl))) (ma_cons me_int ma_nil)) (aLen_cons (aLen_cons aLen_nil))) (fun _ _ => by kernel_rfl)))
  (mss_cons (ms_s (i := 4) (hx := Or.inl (by kernel_rfl)) (hf := Or.inr (by kernel_rfl)) sc__law_field.nd (me_call (ok__law_draw T n) (hr.mono (by decide)) (gl_of (by kernel_rfl)) T.m__law_draw T.f__law_draw.kp T.b__law_draw tk (ma_cons (me_var 0 (hv := Or.inl (by kernel_rfl))) (ma_cons me_int ma_nil)) (aLen_cons (aLen_cons aLen_nil))))
  (mss_cons (ms_s (i := 5) (hx := Or.inl (by kernel_rfl)) (hf := Or.inr (by kernel_rfl)) sc__law_field.nd (me_call (ok__law_number T n) (hr.mono (by decide)) (gl_of (by kernel_rfl)) T.m__law_number T.f__law_number.kp T.b__law_number tk (ma_cons (me_var 0 (hv := Or.inl (by kernel_rfl))) ma_nil) (aLen_cons aLen_nil)))
  (mss_cons (ms_if (mt_eq hr.units (me_var 4 (hv := Or.inl (by kernel_rfl))) me_int) (mss_cons (ms_asg (me_call (ok__law_with T n 4) (hr.mono (by decide)) (gl_of (by kernel_rfl)) T.m__law_with T.f__law_with.kp T.b__law_with tk (ma_cons (me_sub_ix hu (me_var 2 (hv := Or.inl (by kernel_rfl))) (me_var 3 (hv := Or.inl (by kernel_rfl))) (fun _ _ => by kernel_rfl)) (ma_cons (me_tup (ma_cons me_int ma_nil)) (ma_cons (me_var 5 (hv := Or.inl (by kernel_rfl))) ma_nil))) (aLen_cons (aLen_cons (aLen_cons aLen_nil)))) (mg_sub hu (me_var 2 (hv := Or.inl (by kernel_rfl))) (me_var 3 (hv := Or.inl (by kernel_rfl)))))
  (mss_one (ms_ret (me_tup (ma_cons (me_str [115, 101, 116] (by decide +kernel)) (ma_cons (me_tup (ma_cons (me_sub_ix hu (me_var 1 (hv := Or.inl (by kernel_rfl))) (me_var 3 (hv := Or.inl (by kernel_rfl))) (fun _ _ => by kernel_rfl)) (ma_cons (me_str [122] (by decide +kernel)) ma_nil))) (ma_cons (me_var 5 (hv := Or.inl (by kernel_rfl))) ma_nil))))))) mss_nil)
  (mss_cons (ms_if (mt_eq hr.units (me_var 4 (hv := Or.inl (by kernel_rfl))) me_int) (mss_cons (ms_asg (me_call (ok__law_with T n 4) (hr.mono (by decide)) (gl_of (by kernel_rfl)) T.m__law_with T.f__law_with.kp T.b__law_with tk (ma_cons (me_sub_ix hu (me_var 2 (hv := Or.inl (by kernel_rfl))) (me_var 3 (hv := Or.inl (by kernel_rfl))) (fun _ _ => by kernel_rfl)) (ma_cons (me_tup (ma_cons me_int (ma_cons me_int ma_nil))) (ma_cons (me_var 5 (hv := Or.inl (by kernel_rfl))) ma_nil))) (aLen_cons (aLen_cons (aLen_cons aLen_nil)))) (mg_sub hu (me_var 2 (hv := Or.inl (by kernel_rfl))) (me_var 3 (hv := Or.inl (by kernel_rfl)))))
  (mss_one (ms_ret (me_tup (ma_cons (me_str [115, 101, 116] (by decide +kernel)) (ma_cons (me_tup (ma_cons (me_sub_ix hu (me_var 1 (hv := Or.inl (by kernel_rfl))) (me_var 3 (hv := Or.inl (by kernel_rfl))) (fun _ _ => by kernel_rfl)) (ma_cons (me_str [120] (by decide +kernel)) (ma_cons (me_str [122] (by decide +kernel)) ma_nil)))) (ma_cons (me_var 5 (hv := Or.inl (by kernel_rfl))) ma_nil))))))) mss_nil)
  (mss_cons (ms_if (mt_eq hr.units (me_var 4 (hv := Or.inl (by kernel_rfl))) me_int) (mss_cons (ms_s (i := 6) (hx := Or.inl (by kernel_rfl)) (hf := Or.inr (by kernel_rfl)) sc__law_field.nd (me_sub_ix hu (me_lst (ma_cons (me_str [97] (by decide +kernel)) (ma_cons (me_str [98] (by decide +kernel)) (ma_cons (me_str [99] (by decide +kernel)) ma_nil)))) (me_call (ok__law_draw T n) (hr.mono (by decide)) (gl_of (by kernel_rfl)) T.m__law_draw T.f__law_draw.kp T.b__law_draw tk (ma_cons (me_var 0 (hv := Or.inl (by kernel_rfl))) (ma_cons me_int ma_nil)) (aLen_cons (aLen_cons aLen_nil))) (fun _ _ => by kernel_rfl)))
  (mss_cons (ms_asg (me_call (ok__law_with T n 4) (hr.mono (by decide)) (gl_of (by kernel_rfl)) T.m__law_with T.f__law_with.kp T.b__law_with tk (ma_cons (me_sub_ix hu (me_var 2 (hv := Or.inl (by kernel_rfl))) (me_var 3 (hv := Or.inl (by kernel_rfl))) (fun _ _ => by kernel_rfl)) (ma_cons (me_tup (ma_cons me_int ma_nil)) (ma_cons (me_sub_ix hu (me_sub_ix hu (me_var 2 (hv := Or.inl (by kernel_rfl))) (me_var 6 (hv := Or.inl (by kernel_rfl))) (fun _ _ => by kernel_rfl)) me_int (fun _ _ => by kernel_rfl)) ma_nil))) (aLen_cons (aLen_cons (aLen_cons aLen_nil)))) (mg_sub hu (me_var 2 (hv := Or.inl (by kernel_rfl))) (me_var 3 (hv := Or.inl (by kernel_rfl)))))
  (mss_one (ms_ret (me_tup (ma_cons (me_str [115, 101, 116] (by decide +kernel)) (ma_cons (me_tup (ma_cons (me_sub_ix hu (me_var 1 (hv := Or.inl (by kernel_rfl))) (me_var 3 (hv := Or.inl (by kernel_rfl))) (fun _ _ => by kernel_rfl)) (ma_cons (me_str [120] (by decide +kernel)) ma_nil))) (ma_cons (me_tup (ma_cons (me_str [111, 102] (by decide +kernel)) (ma_cons (me_tup (ma_cons (me_sub_ix hu (me_var 1 (hv := Or.inl (by kernel_rfl))) (me_var 6 (hv := Or.inl (by kernel_rfl))) (fun _ _ => by kernel_rfl)) (ma_cons (me_str [120] (by decide +kernel)) ma_nil))) ma_nil))) ma_nil)))))))) mss_nil)
  (mss_cons (ms_asg (me_call (ok__law_with T n 4) (hr.mono (by decide)) (gl_of (by kernel_rfl)) T.m__law_with T.f__law_with.kp T.b__law_with tk (ma_cons (me_sub_ix hu (me_var 2 (hv := Or.inl (by kernel_rfl))) (me_var 3 (hv := Or.inl (by kernel_rfl))) (fun _ _ => by kernel_rfl)) (ma_cons (me_tup (ma_cons me_int (ma_cons me_int ma_nil))) (ma_cons (me_sub_ix hu (me_var 2 (hv := Or.inl (by kernel_rfl))) (me_str [100] (by decide +kernel)) (fun _ _ => by kernel_rfl)) ma_nil))) (aLen_cons (aLen_cons (aLen_cons aLen_nil)))) (mg_sub hu (me_var 2 (hv := Or.inl (by kernel_rfl))) (me_var 3 (hv := Or.inl (by kernel_rfl)))))
  (mss_one (ms_ret (me_tup (ma_cons (me_str [115, 101, 116] (by decide +kernel)) (ma_cons (me_tup (ma_cons (me_sub_ix hu (me_var 1 (hv := Or.inl (by kernel_rfl))) (me_var 3 (hv := Or.inl (by kernel_rfl))) (fun _ _ => by kernel_rfl)) (ma_cons (me_str [120] (by decide +kernel)) (ma_cons (me_str [113] (by decide +kernel)) ma_nil)))) (ma_cons (me_tup (ma_cons (me_str [111, 102] (by decide +kernel)) (ma_cons (me_tup (ma_cons (me_sub_ix hu (me_var 1 (hv := Or.inl (by kernel_rfl))) (me_str [100] (by decide +kernel)) (fun _ _ => by kernel_rfl)) ma_nil)) ma_nil))) ma_nil)))))))))))))
theorem sc__law_laid : FnScope ["_law_feed_here", "_law_names", "_law_have", "_law_number_here", "_law_at", "_law_who", "_law_row_here"] ["_law_feed_here", "_law_names", "_law_have"] (defScope s__law_laid) := ⟨by kernel_rfl, by kernel_rfl, by kernel_rfl, by decide +kernel, by kernel_rfl, by decide +kernel, by decide +kernel⟩
set_option maxHeartbeats 4000000 in
theorem ok__law_laid (T : Txt w K mg A) (n : Nat) : FnOk P w K mg base (L2.CX P w) 5 A.a__law_laid A.d__law_laid ["_law_feed_here", "_law_names", "_law_have"] (spM K (F__law_laid n) 3) :=
  def_okF ["_law_feed_here", "_law_names", "_law_have", "_law_number_here", "_law_at", "_law_who", "_law_row_here"] ["_law_feed_here", "_law_names", "_law_have"] (b__law_laid n) (k := 4) (kk := 7) (nn := 3) (g := F__law_laid n) (by kernel_rfl) (by kernel_rfl) (by kernel_rfl) T.f__law_laid sc__law_laid fun cdv Ar outer s H E hr => by
  have hu := hu_of hr
  have tk : Takes (cxOf (L2.CX P w) P w K mg base ["_law_feed_here", "_law_names", "_law_have", "_law_number_here", "_law_at", "_law_who", "_law_row_here"] "_law_laid" (defScope s__law_laid) A.a__law_laid cdv Ar outer s H E) (fun c d _ H => E c d H) := takes_of rfl rfl rfl rfl
  exact (mss_cons (ms_s (i := 3) (hx := Or.inl (by kernel_rfl)) (hf := Or.inr (by kernel_rfl)) sc__law_laid.nd (me_call (ok__law_number T n) (hr.mono (by decide)) (gl_of (by kernel_rfl)) T.m__law_number T.f__law_number.kp T.b__law_number tk (ma_cons (me_var 0 (hv := Or.inl (by kernel_rfl))) ma_nil) (aLen_cons aLen_nil)))
  (mss_cons (ms_s (i := 4) (hx := Or.inl (by kernel_rfl)) (hf := Or.inr (by kernel_rfl)) sc__law_laid.nd (me_sub (me_call (ok__law_draw T n) (hr.mono (by decide)) (gl_of (by kernel_rfl)) T.m__law_draw T.f__law_draw.kp T.b__law_draw tk (ma_cons (me_var 0 (hv := Or.inl (by kernel_rfl))) (ma_cons me_int ma_nil)) (aLen_cons (aLen_cons aLen_nil))) me_int))
  (mss_cons (ms_if (mt_eq hr.units (me_call (ok__law_draw T n) (hr.mono (by decide)) (gl_of (by kernel_rfl)) T.m__law_draw T.f__law_draw.kp T.b__law_draw tk (ma_cons (me_var 0 (hv := Or.inl (by kernel_rfl))) (ma_cons me_int ma_nil)) (aLen_cons (aLen_cons aLen_nil))) me_int) (mss_cons (ms_asg (me_call (ok__law_put T n) (hr.mono (by decide)) (gl_of (by kernel_rfl)) T.m__law_put T.f__law_put.kp T.b__law_put tk (ma_cons (me_sub_ix hu (me_var 2 (hv := Or.inl (by kernel_rfl))) (me_str [100] (by decide +kernel)) (fun _ _ => by kernel_rfl)) (ma_cons (me_var 4 (hv := Or.inl (by kernel_rfl))) (ma_cons (me_var 3 (hv := Or.inl (by kernel_rfl))) ma_nil))) (aLen_cons (aLen_cons (aLen_cons aLen_nil)))) (mg_sub hu (me_var 2 (hv := Or.inl (by kernel_rfl))) (me_str [100] (by decide +kernel))))
  (mss_one (ms_ret (me_tup (ma_cons (me_str [112, 117, 116] (by decide +kernel)) (ma_cons (me_tup (ma_cons (me_sub_ix hu (me_var 1 (hv := Or.inl (by kernel_rfl))) (me_str [100] (by decide +kernel)) (fun _ _ => by kernel_rfl)) ma_nil)) (ma_cons (me_var 4 (hv := Or.inl (by kernel_rfl))) (ma_cons (me_var 3 (hv := Or.inl (by kernel_rfl))) ma_nil)))))))) mss_nil)
  (mss_cons (ms_s (i := 5) (hx := Or.inl (by kernel_rfl)) (hf := Or.inr (by kernel_rfl)) sc__law_laid.nd (me_sub_ix hu (me_lst (ma_cons (me_str [97] (by decide +kernel)) (ma_cons (me_str [98] (by decide +kernel)) (ma_cons (me_str [99] (by decide +kernel)) ma_nil)))) (me_call (ok__law_draw T n) (hr.mono (by decide)) (gl_of (by kernel_rfl)) T.m__law_draw T.f__law_draw.kp T.b__law_draw tk (ma_cons (me_var 0 (hv := Or.inl (by kernel_rfl))) (ma_cons me_int ma_nil)) (aLen_cons (aLen_cons aLen_nil))) (fun _ _ => by kernel_rfl)))
  (mss_cons (ms_s (i := 6) (hx := Or.inl (by kernel_rfl)) (hf := Or.inr (by kernel_rfl)) sc__law_laid.nd (me_call (ok__law_put T n) (hr.mono (by decide)) (gl_of (by kernel_rfl)) T.m__law_put T.f__law_put.kp T.b__law_put tk (ma_cons (me_sub_ix hu (me_sub_ix hu (me_sub_ix hu (me_var 2 (hv := Or.inl (by kernel_rfl))) (me_var 5 (hv := Or.inl (by kernel_rfl))) (fun _ _ => by kernel_rfl)) me_int (fun _ _ => by kernel_rfl)) me_int (fun _ _ => by kernel_rfl)) (ma_cons (me_var 4 (hv := Or.inl (by kernel_rfl))) (ma_cons (me_var 3 (hv := Or.inl (by kernel_rfl))) ma_nil))) (aLen_cons (aLen_cons (aLen_cons aLen_nil)))))
  (mss_cons (ms_if (mt_is (me_var 6 (hv := Or.inl (by kernel_rfl))) me_non) (mss_one (ms_asg me_non (mg_sub hu (me_var 2 (hv := Or.inl (by kernel_rfl))) (me_str [100] (by decide +kernel))))) (mss_one (ms_asg (me_call (ok__law_with T n 4) (hr.mono (by decide)) (gl_of (by kernel_rfl)) T.m__law_with T.f__law_with.kp T.b__law_with tk (ma_cons (me_sub_ix hu (me_var 2 (hv := Or.inl (by kernel_rfl))) (me_var 5 (hv := Or.inl (by kernel_rfl))) (fun _ _ => by kernel_rfl)) (ma_cons (me_tup (ma_cons me_int (ma_cons me_int ma_nil))) (ma_cons (me_var 6 (hv := Or.inl (by kernel_rfl))) ma_nil))) (aLen_cons (aLen_cons (aLen_cons aLen_nil)))) (mg_sub hu (me_var 2 (hv := Or.inl (by kernel_rfl))) (me_var 5 (hv := Or.inl (by kernel_rfl)))))))
  (mss_one (ms_ret (me_tup (ma_cons (me_str [112, 117, 116] (by decide +kernel)) (ma_cons (me_tup (ma_cons (me_sub_ix hu (me_var 1 (hv := Or.inl (by kernel_rfl))) (me_var 5 (hv := Or.inl (by kernel_rfl))) (fun _ _ => by kernel_rfl)) (ma_cons (me_str [120] (by decide +kernel)) (ma_cons (me_str [113] (by decide +kernel)) ma_nil)))) (ma_cons (me_var 4 (hv := Or.inl (by kernel_rfl))) (ma_cons (me_var 3 (hv := Or.inl (by kernel_rfl))) ma_nil)))))))))))))
theorem sc__law_deeds : FnScope ["_law_feed_here", "_law_names", "_law_have", "_law_told", "_law_k", "_law_way"] ["_law_feed_here", "_law_names", "_law_have"] (defScope s__law_deeds) := ⟨by kernel_rfl, by kernel_rfl, by kernel_rfl, by decide +kernel, by kernel_rfl, by decide +kernel, by decide +kernel⟩
set_option maxHeartbeats 4000000 in
theorem ok__law_deeds (T : Txt w K mg A) (n : Nat) : FnOk P w K mg base (L2.CX P w) 6 A.a__law_deeds A.d__law_deeds ["_law_feed_here", "_law_names", "_law_have"] (spM K (F__law_deeds n) 3) :=
  def_okF ["_law_feed_here", "_law_names", "_law_have", "_law_told", "_law_k", "_law_way"] ["_law_feed_here", "_law_names", "_law_have"] (b__law_deeds n) (k := 5) (kk := 6) (nn := 3) (g := F__law_deeds n) (by kernel_rfl) (by kernel_rfl) (by kernel_rfl) T.f__law_deeds sc__law_deeds fun cdv Ar outer s H E hr => by
  have hu := hu_of hr
  have tk : Takes (cxOf (L2.CX P w) P w K mg base ["_law_feed_here", "_law_names", "_law_have", "_law_told", "_law_k", "_law_way"] "_law_deeds" (defScope s__law_deeds) A.a__law_deeds cdv Ar outer s H E) (fun c d _ H => E c d H) := takes_of rfl rfl rfl rfl
  exact (mss_cons (ms_s (i := 3) (hx := Or.inl (by kernel_rfl)) (hf := Or.inr (by kernel_rfl)) sc__law_deeds.nd (me_lstN ma_nil))
  (mss_cons (ms_for (passes_of rfl) rfl (mi_range1 (gl_of (by kernel_rfl)) T.z_range (ma_cons (me_add me_int (me_call (ok__law_draw T n) (hr.mono (by decide)) (gl_of (by kernel_rfl)) T.m__law_draw T.f__law_draw.kp T.b__law_draw tk (ma_cons (me_var 0 (hv := Or.inl (by kernel_rfl))) (ma_cons me_int ma_nil)) (aLen_cons (aLen_cons aLen_nil)))) ma_nil)) (mg_n (i := 4) (hx := Or.inl (by kernel_rfl)) (hf := Or.inr (by kernel_rfl)) sc__law_deeds.nd) (mss_cons (ms_s (i := 5) (hx := Or.inl (by kernel_rfl)) (hf := Or.inr (by kernel_rfl)) sc__law_deeds.nd (me_call (ok__law_draw T n) (hr.mono (by decide)) (gl_of (by kernel_rfl)) T.m__law_draw T.f__law_draw.kp T.b__law_draw tk (ma_cons (me_var 0 (hv := Or.inl (by kernel_rfl))) (ma_cons me_int ma_nil)) (aLen_cons (aLen_cons aLen_nil))))
  (mss_cons (ms_if (mt_is (me_sub_ix hu (me_var 2 (hv := Or.inl (by kernel_rfl))) (me_str [100] (by decide +kernel)) (fun _ _ => by kernel_rfl)) me_non) (mss_one (ms_ret (me_var 3 (hv := Or.inl (by kernel_rfl))))) mss_nil)
  (mss_one (ms_if (mt_eq hr.units (me_var 5 (hv := Or.inl (by kernel_rfl))) me_int) (mss_one (ms_expr (me_append (me_var 3 (hv := Or.inl (by kernel_rfl))) (ma_cons (me_call (ok__law_whole T n) (hr.mono (by decide)) (gl_of (by kernel_rfl)) T.m__law_whole T.f__law_whole.kp T.b__law_whole tk (ma_cons (me_var 0 (hv := Or.inl (by kernel_rfl))) (ma_cons (me_var 1 (hv := Or.inl (by kernel_rfl))) (ma_cons (me_var 2 (hv := Or.inl (by kernel_rfl))) ma_nil))) (aLen_cons (aLen_cons (aLen_cons aLen_nil)))) ma_nil)))) (mss_one (ms_if (mt_eq hr.units (me_var 5 (hv := Or.inl (by kernel_rfl))) me_int) (mss_one (ms_expr (me_append (me_var 3 (hv := Or.inl (by kernel_rfl))) (ma_cons (me_call (ok__law_field T n) (hr.mono (by decide)) (gl_of (by kernel_rfl)) T.m__law_field T.f__law_field.kp T.b__law_field tk (ma_cons (me_var 0 (hv := Or.inl (by kernel_rfl))) (ma_cons (me_var 1 (hv := Or.inl (by kernel_rfl))) (ma_cons (me_var 2 (hv := Or.inl (by kernel_rfl))) ma_nil))) (aLen_cons (aLen_cons (aLen_cons aLen_nil)))) ma_nil)))) (mss_one (ms_expr (me_append (me_var 3 (hv := Or.inl (by kernel_rfl))) (ma_cons (me_call (ok__law_laid T n) (hr.mono (by decide)) (gl_of (by kernel_rfl)) T.m__law_laid T.f__law_laid.kp T.b__law_laid tk (ma_cons (me_var 0 (hv := Or.inl (by kernel_rfl))) (ma_cons (me_var 1 (hv := Or.inl (by kernel_rfl))) (ma_cons (me_var 2 (hv := Or.inl (by kernel_rfl))) ma_nil))) (aLen_cons (aLen_cons (aLen_cons aLen_nil)))) ma_nil)))))))))))
  (mss_one (ms_ret (me_var 3 (hv := Or.inl (by kernel_rfl)))))))
theorem sc_law : FnScope ["_law_script", "_law_feed_here", "_law_words", "_law_names", "_law_inner", "_law_outer", "_law_some", "_law_row_here", "_law_have", "_law_body", "_law_last", "_law_kind", "_law_params", "_law_tree", "_law_due", "_law_k"] ["_law_script"] (defScope s_law) := ⟨by kernel_rfl, by kernel_rfl, by kernel_rfl, by decide +kernel, by kernel_rfl, by decide +kernel, by decide +kernel⟩
set_option maxHeartbeats 4000000 in
theorem ok_law (T : Txt w K mg A) (n : Nat) : FnOk P w K mg base (L2.CX P w) 30 A.a_law A.d_law ["_law_script"] (spM K (F_law n) 1) :=
  def_okF ["_law_script", "_law_feed_here", "_law_words", "_law_names", "_law_inner", "_law_outer", "_law_some", "_law_row_here", "_law_have", "_law_body", "_law_last", "_law_kind", "_law_params", "_law_tree", "_law_due", "_law_k"] ["_law_script"] (b_law n) (k := 29) (kk := 16) (nn := 1) (g := F_law n) (by kernel_rfl) (by kernel_rfl) (by kernel_rfl) T.f_law sc_law fun cdv Ar outer s H E hr => by
  have hu := hu_of hr
  have tk : Takes (cxOf (L2.CX P w) P w K mg base ["_law_script", "_law_feed_here", "_law_words", "_law_names", "_law_inner", "_law_outer", "_law_some", "_law_row_here", "_law_have", "_law_body", "_law_last", "_law_kind", "_law_params", "_law_tree", "_law_due", "_law_k"] "law" (defScope s_law) A.a_law cdv Ar outer s H E) (fun c d _ H => E c d H) := takes_of rfl rfl rfl rfl
  exact (mss_cons (ms_s (i := 1) (hx := Or.inr (by kernel_rfl)) (hf := Or.inl (by kernel_rfl)) sc_law.nd (me_call (ok__law_feed T n) (hr.mono (by decide)) (gl_of (by kernel_rfl)) T.m__law_feed T.f__law_feed.kp T.b__law_feed tk (ma_cons (me_var 0 (hv := Or.inl (by kernel_rfl))) ma_nil) (aLen_cons aLen_nil)))
  (mss_cons (ms_s (i := 2) (hx := Or.inl (by kernel_rfl)) (hf := Or.inr (by kernel_rfl)) sc_law.nd (me_sub_ix hu (me_lst (ma_cons (me_lst (ma_cons (me_str [120] (by decide +kernel)) (ma_cons (me_str [120, 120] (by decide +kernel)) (ma_cons (me_str [120, 120, 120] (by decide +kernel)) (ma_cons (me_str [122] (by decide +kernel)) ma_nil))))) (ma_cons (me_lst (ma_cons (me_str [106, 111] (by decide +kernel)) (ma_cons (me_str [106] (by decide +kernel)) (ma_cons (me_str [113] (by decide +kernel)) (ma_cons (me_str [120] (by decide +kernel)) ma_nil))))) ma_nil))) (me_call (ok__law_draw T n) (hr.mono (by decide)) (gl_of (by kernel_rfl)) T.m__law_draw T.f__law_draw.kp T.b__law_draw tk (ma_cons (me_var 1 (hv := Or.inr (Or.inl (by kernel_rfl)))) (ma_cons me_int ma_nil)) (aLen_cons (aLen_cons aLen_nil))) (fun _ _ => by kernel_rfl)))
  (mss_cons (ms_s (i := 3) (hx := Or.inl (by kernel_rfl)) (hf := Or.inr (by kernel_rfl)) sc_law.nd (me_dict (mps_cons (me_str [97] (by decide +kernel)) (me_sub_ix hu (me_var 2 (hv := Or.inl (by kernel_rfl))) me_int (fun _ _ => by kernel_rfl)) (mps_cons (me_str [98] (by decide +kernel)) (me_sub_ix hu (me_var 2 (hv := Or.inl (by kernel_rfl))) me_int (fun _ _ => by kernel_rfl)) (mps_cons (me_str [99] (by decide +kernel)) (me_sub_ix hu (me_var 2 (hv := Or.inl (by kernel_rfl))) me_int (fun _ _ => by kernel_rfl)) (mps_cons (me_str [100] (by decide +kernel)) (me_sub_ix hu (me_var 2 (hv := Or.inl (by kernel_rfl))) me_int (fun _ _ => by kernel_rfl)) mps_nil))))))
  (mss_cons (ms_s (i := 4) (hx := Or.inl (by kernel_rfl)) (hf := Or.inr (by kernel_rfl)) sc_law.nd (me_tup (ma_cons (me_str [105, 110] (by decide +kernel)) (ma_cons (me_tup (ma_cons (me_tup (ma_cons (me_str [122] (by decide +kernel)) (ma_cons (me_str [110, 117, 109] (by decide +kernel)) ma_nil))) (ma_cons (me_tup (ma_cons (me_str [113] (by decide +kernel)) (ma_cons (me_str [114, 111, 119] (by decide +kernel)) ma_nil))) ma_nil))) ma_nil))))
  (mss_cons (ms_s (i := 5) (hx := Or.inl (by kernel_rfl)) (hf := Or.inr (by kernel_rfl)) sc_law.nd (me_tup (ma_cons (me_str [120] (by decide +kernel)) (ma_cons (me_tup (ma_cons (me_tup (ma_cons (me_str [122] (by decide +kernel)) (ma_cons (me_str [110, 117, 109] (by decide +kernel)) ma_nil))) (ma_cons (me_tup (ma_cons (me_str [120] (by decide +kernel)) (ma_cons (me_str [105, 110] (by decide +kernel)) ma_nil))) ma_nil))) ma_nil))))
  (mss_cons (ms_setLc (i := 6) (own := [("_law_k", 15)]) rfl sc_law.nd rfl rfl (sw_true rfl rfl rfl (by decide +kernel)) (mi_range1 (gl_of (by kernel_rfl)) T.z_range (ma_cons me_int ma_nil)) (blkOk_by (by kernel_rfl)) (tgo_name (by decide)) lcV_end (fun _ _ _ _ _ => (pg_n (i := 15) (hx := Or.inl (by kernel_rfl)) (hf := Or.inr (by kernel_rfl)) sc_law.nd)) (fun _ _ _ _ _ => mts_nil) (fun _ _ _ _ _ => (me_tup (ma_cons (me_call (ok__law_number T n) (hr.mono (by decide)) (gl_of (by kernel_rfl)) T.m__law_number T.f__law_number.kp T.b__law_number takes0 (ma_cons (me_var 1 (hv := Or.inr (Or.inl (by kernel_rfl)))) ma_nil) (aLen_cons aLen_nil)) (ma_cons (me_tup (ma_cons (me_call (ok__law_number T n) (hr.mono (by decide)) (gl_of (by kernel_rfl)) T.m__law_number T.f__law_number.kp T.b__law_number takes0 (ma_cons (me_var 1 (hv := Or.inr (Or.inl (by kernel_rfl)))) ma_nil) (aLen_cons aLen_nil)) (ma_cons (me_call (ok__law_row T n) (hr.mono (by decide)) (gl_of (by kernel_rfl)) T.m__law_row T.f__law_row.kp T.b__law_row takes0 (ma_cons (me_var 1 (hv := Or.inr (Or.inl (by kernel_rfl)))) ma_nil) (aLen_cons aLen_nil)) ma_nil))) ma_nil)))))
  (mss_cons (ms_s (i := 7) (hx := Or.inl (by kernel_rfl)) (hf := Or.inr (by kernel_rfl)) sc_law.nd (me_call (ok__law_row T n) (hr.mono (by decide)) (gl_of (by kernel_rfl)) T.m__law_row T.f__law_row.kp T.b__law_row tk (ma_cons (me_var 1 (hv := Or.inr (Or.inl (by kernel_rfl)))) ma_nil) (aLen_cons aLen_nil)))
  (mss_cons (ms_s (i := 8) (hx := Or.inl (by kernel_rfl)) (hf := Or.inr (by kernel_rfl)) sc_law.nd (me_dict (mps_cons (me_str [97] (by decide +kernel)) (me_sub_ix hu (me_var 6 (hv := Or.inl (by kernel_rfl))) me_int (fun _ _ => by kernel_rfl)) (mps_cons (me_str [98] (by decide +kernel)) (me_sub_ix hu (me_var 6 (hv := Or.inl (by kernel_rfl))) me_int (fun _ _ => by kernel_rfl)) (mps_cons (me_str [99] (by decide +kernel)) (me_sub_ix hu (me_var 6 (hv := Or.inl (by kernel_rfl))) me_int (fun _ _ => by kernel_rfl)) (mps_cons (me_str [100] (by decide +kernel)) (me_var 7 (hv := Or.inl (by kernel_rfl))) mps_nil))))))
  (mss_cons (ms_s (i := 9) (hx := Or.inl (by kernel_rfl)) (hf := Or.inr (by kernel_rfl)) sc_law.nd (me_addN (me_lst (ma_cons (me_tup (ma_cons (me_str [108, 101, 116] (by decide +kernel)) (ma_cons (me_sub_ix hu (me_var 3 (hv := Or.inl (by kernel_rfl))) (me_str [99] (by decide +kernel)) (fun _ _ => by kernel_rfl)) (ma_cons (me_tup (ma_cons (me_str [111, 102] (by decide +kernel)) (ma_cons (me_tup (ma_cons (me_sub_ix hu (me_var 3 (hv := Or.inl (by kernel_rfl))) (me_str [98] (by decide +kernel)) (fun _ _ => by kernel_rfl)) ma_nil)) ma_nil))) ma_nil)))) ma_nil)) (me_call (ok__law_deeds T n) (hr.mono (by decide)) (gl_of (by kernel_rfl)) T.m__law_deeds T.f__law_deeds.kp T.b__law_deeds tk (ma_cons (me_var 1 (hv := Or.inr (Or.inl (by kernel_rfl)))) (ma_cons (me_var 3 (hv := Or.inl (by kernel_rfl))) (ma_cons (me_var 8 (hv := Or.inl (by kernel_rfl))) ma_nil))) (aLen_cons (aLen_cons (aLen_cons aLen_nil))))))
  (mss_cons (ms_s (i := 10) (hx := Or.inl (by kernel_rfl)) (hf := Or.inr (by kernel_rfl)) sc_law.nd (me_sub_ix hu (me_lst (ma_cons (me_str [97] (by decide +kernel)) (ma_cons (me_str [98] (by decide +kernel)) (ma_cons (me_str [99] (by decide +kernel)) (ma_cons (me_str [100] (by decide +kernel)) ma_nil))))) (me_call (ok__law_draw T n) (hr.mono (by decide)) (gl_of (by kernel_rfl)) T.m__law_draw T.f__law_draw.kp T.b__law_draw tk (ma_cons (me_var 1 (hv := Or.inr (Or.inl (by kernel_rfl)))) (ma_cons me_int ma_nil)) (aLen_cons (aLen_cons aLen_nil))) (fun _ _ => by kernel_rfl)))
  (mss_cons (ms_s (i := 11) (hx := Or.inl (by kernel_rfl)) (hf := Or.inr (by kernel_rfl)) sc_law.nd (me_sub_ix hu (me_lst (ma_cons (me_str [120] (by decide +kernel)) (ma_cons (me_str [114, 111, 119] (by decide +kernel)) ma_nil))) (me_intOf (gl_of (by kernel_rfl)) T.z_int (ma_cons (me_eq hr.units (me_var 10 (hv := Or.inl (by kernel_rfl))) (me_str [100] (by decide +kernel))) ma_nil)) (fun _ _ => by kernel_rfl)))
  (mss_cons (ms_expr (me_append (me_var 9 (hv := Or.inl (by kernel_rfl))) (ma_cons (me_tup (ma_cons (me_str [103, 105, 118, 101] (by decide +kernel)) (ma_cons (me_tup (ma_cons (me_str [111, 102] (by decide +kernel)) (ma_cons (me_tup (ma_cons (me_sub_ix hu (me_var 3 (hv := Or.inl (by kernel_rfl))) (me_var 10 (hv := Or.inl (by kernel_rfl))) (fun _ _ => by kernel_rfl)) ma_nil)) ma_nil))) ma_nil))) ma_nil)))
  (mss_cons (ms_s (i := 12) (hx := Or.inl (by kernel_rfl)) (hf := Or.inr (by kernel_rfl)) sc_law.nd (me_tup (ma_cons (me_tup (ma_cons (me_sub_ix hu (me_var 3 (hv := Or.inl (by kernel_rfl))) (me_str [97] (by decide +kernel)) (fun _ _ => by kernel_rfl)) (ma_cons (me_str [120] (by decide +kernel)) ma_nil))) (ma_cons (me_tup (ma_cons (me_sub_ix hu (me_var 3 (hv := Or.inl (by kernel_rfl))) (me_str [100] (by decide +kernel)) (fun _ _ => by kernel_rfl)) (ma_cons (me_str [114, 111, 119] (by decide +kernel)) ma_nil))) (ma_cons (me_tup (ma_cons (me_sub_ix hu (me_var 3 (hv := Or.inl (by kernel_rfl))) (me_str [98] (by decide +kernel)) (fun _ _ => by kernel_rfl)) (ma_cons (me_str [120] (by decide +kernel)) ma_nil))) ma_nil)))))
  (mss_cons (ms_s (i := 13) (hx := Or.inl (by kernel_rfl)) (hf := Or.inr (by kernel_rfl)) sc_law.nd (me_tup (ma_cons (me_tup (ma_cons (me_var 4 (hv := Or.inl (by kernel_rfl))) (ma_cons (me_var 5 (hv := Or.inl (by kernel_rfl))) ma_nil))) (ma_cons (me_tup (ma_cons (me_tup (ma_cons (me_str [120] (by decide +kernel)) (ma_cons (me_var 11 (hv := Or.inl (by kernel_rfl))) (ma_cons (me_var 12 (hv := Or.inl (by kernel_rfl))) (ma_cons (me_tupleOf (gl_of (by kernel_rfl)) T.z_tuple (ma_cons (me_var 9 (hv := Or.inl (by kernel_rfl))) ma_nil)) ma_nil))))) ma_nil)) ma_nil))))
  (mss_cons (ms_s (i := 14) (hx := Or.inl (by kernel_rfl)) (hf := Or.inr (by kernel_rfl)) sc_law.nd (me_tup (ma_cons (me_str [102, 97, 117, 108, 116] (by decide +kernel)) (ma_cons (me_str [114, 97, 110, 103, 101] (by decide +kernel)) ma_nil))))
  (mss_cons (ms_if (mt_isnot (me_sub_ix hu (me_var 8 (hv := Or.inl (by kernel_rfl))) (me_str [100] (by decide +kernel)) (fun _ _ => by kernel_rfl)) me_non) (mss_one (ms_s (i := 14) (hx := Or.inl (by kernel_rfl)) (hf := Or.inr (by kernel_rfl)) sc_law.nd (me_tup (ma_cons (me_str [98, 97, 99, 107] (by decide +kernel)) (ma_cons (me_sub_ix hu (me_var 8 (hv := Or.inl (by kernel_rfl))) (me_var 10 (hv := Or.inl (by kernel_rfl))) (fun _ _ => by kernel_rfl)) ma_nil))))) mss_nil)
  (mss_one (ms_ret (me_call (ok__law_same T n 5) (hr.mono (by decide)) (gl_of (by kernel_rfl)) T.m__law_same T.f__law_same.kp T.b__law_same tk (ma_cons (me_call (ok_run_source T n) (hr.mono (by decide)) (gl_of (by kernel_rfl)) T.m_run_source T.f_run_source.kp T.b_run_source tk (ma_cons (me_var 13 (hv := Or.inl (by kernel_rfl))) (ma_cons (me_str [120] (by decide +kernel)) (ma_cons (me_tup (ma_cons (me_sub_ix hu (me_var 6 (hv := Or.inl (by kernel_rfl))) me_int (fun _ _ => by kernel_rfl)) (ma_cons (me_var 7 (hv := Or.inl (by kernel_rfl))) (ma_cons (me_sub_ix hu (me_var 6 (hv := Or.inl (by kernel_rfl))) me_int (fun _ _ => by kernel_rfl)) ma_nil)))) (ma_cons me_int ma_nil)))) (aLen_cons (aLen_cons (aLen_cons (aLen_cons aLen_nil))))) (ma_cons (me_var 14 (hv := Or.inl (by kernel_rfl))) ma_nil)) (aLen_cons (aLen_cons aLen_nil)))))))))))))))))))))
end
set_option maxHeartbeats 8000000 in
theorem all_mk {l : PySem.W.OpenLaw} {w : World} {K : PySem.W.Frag} {h : Heap} {mg : Str → Option Value} {fa f_taken_in f_kinds_of f_divided f_done_sum f_put_at f_done_row f_done f_found_in f_path_kind f_kind_of_expr f_fault_of f_fields_of f_places_of f_value_at f_with_field f_Steps____init__ f_Steps__lay f_Steps__here f_Steps__lay_either f_Steps__lay_expr f_Steps__lay_while f_Steps__lay_if f_Steps__lay_statement f_Steps__lay_body f_Walk____init__ f_Walk__enter f_Walk__tick f_Walk__taken f_Walk__give f_Walk__reckon f_Walk__turn_step f_Walk__reckon_step f_Walk__walked f_run_source f__law_feed f__law_draw f__law_number f__law_row f__law_same f__law_with f__law_put f__law_whole f__law_field f__law_laid f__law_deeds f_law cc_Steps cc_Walk : Addr} (X : K.In h) (G : h.Ns mainGlobals mg) (hfa : mg "law" = some (.ref fa))
    {od_taken_in an_taken_in od_kinds_of an_kinds_of od_divided an_divided od_done_sum an_done_sum od_put_at an_put_at od_done_row an_done_row od_done an_done od_found_in an_found_in od_path_kind an_path_kind od_kind_of_expr an_kind_of_expr od_fault_of an_fault_of od_fields_of an_fields_of od_places_of an_places_of od_value_at an_value_at od_with_field an_with_field od_Steps____init__ an_Steps____init__ od_Steps__lay an_Steps__lay od_Steps__here an_Steps__here od_Steps__lay_either an_Steps__lay_either od_Steps__lay_expr an_Steps__lay_expr od_Steps__lay_while an_Steps__lay_while od_Steps__lay_if an_Steps__lay_if od_Steps__lay_statement an_Steps__lay_statement od_Steps__lay_body an_Steps__lay_body od_Walk____init__ an_Walk____init__ od_Walk__enter an_Walk__enter od_Walk__tick an_Walk__tick od_Walk__taken an_Walk__taken od_Walk__give an_Walk__give od_Walk__reckon an_Walk__reckon od_Walk__turn_step an_Walk__turn_step od_Walk__reckon_step an_Walk__reckon_step od_Walk__walked an_Walk__walked od_run_source an_run_source od__law_feed an__law_feed od__law_draw an__law_draw od__law_number an__law_number od__law_row an__law_row od__law_same an__law_same od__law_with an__law_with od__law_put an__law_put od__law_whole an__law_whole od__law_field an__law_field od__law_laid an__law_laid od__law_deeds an__law_deeds od_law an_law : Option Addr} {sl_taken_in sl_kinds_of sl_divided sl_done_sum sl_put_at sl_done_row sl_done sl_found_in sl_path_kind sl_kind_of_expr sl_fault_of sl_fields_of sl_places_of sl_value_at sl_with_field sl_Steps____init__ sl_Steps__lay sl_Steps__here sl_Steps__lay_either sl_Steps__lay_expr sl_Steps__lay_while sl_Steps__lay_if sl_Steps__lay_statement sl_Steps__lay_body sl_Walk____init__ sl_Walk__enter sl_Walk__tick sl_Walk__taken sl_Walk__give sl_Walk__reckon sl_Walk__turn_step sl_Walk__reckon_step sl_Walk__walked sl_run_source sl__law_feed sl__law_draw sl__law_number sl__law_row sl__law_same sl__law_with sl__law_put sl__law_whole sl__law_field sl__law_laid sl__law_deeds sl_law : Array (Option Value)} {oc_taken_in kV_taken_in dc_taken_in pm_taken_in cd_taken_in ct_taken_in oc_kinds_of kV_kinds_of dc_kinds_of pm_kinds_of cd_kinds_of ct_kinds_of oc_divided kV_divided dc_divided pm_divided cd_divided ct_divided oc_done_sum kV_done_sum dc_done_sum pm_done_sum cd_done_sum ct_done_sum oc_put_at kV_put_at dc_put_at pm_put_at cd_put_at ct_put_at oc_done_row kV_done_row dc_done_row pm_done_row cd_done_row ct_done_row oc_done kV_done dc_done pm_done cd_done ct_done oc_found_in kV_found_in dc_found_in pm_found_in cd_found_in ct_found_in oc_path_kind kV_path_kind dc_path_kind pm_path_kind cd_path_kind ct_path_kind oc_kind_of_expr kV_kind_of_expr dc_kind_of_expr pm_kind_of_expr cd_kind_of_expr ct_kind_of_expr oc_fault_of kV_fault_of dc_fault_of pm_fault_of cd_fault_of ct_fault_of oc_fields_of kV_fields_of dc_fields_of pm_fields_of cd_fields_of ct_fields_of oc_places_of kV_places_of dc_places_of pm_places_of cd_places_of ct_places_of oc_value_at kV_value_at dc_value_at pm_value_at cd_value_at ct_value_at oc_with_field kV_with_field dc_with_field pm_with_field cd_with_field ct_with_field oc_Steps____init__ kV_Steps____init__ dc_Steps____init__ pm_Steps____init__ cd_Steps____init__ ct_Steps____init__ oc_Steps__lay kV_Steps__lay dc_Steps__lay pm_Steps__lay cd_Steps__lay ct_Steps__lay oc_Steps__here kV_Steps__here dc_Steps__here pm_Steps__here cd_Steps__here ct_Steps__here oc_Steps__lay_either kV_Steps__lay_either dc_Steps__lay_either pm_Steps__lay_either cd_Steps__lay_either ct_Steps__lay_either oc_Steps__lay_expr kV_Steps__lay_expr dc_Steps__lay_expr pm_Steps__lay_expr cd_Steps__lay_expr ct_Steps__lay_expr oc_Steps__lay_while kV_Steps__lay_while dc_Steps__lay_while pm_Steps__lay_while cd_Steps__lay_while ct_Steps__lay_while oc_Steps__lay_if kV_Steps__lay_if dc_Steps__lay_if pm_Steps__lay_if cd_Steps__lay_if ct_Steps__lay_if oc_Steps__lay_statement kV_Steps__lay_statement dc_Steps__lay_statement pm_Steps__lay_statement cd_Steps__lay_statement ct_Steps__lay_statement oc_Steps__lay_body kV_Steps__lay_body dc_Steps__lay_body pm_Steps__lay_body cd_Steps__lay_body ct_Steps__lay_body oc_Walk____init__ kV_Walk____init__ dc_Walk____init__ pm_Walk____init__ cd_Walk____init__ ct_Walk____init__ oc_Walk__enter kV_Walk__enter dc_Walk__enter pm_Walk__enter cd_Walk__enter ct_Walk__enter oc_Walk__tick kV_Walk__tick dc_Walk__tick pm_Walk__tick cd_Walk__tick ct_Walk__tick oc_Walk__taken kV_Walk__taken dc_Walk__taken pm_Walk__taken cd_Walk__taken ct_Walk__taken oc_Walk__give kV_Walk__give dc_Walk__give pm_Walk__give cd_Walk__give ct_Walk__give oc_Walk__reckon kV_Walk__reckon dc_Walk__reckon pm_Walk__reckon cd_Walk__reckon ct_Walk__reckon oc_Walk__turn_step kV_Walk__turn_step dc_Walk__turn_step pm_Walk__turn_step cd_Walk__turn_step ct_Walk__turn_step oc_Walk__reckon_step kV_Walk__reckon_step dc_Walk__reckon_step pm_Walk__reckon_step cd_Walk__reckon_step ct_Walk__reckon_step oc_Walk__walked kV_Walk__walked dc_Walk__walked pm_Walk__walked cd_Walk__walked ct_Walk__walked oc_run_source kV_run_source dc_run_source pm_run_source cd_run_source ct_run_source oc__law_feed kV__law_feed dc__law_feed pm__law_feed cd__law_feed ct__law_feed oc__law_draw kV__law_draw dc__law_draw pm__law_draw cd__law_draw ct__law_draw oc__law_number kV__law_number dc__law_number pm__law_number cd__law_number ct__law_number oc__law_row kV__law_row dc__law_row pm__law_row cd__law_row ct__law_row oc__law_same kV__law_same dc__law_same pm__law_same cd__law_same ct__law_same oc__law_with kV__law_with dc__law_with pm__law_with cd__law_with ct__law_with oc__law_put kV__law_put dc__law_put pm__law_put cd__law_put ct__law_put oc__law_whole kV__law_whole dc__law_whole pm__law_whole cd__law_whole ct__law_whole oc__law_field kV__law_field dc__law_field pm__law_field cd__law_field ct__law_field oc__law_laid kV__law_laid dc__law_laid pm__law_laid cd__law_laid ct__law_laid oc__law_deeds kV__law_deeds dc__law_deeds pm__law_deeds cd__law_deeds ct__law_deeds oc_law kV_law dc_law pm_law cd_law ct_law : Value}
    {t_LEAST t_LONGEST t_TURN : Tok}
    {ad_COUNTED ad_KIND_OF ad_OPERATIONS : Addr} {es_COUNTED es_KIND_OF es_OPERATIONS : Array DictEntry} {n_COUNTED n_KIND_OF n_OPERATIONS : Nat}
    (a_Steps : PySem.W.nsIn K mainGlobals "Steps" = some (some (.ref cc_Steps)))
    (a_Walk : PySem.W.nsIn K mainGlobals "Walk" = some (some (.ref cc_Walk)))
    (a_taken_in : PySem.W.nsIn K mainGlobals "taken_in" = some (some (.ref f_taken_in))) (l_taken_in : K.lookup f_taken_in = some ⟨oc_taken_in, od_taken_in, .func (PySem.W.fnOf "taken_in" "taken_in" (defArgs s_taken_in) (defBody s_taken_in) (defScope s_taken_in) .none kV_taken_in dc_taken_in pm_taken_in an_taken_in cd_taken_in ct_taken_in), sl_taken_in⟩) (c_taken_in : PySem.W.codeIn K cd_taken_in "taken_in" = true) (k_taken_in : PySem.W.keepIn K (.ref f_taken_in) = true)
    (a_kinds_of : PySem.W.nsIn K mainGlobals "kinds_of" = some (some (.ref f_kinds_of))) (l_kinds_of : K.lookup f_kinds_of = some ⟨oc_kinds_of, od_kinds_of, .func (PySem.W.fnOf "kinds_of" "kinds_of" (defArgs s_kinds_of) (defBody s_kinds_of) (defScope s_kinds_of) .none kV_kinds_of dc_kinds_of pm_kinds_of an_kinds_of cd_kinds_of ct_kinds_of), sl_kinds_of⟩) (c_kinds_of : PySem.W.codeIn K cd_kinds_of "kinds_of" = true) (k_kinds_of : PySem.W.keepIn K (.ref f_kinds_of) = true)
    (a_divided : PySem.W.nsIn K mainGlobals "divided" = some (some (.ref f_divided))) (l_divided : K.lookup f_divided = some ⟨oc_divided, od_divided, .func (PySem.W.fnOf "divided" "divided" (defArgs s_divided) (defBody s_divided) (defScope s_divided) .none kV_divided dc_divided pm_divided an_divided cd_divided ct_divided), sl_divided⟩) (c_divided : PySem.W.codeIn K cd_divided "divided" = true) (k_divided : PySem.W.keepIn K (.ref f_divided) = true)
    (a_done_sum : PySem.W.nsIn K mainGlobals "done_sum" = some (some (.ref f_done_sum))) (l_done_sum : K.lookup f_done_sum = some ⟨oc_done_sum, od_done_sum, .func (PySem.W.fnOf "done_sum" "done_sum" (defArgs s_done_sum) (defBody s_done_sum) (defScope s_done_sum) .none kV_done_sum dc_done_sum pm_done_sum an_done_sum cd_done_sum ct_done_sum), sl_done_sum⟩) (c_done_sum : PySem.W.codeIn K cd_done_sum "done_sum" = true) (k_done_sum : PySem.W.keepIn K (.ref f_done_sum) = true)
    (a_put_at : PySem.W.nsIn K mainGlobals "put_at" = some (some (.ref f_put_at))) (l_put_at : K.lookup f_put_at = some ⟨oc_put_at, od_put_at, .func (PySem.W.fnOf "put_at" "put_at" (defArgs s_put_at) (defBody s_put_at) (defScope s_put_at) .none kV_put_at dc_put_at pm_put_at an_put_at cd_put_at ct_put_at), sl_put_at⟩) (c_put_at : PySem.W.codeIn K cd_put_at "put_at" = true) (k_put_at : PySem.W.keepIn K (.ref f_put_at) = true)
    (a_done_row : PySem.W.nsIn K mainGlobals "done_row" = some (some (.ref f_done_row))) (l_done_row : K.lookup f_done_row = some ⟨oc_done_row, od_done_row, .func (PySem.W.fnOf "done_row" "done_row" (defArgs s_done_row) (defBody s_done_row) (defScope s_done_row) .none kV_done_row dc_done_row pm_done_row an_done_row cd_done_row ct_done_row), sl_done_row⟩) (c_done_row : PySem.W.codeIn K cd_done_row "done_row" = true) (k_done_row : PySem.W.keepIn K (.ref f_done_row) = true)
    (a_done : PySem.W.nsIn K mainGlobals "done" = some (some (.ref f_done))) (l_done : K.lookup f_done = some ⟨oc_done, od_done, .func (PySem.W.fnOf "done" "done" (defArgs s_done) (defBody s_done) (defScope s_done) .none kV_done dc_done pm_done an_done cd_done ct_done), sl_done⟩) (c_done : PySem.W.codeIn K cd_done "done" = true) (k_done : PySem.W.keepIn K (.ref f_done) = true)
    (a_found_in : PySem.W.nsIn K mainGlobals "found_in" = some (some (.ref f_found_in))) (l_found_in : K.lookup f_found_in = some ⟨oc_found_in, od_found_in, .func (PySem.W.fnOf "found_in" "found_in" (defArgs s_found_in) (defBody s_found_in) (defScope s_found_in) .none kV_found_in dc_found_in pm_found_in an_found_in cd_found_in ct_found_in), sl_found_in⟩) (c_found_in : PySem.W.codeIn K cd_found_in "found_in" = true) (k_found_in : PySem.W.keepIn K (.ref f_found_in) = true)
    (a_path_kind : PySem.W.nsIn K mainGlobals "path_kind" = some (some (.ref f_path_kind))) (l_path_kind : K.lookup f_path_kind = some ⟨oc_path_kind, od_path_kind, .func (PySem.W.fnOf "path_kind" "path_kind" (defArgs s_path_kind) (defBody s_path_kind) (defScope s_path_kind) .none kV_path_kind dc_path_kind pm_path_kind an_path_kind cd_path_kind ct_path_kind), sl_path_kind⟩) (c_path_kind : PySem.W.codeIn K cd_path_kind "path_kind" = true) (k_path_kind : PySem.W.keepIn K (.ref f_path_kind) = true)
    (a_kind_of_expr : PySem.W.nsIn K mainGlobals "kind_of_expr" = some (some (.ref f_kind_of_expr))) (l_kind_of_expr : K.lookup f_kind_of_expr = some ⟨oc_kind_of_expr, od_kind_of_expr, .func (PySem.W.fnOf "kind_of_expr" "kind_of_expr" (defArgs s_kind_of_expr) (defBody s_kind_of_expr) (defScope s_kind_of_expr) .none kV_kind_of_expr dc_kind_of_expr pm_kind_of_expr an_kind_of_expr cd_kind_of_expr ct_kind_of_expr), sl_kind_of_expr⟩) (c_kind_of_expr : PySem.W.codeIn K cd_kind_of_expr "kind_of_expr" = true) (k_kind_of_expr : PySem.W.keepIn K (.ref f_kind_of_expr) = true)
    (a_fault_of : PySem.W.nsIn K mainGlobals "fault_of" = some (some (.ref f_fault_of))) (l_fault_of : K.lookup f_fault_of = some ⟨oc_fault_of, od_fault_of, .func (PySem.W.fnOf "fault_of" "fault_of" (defArgs s_fault_of) (defBody s_fault_of) (defScope s_fault_of) .none kV_fault_of dc_fault_of pm_fault_of an_fault_of cd_fault_of ct_fault_of), sl_fault_of⟩) (c_fault_of : PySem.W.codeIn K cd_fault_of "fault_of" = true) (k_fault_of : PySem.W.keepIn K (.ref f_fault_of) = true)
    (a_fields_of : PySem.W.nsIn K mainGlobals "fields_of" = some (some (.ref f_fields_of))) (l_fields_of : K.lookup f_fields_of = some ⟨oc_fields_of, od_fields_of, .func (PySem.W.fnOf "fields_of" "fields_of" (defArgs s_fields_of) (defBody s_fields_of) (defScope s_fields_of) .none kV_fields_of dc_fields_of pm_fields_of an_fields_of cd_fields_of ct_fields_of), sl_fields_of⟩) (c_fields_of : PySem.W.codeIn K cd_fields_of "fields_of" = true) (k_fields_of : PySem.W.keepIn K (.ref f_fields_of) = true)
    (a_places_of : PySem.W.nsIn K mainGlobals "places_of" = some (some (.ref f_places_of))) (l_places_of : K.lookup f_places_of = some ⟨oc_places_of, od_places_of, .func (PySem.W.fnOf "places_of" "places_of" (defArgs s_places_of) (defBody s_places_of) (defScope s_places_of) .none kV_places_of dc_places_of pm_places_of an_places_of cd_places_of ct_places_of), sl_places_of⟩) (c_places_of : PySem.W.codeIn K cd_places_of "places_of" = true) (k_places_of : PySem.W.keepIn K (.ref f_places_of) = true)
    (a_value_at : PySem.W.nsIn K mainGlobals "value_at" = some (some (.ref f_value_at))) (l_value_at : K.lookup f_value_at = some ⟨oc_value_at, od_value_at, .func (PySem.W.fnOf "value_at" "value_at" (defArgs s_value_at) (defBody s_value_at) (defScope s_value_at) .none kV_value_at dc_value_at pm_value_at an_value_at cd_value_at ct_value_at), sl_value_at⟩) (c_value_at : PySem.W.codeIn K cd_value_at "value_at" = true) (k_value_at : PySem.W.keepIn K (.ref f_value_at) = true)
    (a_with_field : PySem.W.nsIn K mainGlobals "with_field" = some (some (.ref f_with_field))) (l_with_field : K.lookup f_with_field = some ⟨oc_with_field, od_with_field, .func (PySem.W.fnOf "with_field" "with_field" (defArgs s_with_field) (defBody s_with_field) (defScope s_with_field) .none kV_with_field dc_with_field pm_with_field an_with_field cd_with_field ct_with_field), sl_with_field⟩) (c_with_field : PySem.W.codeIn K cd_with_field "with_field" = true) (k_with_field : PySem.W.keepIn K (.ref f_with_field) = true)
    (a_Steps____init__ : PySem.W.findIn K (.ref cc_Steps) "__init__" = some (some (.ref f_Steps____init__))) (i_Steps____init__ : PySem.W.isFn K (.ref f_Steps____init__) = true) (l_Steps____init__ : K.lookup f_Steps____init__ = some ⟨oc_Steps____init__, od_Steps____init__, .func (PySem.W.fnOf "__init__" "Steps.__init__" (defArgs s_Steps____init__) (defBody s_Steps____init__) (defScope s_Steps____init__) .none kV_Steps____init__ dc_Steps____init__ pm_Steps____init__ an_Steps____init__ cd_Steps____init__ ct_Steps____init__), sl_Steps____init__⟩) (c_Steps____init__ : PySem.W.codeIn K cd_Steps____init__ "Steps.__init__" = true) (k_Steps____init__ : PySem.W.keepIn K (.ref f_Steps____init__) = true)
    (a_Steps__lay : PySem.W.findIn K (.ref cc_Steps) "lay" = some (some (.ref f_Steps__lay))) (i_Steps__lay : PySem.W.isFn K (.ref f_Steps__lay) = true) (l_Steps__lay : K.lookup f_Steps__lay = some ⟨oc_Steps__lay, od_Steps__lay, .func (PySem.W.fnOf "lay" "Steps.lay" (defArgs s_Steps__lay) (defBody s_Steps__lay) (defScope s_Steps__lay) .none kV_Steps__lay dc_Steps__lay pm_Steps__lay an_Steps__lay cd_Steps__lay ct_Steps__lay), sl_Steps__lay⟩) (c_Steps__lay : PySem.W.codeIn K cd_Steps__lay "Steps.lay" = true) (k_Steps__lay : PySem.W.keepIn K (.ref f_Steps__lay) = true)
    (a_Steps__here : PySem.W.findIn K (.ref cc_Steps) "here" = some (some (.ref f_Steps__here))) (i_Steps__here : PySem.W.isFn K (.ref f_Steps__here) = true) (l_Steps__here : K.lookup f_Steps__here = some ⟨oc_Steps__here, od_Steps__here, .func (PySem.W.fnOf "here" "Steps.here" (defArgs s_Steps__here) (defBody s_Steps__here) (defScope s_Steps__here) .none kV_Steps__here dc_Steps__here pm_Steps__here an_Steps__here cd_Steps__here ct_Steps__here), sl_Steps__here⟩) (c_Steps__here : PySem.W.codeIn K cd_Steps__here "Steps.here" = true) (k_Steps__here : PySem.W.keepIn K (.ref f_Steps__here) = true)
    (a_Steps__lay_either : PySem.W.findIn K (.ref cc_Steps) "lay_either" = some (some (.ref f_Steps__lay_either))) (i_Steps__lay_either : PySem.W.isFn K (.ref f_Steps__lay_either) = true) (l_Steps__lay_either : K.lookup f_Steps__lay_either = some ⟨oc_Steps__lay_either, od_Steps__lay_either, .func (PySem.W.fnOf "lay_either" "Steps.lay_either" (defArgs s_Steps__lay_either) (defBody s_Steps__lay_either) (defScope s_Steps__lay_either) .none kV_Steps__lay_either dc_Steps__lay_either pm_Steps__lay_either an_Steps__lay_either cd_Steps__lay_either ct_Steps__lay_either), sl_Steps__lay_either⟩) (c_Steps__lay_either : PySem.W.codeIn K cd_Steps__lay_either "Steps.lay_either" = true) (k_Steps__lay_either : PySem.W.keepIn K (.ref f_Steps__lay_either) = true)
    (a_Steps__lay_expr : PySem.W.findIn K (.ref cc_Steps) "lay_expr" = some (some (.ref f_Steps__lay_expr))) (i_Steps__lay_expr : PySem.W.isFn K (.ref f_Steps__lay_expr) = true) (l_Steps__lay_expr : K.lookup f_Steps__lay_expr = some ⟨oc_Steps__lay_expr, od_Steps__lay_expr, .func (PySem.W.fnOf "lay_expr" "Steps.lay_expr" (defArgs s_Steps__lay_expr) (defBody s_Steps__lay_expr) (defScope s_Steps__lay_expr) .none kV_Steps__lay_expr dc_Steps__lay_expr pm_Steps__lay_expr an_Steps__lay_expr cd_Steps__lay_expr ct_Steps__lay_expr), sl_Steps__lay_expr⟩) (c_Steps__lay_expr : PySem.W.codeIn K cd_Steps__lay_expr "Steps.lay_expr" = true) (k_Steps__lay_expr : PySem.W.keepIn K (.ref f_Steps__lay_expr) = true)
    (a_Steps__lay_while : PySem.W.findIn K (.ref cc_Steps) "lay_while" = some (some (.ref f_Steps__lay_while))) (i_Steps__lay_while : PySem.W.isFn K (.ref f_Steps__lay_while) = true) (l_Steps__lay_while : K.lookup f_Steps__lay_while = some ⟨oc_Steps__lay_while, od_Steps__lay_while, .func (PySem.W.fnOf "lay_while" "Steps.lay_while" (defArgs s_Steps__lay_while) (defBody s_Steps__lay_while) (defScope s_Steps__lay_while) .none kV_Steps__lay_while dc_Steps__lay_while pm_Steps__lay_while an_Steps__lay_while cd_Steps__lay_while ct_Steps__lay_while), sl_Steps__lay_while⟩) (c_Steps__lay_while : PySem.W.codeIn K cd_Steps__lay_while "Steps.lay_while" = true) (k_Steps__lay_while : PySem.W.keepIn K (.ref f_Steps__lay_while) = true)
    (a_Steps__lay_if : PySem.W.findIn K (.ref cc_Steps) "lay_if" = some (some (.ref f_Steps__lay_if))) (i_Steps__lay_if : PySem.W.isFn K (.ref f_Steps__lay_if) = true) (l_Steps__lay_if : K.lookup f_Steps__lay_if = some ⟨oc_Steps__lay_if, od_Steps__lay_if, .func (PySem.W.fnOf "lay_if" "Steps.lay_if" (defArgs s_Steps__lay_if) (defBody s_Steps__lay_if) (defScope s_Steps__lay_if) .none kV_Steps__lay_if dc_Steps__lay_if pm_Steps__lay_if an_Steps__lay_if cd_Steps__lay_if ct_Steps__lay_if), sl_Steps__lay_if⟩) (c_Steps__lay_if : PySem.W.codeIn K cd_Steps__lay_if "Steps.lay_if" = true) (k_Steps__lay_if : PySem.W.keepIn K (.ref f_Steps__lay_if) = true)
    (a_Steps__lay_statement : PySem.W.findIn K (.ref cc_Steps) "lay_statement" = some (some (.ref f_Steps__lay_statement))) (i_Steps__lay_statement : PySem.W.isFn K (.ref f_Steps__lay_statement) = true) (l_Steps__lay_statement : K.lookup f_Steps__lay_statement = some ⟨oc_Steps__lay_statement, od_Steps__lay_statement, .func (PySem.W.fnOf "lay_statement" "Steps.lay_statement" (defArgs s_Steps__lay_statement) (defBody s_Steps__lay_statement) (defScope s_Steps__lay_statement) .none kV_Steps__lay_statement dc_Steps__lay_statement pm_Steps__lay_statement an_Steps__lay_statement cd_Steps__lay_statement ct_Steps__lay_statement), sl_Steps__lay_statement⟩) (c_Steps__lay_statement : PySem.W.codeIn K cd_Steps__lay_statement "Steps.lay_statement" = true) (k_Steps__lay_statement : PySem.W.keepIn K (.ref f_Steps__lay_statement) = true)
    (a_Steps__lay_body : PySem.W.findIn K (.ref cc_Steps) "lay_body" = some (some (.ref f_Steps__lay_body))) (i_Steps__lay_body : PySem.W.isFn K (.ref f_Steps__lay_body) = true) (l_Steps__lay_body : K.lookup f_Steps__lay_body = some ⟨oc_Steps__lay_body, od_Steps__lay_body, .func (PySem.W.fnOf "lay_body" "Steps.lay_body" (defArgs s_Steps__lay_body) (defBody s_Steps__lay_body) (defScope s_Steps__lay_body) .none kV_Steps__lay_body dc_Steps__lay_body pm_Steps__lay_body an_Steps__lay_body cd_Steps__lay_body ct_Steps__lay_body), sl_Steps__lay_body⟩) (c_Steps__lay_body : PySem.W.codeIn K cd_Steps__lay_body "Steps.lay_body" = true) (k_Steps__lay_body : PySem.W.keepIn K (.ref f_Steps__lay_body) = true)
    (a_Walk____init__ : PySem.W.findIn K (.ref cc_Walk) "__init__" = some (some (.ref f_Walk____init__))) (i_Walk____init__ : PySem.W.isFn K (.ref f_Walk____init__) = true) (l_Walk____init__ : K.lookup f_Walk____init__ = some ⟨oc_Walk____init__, od_Walk____init__, .func (PySem.W.fnOf "__init__" "Walk.__init__" (defArgs s_Walk____init__) (defBody s_Walk____init__) (defScope s_Walk____init__) .none kV_Walk____init__ dc_Walk____init__ pm_Walk____init__ an_Walk____init__ cd_Walk____init__ ct_Walk____init__), sl_Walk____init__⟩) (c_Walk____init__ : PySem.W.codeIn K cd_Walk____init__ "Walk.__init__" = true) (k_Walk____init__ : PySem.W.keepIn K (.ref f_Walk____init__) = true)
    (a_Walk__enter : PySem.W.findIn K (.ref cc_Walk) "enter" = some (some (.ref f_Walk__enter))) (i_Walk__enter : PySem.W.isFn K (.ref f_Walk__enter) = true) (l_Walk__enter : K.lookup f_Walk__enter = some ⟨oc_Walk__enter, od_Walk__enter, .func (PySem.W.fnOf "enter" "Walk.enter" (defArgs s_Walk__enter) (defBody s_Walk__enter) (defScope s_Walk__enter) .none kV_Walk__enter dc_Walk__enter pm_Walk__enter an_Walk__enter cd_Walk__enter ct_Walk__enter), sl_Walk__enter⟩) (c_Walk__enter : PySem.W.codeIn K cd_Walk__enter "Walk.enter" = true) (k_Walk__enter : PySem.W.keepIn K (.ref f_Walk__enter) = true)
    (a_Walk__tick : PySem.W.findIn K (.ref cc_Walk) "tick" = some (some (.ref f_Walk__tick))) (i_Walk__tick : PySem.W.isFn K (.ref f_Walk__tick) = true) (l_Walk__tick : K.lookup f_Walk__tick = some ⟨oc_Walk__tick, od_Walk__tick, .func (PySem.W.fnOf "tick" "Walk.tick" (defArgs s_Walk__tick) (defBody s_Walk__tick) (defScope s_Walk__tick) .none kV_Walk__tick dc_Walk__tick pm_Walk__tick an_Walk__tick cd_Walk__tick ct_Walk__tick), sl_Walk__tick⟩) (c_Walk__tick : PySem.W.codeIn K cd_Walk__tick "Walk.tick" = true) (k_Walk__tick : PySem.W.keepIn K (.ref f_Walk__tick) = true)
    (a_Walk__taken : PySem.W.findIn K (.ref cc_Walk) "taken" = some (some (.ref f_Walk__taken))) (i_Walk__taken : PySem.W.isFn K (.ref f_Walk__taken) = true) (l_Walk__taken : K.lookup f_Walk__taken = some ⟨oc_Walk__taken, od_Walk__taken, .func (PySem.W.fnOf "taken" "Walk.taken" (defArgs s_Walk__taken) (defBody s_Walk__taken) (defScope s_Walk__taken) .none kV_Walk__taken dc_Walk__taken pm_Walk__taken an_Walk__taken cd_Walk__taken ct_Walk__taken), sl_Walk__taken⟩) (c_Walk__taken : PySem.W.codeIn K cd_Walk__taken "Walk.taken" = true) (k_Walk__taken : PySem.W.keepIn K (.ref f_Walk__taken) = true)
    (a_Walk__give : PySem.W.findIn K (.ref cc_Walk) "give" = some (some (.ref f_Walk__give))) (i_Walk__give : PySem.W.isFn K (.ref f_Walk__give) = true) (l_Walk__give : K.lookup f_Walk__give = some ⟨oc_Walk__give, od_Walk__give, .func (PySem.W.fnOf "give" "Walk.give" (defArgs s_Walk__give) (defBody s_Walk__give) (defScope s_Walk__give) .none kV_Walk__give dc_Walk__give pm_Walk__give an_Walk__give cd_Walk__give ct_Walk__give), sl_Walk__give⟩) (c_Walk__give : PySem.W.codeIn K cd_Walk__give "Walk.give" = true) (k_Walk__give : PySem.W.keepIn K (.ref f_Walk__give) = true)
    (a_Walk__reckon : PySem.W.findIn K (.ref cc_Walk) "reckon" = some (some (.ref f_Walk__reckon))) (i_Walk__reckon : PySem.W.isFn K (.ref f_Walk__reckon) = true) (l_Walk__reckon : K.lookup f_Walk__reckon = some ⟨oc_Walk__reckon, od_Walk__reckon, .func (PySem.W.fnOf "reckon" "Walk.reckon" (defArgs s_Walk__reckon) (defBody s_Walk__reckon) (defScope s_Walk__reckon) .none kV_Walk__reckon dc_Walk__reckon pm_Walk__reckon an_Walk__reckon cd_Walk__reckon ct_Walk__reckon), sl_Walk__reckon⟩) (c_Walk__reckon : PySem.W.codeIn K cd_Walk__reckon "Walk.reckon" = true) (k_Walk__reckon : PySem.W.keepIn K (.ref f_Walk__reckon) = true)
    (a_Walk__turn_step : PySem.W.findIn K (.ref cc_Walk) "turn_step" = some (some (.ref f_Walk__turn_step))) (i_Walk__turn_step : PySem.W.isFn K (.ref f_Walk__turn_step) = true) (l_Walk__turn_step : K.lookup f_Walk__turn_step = some ⟨oc_Walk__turn_step, od_Walk__turn_step, .func (PySem.W.fnOf "turn_step" "Walk.turn_step" (defArgs s_Walk__turn_step) (defBody s_Walk__turn_step) (defScope s_Walk__turn_step) .none kV_Walk__turn_step dc_Walk__turn_step pm_Walk__turn_step an_Walk__turn_step cd_Walk__turn_step ct_Walk__turn_step), sl_Walk__turn_step⟩) (c_Walk__turn_step : PySem.W.codeIn K cd_Walk__turn_step "Walk.turn_step" = true) (k_Walk__turn_step : PySem.W.keepIn K (.ref f_Walk__turn_step) = true)
    (a_Walk__reckon_step : PySem.W.findIn K (.ref cc_Walk) "reckon_step" = some (some (.ref f_Walk__reckon_step))) (i_Walk__reckon_step : PySem.W.isFn K (.ref f_Walk__reckon_step) = true) (l_Walk__reckon_step : K.lookup f_Walk__reckon_step = some ⟨oc_Walk__reckon_step, od_Walk__reckon_step, .func (PySem.W.fnOf "reckon_step" "Walk.reckon_step" (defArgs s_Walk__reckon_step) (defBody s_Walk__reckon_step) (defScope s_Walk__reckon_step) .none kV_Walk__reckon_step dc_Walk__reckon_step pm_Walk__reckon_step an_Walk__reckon_step cd_Walk__reckon_step ct_Walk__reckon_step), sl_Walk__reckon_step⟩) (c_Walk__reckon_step : PySem.W.codeIn K cd_Walk__reckon_step "Walk.reckon_step" = true) (k_Walk__reckon_step : PySem.W.keepIn K (.ref f_Walk__reckon_step) = true)
    (a_Walk__walked : PySem.W.findIn K (.ref cc_Walk) "walked" = some (some (.ref f_Walk__walked))) (i_Walk__walked : PySem.W.isFn K (.ref f_Walk__walked) = true) (l_Walk__walked : K.lookup f_Walk__walked = some ⟨oc_Walk__walked, od_Walk__walked, .func (PySem.W.fnOf "walked" "Walk.walked" (defArgs s_Walk__walked) (defBody s_Walk__walked) (defScope s_Walk__walked) .none kV_Walk__walked dc_Walk__walked pm_Walk__walked an_Walk__walked cd_Walk__walked ct_Walk__walked), sl_Walk__walked⟩) (c_Walk__walked : PySem.W.codeIn K cd_Walk__walked "Walk.walked" = true) (k_Walk__walked : PySem.W.keepIn K (.ref f_Walk__walked) = true)
    (a_run_source : PySem.W.nsIn K mainGlobals "run_source" = some (some (.ref f_run_source))) (l_run_source : K.lookup f_run_source = some ⟨oc_run_source, od_run_source, .func (PySem.W.fnOf "run_source" "run_source" (defArgs s_run_source) (defBody s_run_source) (defScope s_run_source) .none kV_run_source dc_run_source pm_run_source an_run_source cd_run_source ct_run_source), sl_run_source⟩) (c_run_source : PySem.W.codeIn K cd_run_source "run_source" = true) (k_run_source : PySem.W.keepIn K (.ref f_run_source) = true)
    (a__law_feed : PySem.W.nsIn K mainGlobals "_law_feed" = some (some (.ref f__law_feed))) (l__law_feed : K.lookup f__law_feed = some ⟨oc__law_feed, od__law_feed, .func (PySem.W.fnOf "_law_feed" "_law_feed" (defArgs s__law_feed) (defBody s__law_feed) (defScope s__law_feed) .none kV__law_feed dc__law_feed pm__law_feed an__law_feed cd__law_feed ct__law_feed), sl__law_feed⟩) (c__law_feed : PySem.W.codeIn K cd__law_feed "_law_feed" = true) (k__law_feed : PySem.W.keepIn K (.ref f__law_feed) = true)
    (a__law_draw : PySem.W.nsIn K mainGlobals "_law_draw" = some (some (.ref f__law_draw))) (l__law_draw : K.lookup f__law_draw = some ⟨oc__law_draw, od__law_draw, .func (PySem.W.fnOf "_law_draw" "_law_draw" (defArgs s__law_draw) (defBody s__law_draw) (defScope s__law_draw) .none kV__law_draw dc__law_draw pm__law_draw an__law_draw cd__law_draw ct__law_draw), sl__law_draw⟩) (c__law_draw : PySem.W.codeIn K cd__law_draw "_law_draw" = true) (k__law_draw : PySem.W.keepIn K (.ref f__law_draw) = true)
    (a__law_number : PySem.W.nsIn K mainGlobals "_law_number" = some (some (.ref f__law_number))) (l__law_number : K.lookup f__law_number = some ⟨oc__law_number, od__law_number, .func (PySem.W.fnOf "_law_number" "_law_number" (defArgs s__law_number) (defBody s__law_number) (defScope s__law_number) .none kV__law_number dc__law_number pm__law_number an__law_number cd__law_number ct__law_number), sl__law_number⟩) (c__law_number : PySem.W.codeIn K cd__law_number "_law_number" = true) (k__law_number : PySem.W.keepIn K (.ref f__law_number) = true)
    (a__law_row : PySem.W.nsIn K mainGlobals "_law_row" = some (some (.ref f__law_row))) (l__law_row : K.lookup f__law_row = some ⟨oc__law_row, od__law_row, .func (PySem.W.fnOf "_law_row" "_law_row" (defArgs s__law_row) (defBody s__law_row) (defScope s__law_row) .none kV__law_row dc__law_row pm__law_row an__law_row cd__law_row ct__law_row), sl__law_row⟩) (c__law_row : PySem.W.codeIn K cd__law_row "_law_row" = true) (k__law_row : PySem.W.keepIn K (.ref f__law_row) = true)
    (a__law_same : PySem.W.nsIn K mainGlobals "_law_same" = some (some (.ref f__law_same))) (l__law_same : K.lookup f__law_same = some ⟨oc__law_same, od__law_same, .func (PySem.W.fnOf "_law_same" "_law_same" (defArgs s__law_same) (defBody s__law_same) (defScope s__law_same) .none kV__law_same dc__law_same pm__law_same an__law_same cd__law_same ct__law_same), sl__law_same⟩) (c__law_same : PySem.W.codeIn K cd__law_same "_law_same" = true) (k__law_same : PySem.W.keepIn K (.ref f__law_same) = true)
    (a__law_with : PySem.W.nsIn K mainGlobals "_law_with" = some (some (.ref f__law_with))) (l__law_with : K.lookup f__law_with = some ⟨oc__law_with, od__law_with, .func (PySem.W.fnOf "_law_with" "_law_with" (defArgs s__law_with) (defBody s__law_with) (defScope s__law_with) .none kV__law_with dc__law_with pm__law_with an__law_with cd__law_with ct__law_with), sl__law_with⟩) (c__law_with : PySem.W.codeIn K cd__law_with "_law_with" = true) (k__law_with : PySem.W.keepIn K (.ref f__law_with) = true)
    (a__law_put : PySem.W.nsIn K mainGlobals "_law_put" = some (some (.ref f__law_put))) (l__law_put : K.lookup f__law_put = some ⟨oc__law_put, od__law_put, .func (PySem.W.fnOf "_law_put" "_law_put" (defArgs s__law_put) (defBody s__law_put) (defScope s__law_put) .none kV__law_put dc__law_put pm__law_put an__law_put cd__law_put ct__law_put), sl__law_put⟩) (c__law_put : PySem.W.codeIn K cd__law_put "_law_put" = true) (k__law_put : PySem.W.keepIn K (.ref f__law_put) = true)
    (a__law_whole : PySem.W.nsIn K mainGlobals "_law_whole" = some (some (.ref f__law_whole))) (l__law_whole : K.lookup f__law_whole = some ⟨oc__law_whole, od__law_whole, .func (PySem.W.fnOf "_law_whole" "_law_whole" (defArgs s__law_whole) (defBody s__law_whole) (defScope s__law_whole) .none kV__law_whole dc__law_whole pm__law_whole an__law_whole cd__law_whole ct__law_whole), sl__law_whole⟩) (c__law_whole : PySem.W.codeIn K cd__law_whole "_law_whole" = true) (k__law_whole : PySem.W.keepIn K (.ref f__law_whole) = true)
    (a__law_field : PySem.W.nsIn K mainGlobals "_law_field" = some (some (.ref f__law_field))) (l__law_field : K.lookup f__law_field = some ⟨oc__law_field, od__law_field, .func (PySem.W.fnOf "_law_field" "_law_field" (defArgs s__law_field) (defBody s__law_field) (defScope s__law_field) .none kV__law_field dc__law_field pm__law_field an__law_field cd__law_field ct__law_field), sl__law_field⟩) (c__law_field : PySem.W.codeIn K cd__law_field "_law_field" = true) (k__law_field : PySem.W.keepIn K (.ref f__law_field) = true)
    (a__law_laid : PySem.W.nsIn K mainGlobals "_law_laid" = some (some (.ref f__law_laid))) (l__law_laid : K.lookup f__law_laid = some ⟨oc__law_laid, od__law_laid, .func (PySem.W.fnOf "_law_laid" "_law_laid" (defArgs s__law_laid) (defBody s__law_laid) (defScope s__law_laid) .none kV__law_laid dc__law_laid pm__law_laid an__law_laid cd__law_laid ct__law_laid), sl__law_laid⟩) (c__law_laid : PySem.W.codeIn K cd__law_laid "_law_laid" = true) (k__law_laid : PySem.W.keepIn K (.ref f__law_laid) = true)
    (a__law_deeds : PySem.W.nsIn K mainGlobals "_law_deeds" = some (some (.ref f__law_deeds))) (l__law_deeds : K.lookup f__law_deeds = some ⟨oc__law_deeds, od__law_deeds, .func (PySem.W.fnOf "_law_deeds" "_law_deeds" (defArgs s__law_deeds) (defBody s__law_deeds) (defScope s__law_deeds) .none kV__law_deeds dc__law_deeds pm__law_deeds an__law_deeds cd__law_deeds ct__law_deeds), sl__law_deeds⟩) (c__law_deeds : PySem.W.codeIn K cd__law_deeds "_law_deeds" = true) (k__law_deeds : PySem.W.keepIn K (.ref f__law_deeds) = true)
    (a_law : PySem.W.nsIn K mainGlobals "law" = some (some (.ref f_law))) (l_law : K.lookup f_law = some ⟨oc_law, od_law, .func (PySem.W.fnOf "law" "law" (defArgs s_law) (defBody s_law) (defScope s_law) .none kV_law dc_law pm_law an_law cd_law ct_law), sl_law⟩) (c_law : PySem.W.codeIn K cd_law "law" = true) (k_law : PySem.W.keepIn K (.ref f_law) = true)
    (pg_Steps : PySem.W.plainGet K cc_Steps Str.empty = true) (hd_Steps : PySem.W.hasDictIn K cc_Steps = true) (po_Steps : PySem.W.plainOver K cc_Steps = true) (sa_Steps : PySem.W.findIn K (.ref cc_Steps) "__setattr__" = some (some (.builtin "object.__setattr__"))) (mk_Steps : PySem.W.makesIn K cc_Steps = true) (kc_Steps : PySem.W.keepIn K (.ref cc_Steps) = true) (na_Steps_laid_steps : PySem.W.findIn K (.ref cc_Steps) "laid_steps" = some none) (na_Steps_own_tree : PySem.W.findIn K (.ref cc_Steps) "own_tree" = some none) (na_Steps_seen : PySem.W.findIn K (.ref cc_Steps) "seen" = some none)
    (pg_Walk : PySem.W.plainGet K cc_Walk Str.empty = true) (hd_Walk : PySem.W.hasDictIn K cc_Walk = true) (po_Walk : PySem.W.plainOver K cc_Walk = true) (sa_Walk : PySem.W.findIn K (.ref cc_Walk) "__setattr__" = some (some (.builtin "object.__setattr__"))) (mk_Walk : PySem.W.makesIn K cc_Walk = true) (kc_Walk : PySem.W.keepIn K (.ref cc_Walk) = true) (na_Walk_outcome : PySem.W.findIn K (.ref cc_Walk) "outcome" = some none) (na_Walk_stack : PySem.W.findIn K (.ref cc_Walk) "stack" = some none) (na_Walk_ticks_left : PySem.W.findIn K (.ref cc_Walk) "ticks_left" = some none) (na_Walk_told_steps : PySem.W.findIn K (.ref cc_Walk) "told_steps" = some none)
    (z_int : PySem.W.nsIn K mainGlobals "int" = some none)
    (z_len : PySem.W.nsIn K mainGlobals "len" = some none)
    (z_max : PySem.W.nsIn K mainGlobals "max" = some none)
    (z_min : PySem.W.nsIn K mainGlobals "min" = some none)
    (z_tuple : PySem.W.nsIn K mainGlobals "tuple" = some none)
    (z_isinstance : PySem.W.nsIn K mainGlobals "isinstance" = some none)
    (z_zip : PySem.W.nsIn K mainGlobals "zip" = some none)
    (z_list : PySem.W.nsIn K mainGlobals "list" = some none)
    (z_range : PySem.W.nsIn K mainGlobals "range" = some none)
    (z_all : PySem.W.nsIn K mainGlobals "all" = some none)
    (z_bool : PySem.W.nsIn K mainGlobals "bool" = some none)
    (g_COUNTED : PySem.W.nsIn K mainGlobals "COUNTED" = some (some (.ref ad_COUNTED))) (gl_COUNTED : K.lookup ad_COUNTED = some ⟨.type "dict", none, .dict es_COUNTED n_COUNTED, #[]⟩)
    (g_KIND_OF : PySem.W.nsIn K mainGlobals "KIND_OF" = some (some (.ref ad_KIND_OF))) (gl_KIND_OF : K.lookup ad_KIND_OF = some ⟨.type "dict", none, .dict es_KIND_OF n_KIND_OF, #[]⟩)
    (g_LEAST : PySem.W.nsIn K mainGlobals "LEAST" = some (some (.int (-32768) t_LEAST)))
    (g_LONGEST : PySem.W.nsIn K mainGlobals "LONGEST" = some (some (.int 40 t_LONGEST)))
    (g_OPERATIONS : PySem.W.nsIn K mainGlobals "OPERATIONS" = some (some (.ref ad_OPERATIONS))) (gl_OPERATIONS : K.lookup ad_OPERATIONS = some ⟨.type "dict", none, .dict es_OPERATIONS n_OPERATIONS, #[]⟩)
    (g_TURN : PySem.W.nsIn K mainGlobals "TURN" = some (some (.int 65536 t_TURN)))
    (tb_COUNTED : TabIn w K ad_COUNTED tab_COUNTED) (tb_KIND_OF : TabIn w K ad_KIND_OF tab_KIND_OF) (tb_OPERATIONS : TabIn w K ad_OPERATIONS tab_OPERATIONS)
    : ∃ fd : FuncData, (∀ (s : Shared) (v : Value), BindsTo s fd ⟨[v], []⟩ [("_law_script", v)]) ∧ ∀ base : Heap, K.In base → base.Ns mainGlobals mg → FnOk l.prog w K mg base (L2.CX l.prog w) 30 fa fd ["_law_script"] (fun vs H Q E => ∃ n, spM K (F_law n) 1 vs H Q E) := by
  have e := hfa.symm.trans (PySem.W.mg_of X G a_law)
  cases e
  have F_taken_in := fun_mk (st := s_taken_in) l_taken_in c_taken_in k_taken_in
  have B_taken_in := F_taken_in.binds (ps := ["whole"]) fun _ _ _ _ _ _ us hl => match us, hl with | [_], _ => rfl
  have F_kinds_of := fun_mk (st := s_kinds_of) l_kinds_of c_kinds_of k_kinds_of
  have B_kinds_of := F_kinds_of.binds (ps := ["op"]) fun _ _ _ _ _ _ us hl => match us, hl with | [_], _ => rfl
  have F_divided := fun_mk (st := s_divided) l_divided c_divided k_divided
  have B_divided := F_divided.binds (ps := ["one", "other"]) fun _ _ _ _ _ _ us hl => match us, hl with | [_, _], _ => rfl
  have F_done_sum := fun_mk (st := s_done_sum) l_done_sum c_done_sum k_done_sum
  have B_done_sum := F_done_sum.binds (ps := ["op", "one", "other"]) fun _ _ _ _ _ _ us hl => match us, hl with | [_, _, _], _ => rfl
  have F_put_at := fun_mk (st := s_put_at) l_put_at c_put_at k_put_at
  have B_put_at := F_put_at.binds (ps := ["row", "place", "number"]) fun _ _ _ _ _ _ us hl => match us, hl with | [_, _, _], _ => rfl
  have F_done_row := fun_mk (st := s_done_row) l_done_row c_done_row k_done_row
  have B_done_row := F_done_row.binds (ps := ["op", "values"]) fun _ _ _ _ _ _ us hl => match us, hl with | [_, _], _ => rfl
  have F_done := fun_mk (st := s_done) l_done c_done k_done
  have B_done := F_done.binds (ps := ["op", "values"]) fun _ _ _ _ _ _ us hl => match us, hl with | [_, _], _ => rfl
  have F_found_in := fun_mk (st := s_found_in) l_found_in c_found_in k_found_in
  have B_found_in := F_found_in.binds (ps := ["pairs", "name"]) fun _ _ _ _ _ _ us hl => match us, hl with | [_, _], _ => rfl
  have F_path_kind := fun_mk (st := s_path_kind) l_path_kind c_path_kind k_path_kind
  have B_path_kind := F_path_kind.binds (ps := ["tree", "known", "path"]) fun _ _ _ _ _ _ us hl => match us, hl with | [_, _, _], _ => rfl
  have F_kind_of_expr := fun_mk (st := s_kind_of_expr) l_kind_of_expr c_kind_of_expr k_kind_of_expr
  have B_kind_of_expr := F_kind_of_expr.binds (ps := ["tree", "known", "e"]) fun _ _ _ _ _ _ us hl => match us, hl with | [_, _, _], _ => rfl
  have F_fault_of := fun_mk (st := s_fault_of) l_fault_of c_fault_of k_fault_of
  have B_fault_of := F_fault_of.binds (ps := ["op", "values"]) fun _ _ _ _ _ _ us hl => match us, hl with | [_, _], _ => rfl
  have F_fields_of := fun_mk (st := s_fields_of) l_fields_of c_fields_of k_fields_of
  have B_fields_of := F_fields_of.binds (ps := ["tree", "kind"]) fun _ _ _ _ _ _ us hl => match us, hl with | [_, _], _ => rfl
  have F_places_of := fun_mk (st := s_places_of) l_places_of c_places_of k_places_of
  have B_places_of := F_places_of.binds (ps := ["tree", "known", "path"]) fun _ _ _ _ _ _ us hl => match us, hl with | [_, _, _], _ => rfl
  have F_value_at := fun_mk (st := s_value_at) l_value_at c_value_at k_value_at
  have B_value_at := F_value_at.binds (ps := ["value", "places"]) fun _ _ _ _ _ _ us hl => match us, hl with | [_, _], _ => rfl
  have F_with_field := fun_mk (st := s_with_field) l_with_field c_with_field k_with_field
  have B_with_field := F_with_field.binds (ps := ["value", "places", "fresh"]) fun _ _ _ _ _ _ us hl => match us, hl with | [_, _, _], _ => rfl
  have F_Steps____init__ := fun_mk (st := s_Steps____init__) l_Steps____init__ c_Steps____init__ k_Steps____init__
  have B_Steps____init__ := F_Steps____init__.binds (ps := ["self", "tree", "params"]) fun _ _ _ _ _ _ us hl => match us, hl with | [_, _, _], _ => rfl
  have F_Steps__lay := fun_mk (st := s_Steps__lay) l_Steps__lay c_Steps__lay k_Steps__lay
  have B_Steps__lay := F_Steps__lay.binds (ps := ["self", "step"]) fun _ _ _ _ _ _ us hl => match us, hl with | [_, _], _ => rfl
  have F_Steps__here := fun_mk (st := s_Steps__here) l_Steps__here c_Steps__here k_Steps__here
  have B_Steps__here := F_Steps__here.binds (ps := ["self"]) fun _ _ _ _ _ _ us hl => match us, hl with | [_], _ => rfl
  have F_Steps__lay_either := fun_mk (st := s_Steps__lay_either) l_Steps__lay_either c_Steps__lay_either k_Steps__lay_either
  have B_Steps__lay_either := F_Steps__lay_either.binds (ps := ["self", "expr"]) fun _ _ _ _ _ _ us hl => match us, hl with | [_, _], _ => rfl
  have F_Steps__lay_expr := fun_mk (st := s_Steps__lay_expr) l_Steps__lay_expr c_Steps__lay_expr k_Steps__lay_expr
  have B_Steps__lay_expr := F_Steps__lay_expr.binds (ps := ["self", "expr"]) fun _ _ _ _ _ _ us hl => match us, hl with | [_, _], _ => rfl
  have F_Steps__lay_while := fun_mk (st := s_Steps__lay_while) l_Steps__lay_while c_Steps__lay_while k_Steps__lay_while
  have B_Steps__lay_while := F_Steps__lay_while.binds (ps := ["self", "statement"]) fun _ _ _ _ _ _ us hl => match us, hl with | [_, _], _ => rfl
  have F_Steps__lay_if := fun_mk (st := s_Steps__lay_if) l_Steps__lay_if c_Steps__lay_if k_Steps__lay_if
  have B_Steps__lay_if := F_Steps__lay_if.binds (ps := ["self", "statement"]) fun _ _ _ _ _ _ us hl => match us, hl with | [_, _], _ => rfl
  have F_Steps__lay_statement := fun_mk (st := s_Steps__lay_statement) l_Steps__lay_statement c_Steps__lay_statement k_Steps__lay_statement
  have B_Steps__lay_statement := F_Steps__lay_statement.binds (ps := ["self", "statement"]) fun _ _ _ _ _ _ us hl => match us, hl with | [_, _], _ => rfl
  have F_Steps__lay_body := fun_mk (st := s_Steps__lay_body) l_Steps__lay_body c_Steps__lay_body k_Steps__lay_body
  have B_Steps__lay_body := F_Steps__lay_body.binds (ps := ["self", "body"]) fun _ _ _ _ _ _ us hl => match us, hl with | [_, _], _ => rfl
  have F_Walk____init__ := fun_mk (st := s_Walk____init__) l_Walk____init__ c_Walk____init__ k_Walk____init__
  have B_Walk____init__ := F_Walk____init__.binds (ps := ["self", "tree", "bound"]) fun _ _ _ _ _ _ us hl => match us, hl with | [_, _, _], _ => rfl
  have F_Walk__enter := fun_mk (st := s_Walk__enter) l_Walk__enter c_Walk__enter k_Walk__enter
  have B_Walk__enter := F_Walk__enter.binds (ps := ["self", "name", "values"]) fun _ _ _ _ _ _ us hl => match us, hl with | [_, _, _], _ => rfl
  have F_Walk__tick := fun_mk (st := s_Walk__tick) l_Walk__tick c_Walk__tick k_Walk__tick
  have B_Walk__tick := F_Walk__tick.binds (ps := ["self"]) fun _ _ _ _ _ _ us hl => match us, hl with | [_], _ => rfl
  have F_Walk__taken := fun_mk (st := s_Walk__taken) l_Walk__taken c_Walk__taken k_Walk__taken
  have B_Walk__taken := F_Walk__taken.binds (ps := ["self", "frame", "many"]) fun _ _ _ _ _ _ us hl => match us, hl with | [_, _, _], _ => rfl
  have F_Walk__give := fun_mk (st := s_Walk__give) l_Walk__give c_Walk__give k_Walk__give
  have B_Walk__give := F_Walk__give.binds (ps := ["self", "frame"]) fun _ _ _ _ _ _ us hl => match us, hl with | [_, _], _ => rfl
  have F_Walk__reckon := fun_mk (st := s_Walk__reckon) l_Walk__reckon c_Walk__reckon k_Walk__reckon
  have B_Walk__reckon := F_Walk__reckon.binds (ps := ["self", "frame", "op"]) fun _ _ _ _ _ _ us hl => match us, hl with | [_, _, _], _ => rfl
  have F_Walk__turn_step := fun_mk (st := s_Walk__turn_step) l_Walk__turn_step c_Walk__turn_step k_Walk__turn_step
  have B_Walk__turn_step := F_Walk__turn_step.binds (ps := ["self", "frame", "step"]) fun _ _ _ _ _ _ us hl => match us, hl with | [_, _, _], _ => rfl
  have F_Walk__reckon_step := fun_mk (st := s_Walk__reckon_step) l_Walk__reckon_step c_Walk__reckon_step k_Walk__reckon_step
  have B_Walk__reckon_step := F_Walk__reckon_step.binds (ps := ["self", "frame", "step"]) fun _ _ _ _ _ _ us hl => match us, hl with | [_, _, _], _ => rfl
  have F_Walk__walked := fun_mk (st := s_Walk__walked) l_Walk__walked c_Walk__walked k_Walk__walked
  have B_Walk__walked := F_Walk__walked.binds (ps := ["self"]) fun _ _ _ _ _ _ us hl => match us, hl with | [_], _ => rfl
  have F_run_source := fun_mk (st := s_run_source) l_run_source c_run_source k_run_source
  have B_run_source := F_run_source.binds (ps := ["tree", "name", "values", "bound"]) fun _ _ _ _ _ _ us hl => match us, hl with | [_, _, _, _], _ => rfl
  have F__law_feed := fun_mk (st := s__law_feed) l__law_feed c__law_feed k__law_feed
  have B__law_feed := F__law_feed.binds (ps := ["_law_script"]) fun _ _ _ _ _ _ us hl => match us, hl with | [_], _ => rfl
  have F__law_draw := fun_mk (st := s__law_draw) l__law_draw c__law_draw k__law_draw
  have B__law_draw := F__law_draw.binds (ps := ["_law_feed_here", "_law_many"]) fun _ _ _ _ _ _ us hl => match us, hl with | [_, _], _ => rfl
  have F__law_number := fun_mk (st := s__law_number) l__law_number c__law_number k__law_number
  have B__law_number := F__law_number.binds (ps := ["_law_feed_here"]) fun _ _ _ _ _ _ us hl => match us, hl with | [_], _ => rfl
  have F__law_row := fun_mk (st := s__law_row) l__law_row c__law_row k__law_row
  have B__law_row := F__law_row.binds (ps := ["_law_feed_here"]) fun _ _ _ _ _ _ us hl => match us, hl with | [_], _ => rfl
  have F__law_same := fun_mk (st := s__law_same) l__law_same c__law_same k__law_same
  have B__law_same := F__law_same.binds (ps := ["_law_found", "_law_due"]) fun _ _ _ _ _ _ us hl => match us, hl with | [_, _], _ => rfl
  have F__law_with := fun_mk (st := s__law_with) l__law_with c__law_with k__law_with
  have B__law_with := F__law_with.binds (ps := ["_law_value", "_law_places", "_law_fresh"]) fun _ _ _ _ _ _ us hl => match us, hl with | [_, _, _], _ => rfl
  have F__law_put := fun_mk (st := s__law_put) l__law_put c__law_put k__law_put
  have B__law_put := F__law_put.binds (ps := ["_law_row_here", "_law_at", "_law_number_here"]) fun _ _ _ _ _ _ us hl => match us, hl with | [_, _, _], _ => rfl
  have F__law_whole := fun_mk (st := s__law_whole) l__law_whole c__law_whole k__law_whole
  have B__law_whole := F__law_whole.binds (ps := ["_law_feed_here", "_law_names", "_law_have"]) fun _ _ _ _ _ _ us hl => match us, hl with | [_, _, _], _ => rfl
  have F__law_field := fun_mk (st := s__law_field) l__law_field c__law_field k__law_field
  have B__law_field := F__law_field.binds (ps := ["_law_feed_here", "_law_names", "_law_have"]) fun _ _ _ _ _ _ us hl => match us, hl with | [_, _, _], _ => rfl
  have F__law_laid := fun_mk (st := s__law_laid) l__law_laid c__law_laid k__law_laid
  have B__law_laid := F__law_laid.binds (ps := ["_law_feed_here", "_law_names", "_law_have"]) fun _ _ _ _ _ _ us hl => match us, hl with | [_, _, _], _ => rfl
  have F__law_deeds := fun_mk (st := s__law_deeds) l__law_deeds c__law_deeds k__law_deeds
  have B__law_deeds := F__law_deeds.binds (ps := ["_law_feed_here", "_law_names", "_law_have"]) fun _ _ _ _ _ _ us hl => match us, hl with | [_, _, _], _ => rfl
  have F_law := fun_mk (st := s_law) l_law c_law k_law
  have B_law := F_law.binds (ps := ["_law_script"]) fun _ _ _ _ _ _ us hl => match us, hl with | [_], _ => rfl
  have T : Txt w K mg ⟨f_taken_in, _, f_kinds_of, _, f_divided, _, f_done_sum, _, f_put_at, _, f_done_row, _, f_done, _, f_found_in, _, f_path_kind, _, f_kind_of_expr, _, f_fault_of, _, f_fields_of, _, f_places_of, _, f_value_at, _, f_with_field, _, f_Steps____init__, _, f_Steps__lay, _, f_Steps__here, _, f_Steps__lay_either, _, f_Steps__lay_expr, _, f_Steps__lay_while, _, f_Steps__lay_if, _, f_Steps__lay_statement, _, f_Steps__lay_body, _, f_Walk____init__, _, f_Walk__enter, _, f_Walk__tick, _, f_Walk__taken, _, f_Walk__give, _, f_Walk__reckon, _, f_Walk__turn_step, _, f_Walk__reckon_step, _, f_Walk__walked, _, f_run_source, _, f__law_feed, _, f__law_draw, _, f__law_number, _, f__law_row, _, f__law_same, _, f__law_with, _, f__law_put, _, f__law_whole, _, f__law_field, _, f__law_laid, _, f__law_deeds, _, fa, _, cc_Steps, cc_Walk⟩ := ⟨F_taken_in, PySem.W.mg_of X G a_taken_in, B_taken_in, F_kinds_of, PySem.W.mg_of X G a_kinds_of, B_kinds_of, F_divided, PySem.W.mg_of X G a_divided, B_divided, F_done_sum, PySem.W.mg_of X G a_done_sum, B_done_sum, F_put_at, PySem.W.mg_of X G a_put_at, B_put_at, F_done_row, PySem.W.mg_of X G a_done_row, B_done_row, F_done, PySem.W.mg_of X G a_done, B_done, F_found_in, PySem.W.mg_of X G a_found_in, B_found_in, F_path_kind, PySem.W.mg_of X G a_path_kind, B_path_kind, F_kind_of_expr, PySem.W.mg_of X G a_kind_of_expr, B_kind_of_expr, F_fault_of, PySem.W.mg_of X G a_fault_of, B_fault_of, F_fields_of, PySem.W.mg_of X G a_fields_of, B_fields_of, F_places_of, PySem.W.mg_of X G a_places_of, B_places_of, F_value_at, PySem.W.mg_of X G a_value_at, B_value_at, F_with_field, PySem.W.mg_of X G a_with_field, B_with_field, F_Steps____init__, ⟨a_Steps____init__, i_Steps____init__, k_Steps____init__⟩, B_Steps____init__, F_Steps__lay, ⟨a_Steps__lay, i_Steps__lay, k_Steps__lay⟩, B_Steps__lay, F_Steps__here, ⟨a_Steps__here, i_Steps__here, k_Steps__here⟩, B_Steps__here, F_Steps__lay_either, ⟨a_Steps__lay_either, i_Steps__lay_either, k_Steps__lay_either⟩, B_Steps__lay_either, F_Steps__lay_expr, ⟨a_Steps__lay_expr, i_Steps__lay_expr, k_Steps__lay_expr⟩, B_Steps__lay_expr, F_Steps__lay_while, ⟨a_Steps__lay_while, i_Steps__lay_while, k_Steps__lay_while⟩, B_Steps__lay_while, F_Steps__lay_if, ⟨a_Steps__lay_if, i_Steps__lay_if, k_Steps__lay_if⟩, B_Steps__lay_if, F_Steps__lay_statement, ⟨a_Steps__lay_statement, i_Steps__lay_statement, k_Steps__lay_statement⟩, B_Steps__lay_statement, F_Steps__lay_body, ⟨a_Steps__lay_body, i_Steps__lay_body, k_Steps__lay_body⟩, B_Steps__lay_body, F_Walk____init__, ⟨a_Walk____init__, i_Walk____init__, k_Walk____init__⟩, B_Walk____init__, F_Walk__enter, ⟨a_Walk__enter, i_Walk__enter, k_Walk__enter⟩, B_Walk__enter, F_Walk__tick, ⟨a_Walk__tick, i_Walk__tick, k_Walk__tick⟩, B_Walk__tick, F_Walk__taken, ⟨a_Walk__taken, i_Walk__taken, k_Walk__taken⟩, B_Walk__taken, F_Walk__give, ⟨a_Walk__give, i_Walk__give, k_Walk__give⟩, B_Walk__give, F_Walk__reckon, ⟨a_Walk__reckon, i_Walk__reckon, k_Walk__reckon⟩, B_Walk__reckon, F_Walk__turn_step, ⟨a_Walk__turn_step, i_Walk__turn_step, k_Walk__turn_step⟩, B_Walk__turn_step, F_Walk__reckon_step, ⟨a_Walk__reckon_step, i_Walk__reckon_step, k_Walk__reckon_step⟩, B_Walk__reckon_step, F_Walk__walked, ⟨a_Walk__walked, i_Walk__walked, k_Walk__walked⟩, B_Walk__walked, F_run_source, PySem.W.mg_of X G a_run_source, B_run_source, F__law_feed, PySem.W.mg_of X G a__law_feed, B__law_feed, F__law_draw, PySem.W.mg_of X G a__law_draw, B__law_draw, F__law_number, PySem.W.mg_of X G a__law_number, B__law_number, F__law_row, PySem.W.mg_of X G a__law_row, B__law_row, F__law_same, PySem.W.mg_of X G a__law_same, B__law_same, F__law_with, PySem.W.mg_of X G a__law_with, B__law_with, F__law_put, PySem.W.mg_of X G a__law_put, B__law_put, F__law_whole, PySem.W.mg_of X G a__law_whole, B__law_whole, F__law_field, PySem.W.mg_of X G a__law_field, B__law_field, F__law_laid, PySem.W.mg_of X G a__law_laid, B__law_laid, F__law_deeds, PySem.W.mg_of X G a__law_deeds, B__law_deeds, F_law, PySem.W.mg_of X G a_law, B_law, PySem.W.mg_of X G a_Steps, a_Steps, ⟨pg_Steps, hd_Steps, po_Steps, sa_Steps⟩, ⟨mk_Steps, a_Steps____init__, i_Steps____init__, kc_Steps⟩, na_Steps_laid_steps, na_Steps_own_tree, na_Steps_seen, PySem.W.mg_of X G a_Walk, a_Walk, ⟨pg_Walk, hd_Walk, po_Walk, sa_Walk⟩, ⟨mk_Walk, a_Walk____init__, i_Walk____init__, kc_Walk⟩, na_Walk_outcome, na_Walk_stack, na_Walk_ticks_left, na_Walk_told_steps, ⟨_, PySem.W.mg_of X G g_COUNTED, tb_COUNTED⟩, ⟨_, PySem.W.mg_of X G g_KIND_OF, tb_KIND_OF⟩, ⟨_, PySem.W.mg_of X G g_LEAST⟩, ⟨_, PySem.W.mg_of X G g_LONGEST⟩, ⟨_, PySem.W.mg_of X G g_OPERATIONS, tb_OPERATIONS⟩, ⟨_, PySem.W.mg_of X G g_TURN⟩, PySem.W.mg_none_of X G z_int, PySem.W.mg_none_of X G z_len, PySem.W.mg_none_of X G z_max, PySem.W.mg_none_of X G z_min, PySem.W.mg_none_of X G z_tuple, PySem.W.mg_none_of X G z_isinstance, PySem.W.mg_none_of X G z_zip, PySem.W.mg_none_of X G z_list, PySem.W.mg_none_of X G z_range, PySem.W.mg_none_of X G z_all, PySem.W.mg_none_of X G z_bool⟩
  exact ⟨_, fun s v => .of_eq rfl, fun base _ _ => FnOk.ex fun n => ok_law T n⟩
theorem walk {l : PySem.W.OpenLaw} {q : Program} {loose : List Str} {XP : (Str → Option Value) → Heap → Prop} {YP : World → Heap → Prop} {d : DefRec} {K : Params → PySem.W.Frag} (hn : l.most = some 63) (hdf : d.params.defaults = [])
    (hY : ∀ (w : World) (h : Heap), YP w h → (K w.params).In h) (pure : ∀ ns : List Int, ns.length ≤ 63 → ∃ n st, F_law n [.frz (ns.map .int)] [] = .ok (.bl true) st)
    (F : ∀ (w : World) (mg : Str → Option Value) (fa : Addr) (h : Heap), (K w.params).In h → h.Ns mainGlobals mg → mg d.name = some (.ref fa) →
      ∃ fd : FuncData, (∀ (s : Shared) (u : Value), BindsTo s fd ⟨[u], []⟩ [("_law_script", u)]) ∧ ∀ base : Heap, (K w.params).In base → base.Ns mainGlobals mg → FnOk l.prog w (K w.params) mg base (L2.CX l.prog w) 30 fa fd ["_law_script"] (fun vs H Q E => ∃ n, spM (K w.params) (F_law n) 1 vs H Q E)) :
    PySem.W.WalkO q loose XP YP l.row.toRowW d [] (fun f vs => PySem.call f vs) :=
  L2.walk_of (n := 63) (k := 30) (x := "_law_script") (CX := fun w => L2.CX l.prog w) (sp := fun w vs H Q E => ∃ n, spM (K w.params) (F_law n) 1 vs H Q E) hn (by decide) hdf ⟨rfl, by decide, by decide⟩ hY F (fun w H a ns hl _ hS => by
    obtain ⟨n, st, e⟩ := pure ns hl
    exact law_sp hS e) fun w H s e s' => cx_false H s e s'
end K21

set_option maxRecDepth 100000
namespace K21
open PySem L2 MP
theorem fmod_lt {i m : Int} (h : 0 < m) : 0 ≤ i.fmod m ∧ i.fmod m < m := by
  rw [Int.fmod_eq_emod_of_nonneg i (by omega)]
  exact ⟨Int.emod_nonneg _ (by omega), Int.emod_lt_of_pos _ h⟩
theorem atI_all {α : Type} {xs : List α} {i : Int} (h0 : 0 ≤ i) (h1 : i < xs.length) {P : α → Prop} (hP : ∀ x ∈ xs, P x) : ∃ x, L2.atI xs i = some x ∧ P x := ⟨_, atI_of h0 h1, hP _ (List.getElem_mem _)⟩
def FC (c : Cell) (K : Int) : Prop := ∃ (ns : List Int) (k l : Int) (d : Bool), ns.length ≤ 63 ∧ 0 ≤ k ∧ k ≤ K ∧ c = .dct [(.str [99, 101, 108, 108, 115], .lst (ns.map .int)), (.str [97, 116], .int k), (.str [108, 101, 102, 116], .int l), (.str [100, 105, 103, 105, 116, 115], .bl d)]
theorem FC.mono {c : Cell} {K K' : Int} (h : FC c K) (hk : K ≤ K') : FC c K' := let ⟨ns, k, l, d, h1, h2, h3, e⟩ := h; ⟨ns, k, l, d, h1, h2, by omega, e⟩
def FD (st : Sto) (b : Nat) (K : Int) : Prop := ∃ c, st[b]? = some c ∧ FC c K
theorem FD.mono {st : Sto} {b : Nat} {K K' : Int} (h : FD st b K) (hk : K ≤ K') : FD st b K' := let ⟨c, e, h⟩ := h; ⟨c, e, h.mono hk⟩
theorem FD.bl {st : Sto} {b : Nat} {K : Int} (h : FD st b K) : b < st.length := let ⟨_, e, _⟩ := h; getN e
theorem FD.app {st : Sto} {b : Nat} {K : Int} (h : FD st b K) (ys : Sto) : FD (st ++ ys) b K := let ⟨c, e, h⟩ := h; ⟨c, by rw [List.getElem?_append_left (getN e), e], h⟩
theorem FD.setN {st : Sto} {b m : Nat} {K : Int} {x : Cell} (h : FD st b K) (hm : m ≠ b) : FD (st.set m x) b K := let ⟨c, e, h⟩ := h; ⟨c, by rw [List.getElem?_set_ne hm, e], h⟩
def SB (b : Nat) (st s : Sto) : Prop := s.length = st.length ∧ ∀ j, j ≠ b → s[j]? = st[j]?
theorem SB.refl {b : Nat} {st : Sto} : SB b st st := ⟨rfl, fun _ _ => rfl⟩
theorem SB.trans {b : Nat} {st s u : Sto} (h : SB b st s) (h' : SB b s u) : SB b st u := ⟨h'.1.trans h.1, fun j hj => (h'.2 j hj).trans (h.2 j hj)⟩
theorem SB.set {b : Nat} {st : Sto} {x : Cell} : SB b st (st.set b x) := ⟨by simp, fun j hj => List.getElem?_set_ne (fun e => hj e.symm)⟩
theorem okInts (l : List Int) : okP (.lst (l.map .int)) = true := by
  have h1 : plPs (l.map PV.int) = true := by rw [plPs_iff]; intro x hx; simp at hx; obtain ⟨c, hc, rfl⟩ := hx; simp [plP]
  simp [okP, plP, h1, depP, depPs_ints]
theorem draw_spec {n : Nat} {st : Sto} {b : Nat} {K m : Int} {Q : PV → Sto → Prop} {E : Exn → Sto → Prop} (B : FD st b K) (h : ∀ i s, 0 ≤ i → i < m → FD s b (K + 1) → SB b st s → Q (.int i) s) (hm : 0 < m := by omega) (hk : K < 1000000000000 := by omega) (hm2 : m.natAbs.log2 < 9000 := by decide +kernel) :
    Z (F__law_draw n [.loc b, .int m] st) Q E := by
  obtain ⟨c, hb, ns, k, l, d, hn, k0, k1, rfl⟩ := B
  have hl := getN hb
  have g1 : ∀ X, (st.set b X)[b]? = some X := fun X => by rw [List.getElem?_set_self hl]
  have g2 : ∀ X Y : Cell, (st.set b X).set b Y = st.set b Y := fun X Y => by rw [List.set_set]
  have hmne : m ≠ 0 := by omega
  clear hl
  have f1 := fun i : Int => fmod_lt (i := i) hm
  have m1 : mulOk 7 k = true := by simp [mulOk]
  have m2 : mulOk (7 * k) k = true := by simp [mulOk]; omega
  have m3 : mulOk 31 k = true := by simp [mulOk]
  have m4 : ∀ i : Int, mulOk i 48271 = true := fun i => by simp [mulOk]
  have m5 : ∀ i : Int, mulOk i 742938285 = true := fun i => by simp [mulOk]
  have fin : ∀ (i k' l' : Int) (d' : Bool), 0 ≤ k' → k' ≤ K + 1 → Q (.int (i.fmod m)) (st.set b (.dct [(.str [99, 101, 108, 108, 115], .lst (ns.map .int)), (.str [97, 116], .int k'), (.str [108, 101, 102, 116], .int l'), (.str [100, 105, 103, 105, 116, 115], .bl d')])) := fun i k' l' d' h0 h1 =>
    h _ _ (f1 i).1 (f1 i).2 ⟨_, g1 _, ns, k', l', d', hn, h0, h1, rfl⟩ SB.set
  rw [z__law_draw]
  unfold b__law_draw
  cases d with
  | true =>
    have ht : ∀ (x : Int) (s : Sto) (Q : PV → Sto → Prop) (E : Exn → Sto → Prop), Z (inM true (.int x) (.tup [.int 0, .int (-1)]) s) Q E = Q (.bl (!decide (x = 0 ∨ x = -1))) s := fun x s Q E => by
      rw [Z_inP (xs := [.int 0, .int (-1)]) rfl rfl rfl]; simp
    simp [hb, lookP, hmne, hm, hm2, g1, putP, ht, g2]
    exact fin _ k _ _ k0 (by omega)
  | false =>
    have hne : ∀ (s : Sto) (Q : PV → Sto → Prop) (E : Exn → Sto → Prop), Z (neM (.lst (ns.map .int)) (.lst []) s) Q E = Q (.bl (!decide (ns = []))) s := fun s Q E => by
      rw [Z_neP (okInts ns) (show okP (.lst []) = true from okInts [])]; simp
    by_cases hns : ns = []
    · subst hns
      simp only [List.map_nil] at fin hne hb
      simp [hb, lookP, putP, g1, g2, hne, m1, m2, m3, m4, m5, hmne]
      exact fin _ (k + 1) _ _ (by omega) (by omega)
    · have hp : 0 < (ns.length : Int) := by have := List.length_pos_iff.mpr hns; omega
      obtain ⟨a0, a1⟩ := fmod_lt (i := k) hp
      have hat := atI_of (xs := ns.map PV.int) a0 (by simpa using a1)
      simp at hat
      have hp2 : ns.length ≠ 0 := by omega
      simp [hb, lookP, putP, g1, g2, hne, hns, hat, m1, m2, m3, m4, m5, hmne]
      exact fin _ (k + 1) _ _ (by omega) (by omega)
theorem feed_spec {n : Nat} {ns : List Int} {Q : PV → Sto → Prop} {E : Exn → Sto → Prop} (h : ∀ s, FD s 0 0 → s.length = 1 → Q (.loc 0) s) : Z (F__law_feed n [.frz (ns.map .int)] []) Q E := by
  rw [z__law_feed]
  unfold b__law_feed
  have e : cutL (ns.map PV.int) none (some 63) = (cutL ns none (some 63)).map .int := cut_map _
  have hl : (cutL ns none (some 63)).length ≤ 63 := cut_midlen (xs := ns) (a := 0) (b := 63)
  generalize cutL ns none (some 63) = ms at e hl
  have e2 : cutL (ms.map PV.int) none (some 2) ++ [.int 0, .int 0] = (cutL ms none (some 2) ++ [0, 0]).map .int := by rw [cut_map]; simp
  have hl2 : (cutL ms none (some 2)).length ≤ 2 := cut_midlen (xs := ms) (a := 0) (b := 2)
  generalize hp : cutL ms none (some 2) = pr at e2 hl2
  obtain ⟨x, y, r, hr⟩ : ∃ x y r, pr ++ [0, 0] = x :: y :: r := by
    match pr with
    | [] => exact ⟨_, _, _, rfl⟩
    | [a] => exact ⟨_, _, _, rfl⟩
    | a :: b :: c => exact ⟨_, _, _, rfl⟩
  have hlm : (cutL (ms.map PV.int) none (some 2)).length ≤ 2 := by rw [cut_map, hp]; simpa using hl2
  have hx : ∀ j : Nat, L2.atI ((pr ++ [0, 0]).map PV.int) (j : Int) = ((pr ++ [0, 0]).map PV.int)[j]? := fun j => by
    unfold L2.atI L2.ixN
    by_cases hj : j < ((pr ++ [0, 0]).map PV.int).length
    · rw [if_pos (by omega), if_pos (by omega)]; simp
    · rw [if_pos (by omega), if_neg (by omega), List.getElem?_eq_none (by omega)]; rfl
  have h0 := hx 0
  have h1 := hx 1
  rw [hr] at h0 h1 e2
  simp at h0 h1
  have fin : ∀ l d, Q (.loc 0) [Cell.dct [(.str [99, 101, 108, 108, 115], .lst (ms.map .int)), (.str [97, 116], .int 0), (.str [108, 101, 102, 116], .int l), (.str [100, 105, 103, 105, 116, 115], .bl d)]] := fun l d => h _ ⟨_, rfl, ms, 0, l, d, hl, by omega, by omega, rfl⟩ rfl
  simp [e]
  refine ⟨by omega, ?_⟩
  simp [e2, h0, h1, Z_eDct, keysOk, mergeP, putP]
  exact fin _ _
theorem Z_inT {n : Bool} {x : PV} {xs : List PV} {st : Sto} {Q : PV → Sto → Prop} {E : Exn → Sto → Prop} (h : (flatP x && xs.all flatP) = true) : Z (inM n x (.tup xs) st) Q E = Q (.bl (ng n (xs.any fun p => eqb p x))) st := by
  unfold inM; dsimp only [seqOf]; rw [if_pos h]; rfl
section
variable {n : Nat} {st : Sto} {Q : PV → Sto → Prop} {E : Exn → Sto → Prop} {W f s v h m : Nat} {hs vs xs : List PV} {lo hi : Option Int} {x y z : PV}
@[simp ↓] theorem Z_slC (h : st[m]? = some (.lst xs)) : Z (slM (.loc m) lo hi st) Q E = Q (.lst (cutL xs lo hi)) st := by unfold slM; simp only [seqOf, MP.listOf]; rw [h]; rfl
@[simp ↓] theorem Z_slNC (h : st[m]? = some (.lst xs)) : Z (slN (.loc m) lo hi st) Q E = Q (.loc st.length) (st ++ [.lst (cutL xs lo hi)]) := by unfold slN; simp only [seqOf, MP.listOf]; rw [h]; rfl
theorem cut_front {α : Type} {a b : List α} {i : Int} (h : i = a.length) : cutL (a ++ b) none (some i) = a := by
  subst h; unfold cutL; rw [HT.sIx_nat, HT.sIx_none]; simp
theorem cut_back {α : Type} {a b : List α} {i : Int} (h : i = a.length) : cutL (a ++ b) (some i) none = b := by
  subst h; unfold cutL; rw [HT.sIx_nat, HT.sIx_none]; simp
theorem taken_spec {pc : Int} (hf : st[f]? = some (.lst [.loc s, .loc v, .loc h, .int pc])) (hh : st[h]? = some (.lst (hs ++ vs))) {k : Int} (hk : k = vs.length)
    (hq : Q (.tup vs) ((st ++ [Cell.lst hs]).set f (.lst [.loc s, .loc v, .loc st.length, .int pc]))) : Z (F_Walk__taken n [.loc W, .loc f, .int k] st) Q E := by
  have g1 : (st ++ [Cell.lst hs])[f]? = some (.lst [.loc s, .loc v, .loc h, .int pc]) := by rw [List.getElem?_append_left (getN hf), hf]
  rw [z_Walk__taken, b_Walk__taken]
  subst hk
  simp [hf, hh, L2.ixN, cut_front, cut_back, g1, hq]
end
structure Fra where
  steps : List PV
  vars : List (PV × PV)
  hand : List PV
  pc : Int
structure FL where
  f : Nat
  s : Nat
  v : Nat
  h : Nat
structure FL.ok (l : FL) : Prop where
  fv : l.f ≠ l.v
  fh : l.f ≠ l.h
  vh : l.v ≠ l.h
  sf : l.s ≠ l.f
  sv : l.s ≠ l.v
  sh : l.s ≠ l.h
structure FR (st : Sto) (l : FL) (x : Fra) : Prop where
  ok : l.ok
  f : st[l.f]? = some (.lst [.loc l.s, .loc l.v, .loc l.h, .int x.pc])
  s : st[l.s]? = some (.lst x.steps)
  v : st[l.v]? = some (.dct x.vars)
  h : st[l.h]? = some (.lst x.hand)
structure Up (st st' : Sto) (l l' : FL) (x : Fra) : Prop where
  fr : FR st' l' x
  f : l'.f = l.f
  s : l'.s = l.s
  v : l'.v = l.v
  h : l'.h = l.h ∨ st.length ≤ l'.h
  len : st.length ≤ st'.length
  keep : ∀ i, i < st.length → i ≠ l.f → i ≠ l.v → i ≠ l.h → st'[i]? = st[i]?
theorem Up.trans {st st1 st2 : Sto} {l l1 l2 : FL} {x y : Fra} (a : Up st st1 l l1 x) (b : Up st1 st2 l1 l2 y) : Up st st2 l l2 y := by
  refine ⟨b.fr, b.f.trans a.f, b.s.trans a.s, b.v.trans a.v, ?_, Nat.le_trans a.len b.len, fun i hi h1 h2 h3 => ?_⟩
  · rcases b.h with e | e
    · rw [e]; exact a.h
    · exact .inr (Nat.le_trans a.len e)
  · rw [b.keep i (Nat.lt_of_lt_of_le hi a.len) (by rw [a.f]; exact h1) (by rw [a.v]; exact h2) (by rcases a.h with e | e <;> omega), a.keep i hi h1 h2 h3]
section
variable {n : Nat} {st : Sto} {Q : PV → Sto → Prop} {E : Exn → Sto → Prop} {W : Nat} {l : FL} {x : Fra} {hs vs : List PV} {y : PV}
theorem FR.push (F : FR st l x) (y : PV) : Up st (st.set l.h (.lst (x.hand ++ [y]))) l l { x with hand := x.hand ++ [y] } := by
  refine ⟨⟨F.ok, ?_, ?_, ?_, ?_⟩, rfl, rfl, rfl, .inl rfl, by simp, fun i _ _ _ h => by rw [List.getElem?_set_ne (Ne.symm h)]⟩
  · rw [List.getElem?_set_ne F.ok.fh.symm]; exact F.f
  · rw [List.getElem?_set_ne F.ok.sh.symm]; exact F.s
  · rw [List.getElem?_set_ne F.ok.vh.symm]; exact F.v
  · rw [List.getElem?_set_self (getN F.h)]
theorem FR.take (F : FR st l x) (e : x.hand = hs ++ vs) : Up st ((st ++ [Cell.lst hs]).set l.f (.lst [.loc l.s, .loc l.v, .loc st.length, .int x.pc])) l { l with h := st.length } { x with hand := hs } := by
  have lf := getN F.f
  have ls := getN F.s
  have lv := getN F.v
  refine ⟨⟨⟨F.ok.fv, by show l.f ≠ st.length; omega, by show l.v ≠ st.length; omega, F.ok.sf, F.ok.sv, by show l.s ≠ st.length; omega⟩, ?_, ?_, ?_, ?_⟩, rfl, rfl, rfl, .inr (Nat.le_refl _), by simp, fun i hi h _ _ => by rw [List.getElem?_set_ne (Ne.symm h), List.getElem?_append_left hi]⟩
  · rw [List.getElem?_set_self (by simp; omega)]
  · rw [List.getElem?_set_ne F.ok.sf.symm, List.getElem?_append_left ls]; exact F.s
  · rw [List.getElem?_set_ne F.ok.fv, List.getElem?_append_left lv]; exact F.v
  · show ((st ++ [Cell.lst hs]).set l.f _)[st.length]? = _
    rw [List.getElem?_set_ne (by omega), List.getElem?_append_right (Nat.le_refl _)]; simp
theorem FR.goTo (F : FR st l x) (p : Int) : Up st (st.set l.f (.lst [.loc l.s, .loc l.v, .loc l.h, .int p])) l l { x with pc := p } := by
  refine ⟨⟨F.ok, ?_, ?_, ?_, ?_⟩, rfl, rfl, rfl, .inl rfl, by simp, fun i _ h _ _ => by rw [List.getElem?_set_ne (Ne.symm h)]⟩
  · rw [List.getElem?_set_self (getN F.f)]
  · rw [List.getElem?_set_ne F.ok.sf.symm]; exact F.s
  · rw [List.getElem?_set_ne F.ok.fv]; exact F.v
  · rw [List.getElem?_set_ne F.ok.fh]; exact F.h
theorem FR.lay (F : FR st l x) (kv : List (PV × PV)) : Up st (st.set l.v (.dct kv)) l l { x with vars := kv } := by
  refine ⟨⟨F.ok, ?_, ?_, ?_, ?_⟩, rfl, rfl, rfl, .inl rfl, by simp, fun i _ _ h _ => by rw [List.getElem?_set_ne (Ne.symm h)]⟩
  · rw [List.getElem?_set_ne F.ok.fv.symm]; exact F.f
  · rw [List.getElem?_set_ne F.ok.sv.symm]; exact F.s
  · rw [List.getElem?_set_self (getN F.v)]
  · rw [List.getElem?_set_ne F.ok.vh]; exact F.h
theorem taken_up (F : FR st l x) (e : x.hand = hs ++ vs) {k : Int} (hk : k = vs.length) (hq : ∀ st' l', Up st st' l l' { x with hand := hs } → Q (.tup vs) st') : Z (F_Walk__taken n [.loc W, .loc l.f, .int k] st) Q E :=
  taken_spec F.f (by rw [F.h, e]) hk (hq _ _ (F.take e))
end
def wf (T S : Nat) (b : Int) (o : PV) : List (String × PV) := [("told_steps", .loc T), ("ticks_left", .int b), ("stack", .loc S), ("outcome", o)]
section
variable {T S : Nat} {b c : Int} {o y : PV}
@[simp] theorem wf_T : lookA (wf T S b o) "told_steps" = some (.loc T) := by simp [wf, lookA]
@[simp] theorem wf_b : lookA (wf T S b o) "ticks_left" = some (.int b) := by simp [wf, lookA]
@[simp] theorem wf_S : lookA (wf T S b o) "stack" = some (.loc S) := by simp [wf, lookA]
@[simp] theorem wf_o : lookA (wf T S b o) "outcome" = some o := by simp [wf, lookA]
@[simp] theorem wf_taken : lookA (wf T S b o) "taken" = none := by simp [wf, lookA]
@[simp] theorem wf_tick : lookA (wf T S b o) "tick" = none := by simp [wf, lookA]
@[simp] theorem wf_give : lookA (wf T S b o) "give" = none := by simp [wf, lookA]
@[simp] theorem wf_reckon : lookA (wf T S b o) "reckon" = none := by simp [wf, lookA]
@[simp] theorem wf_turn_step : lookA (wf T S b o) "turn_step" = none := by simp [wf, lookA]
@[simp] theorem wf_enter : lookA (wf T S b o) "enter" = none := by simp [wf, lookA]
@[simp] theorem wf_reckon_step : lookA (wf T S b o) "reckon_step" = none := by simp [wf, lookA]
@[simp] theorem wf_walked : lookA (wf T S b o) "walked" = none := by simp [wf, lookA]
@[simp] theorem wf_len : (wf T S b o).length < 1000 := by simp [wf]
@[simp] theorem wf_pb : putA "ticks_left" (.int c) (wf T S b o) = wf T S c o := by simp [wf, putA]
@[simp] theorem wf_po : putA "outcome" y (wf T S b o) = wf T S b y := by simp [wf, putA]
end
section
variable {n : Nat} {st : Sto} {Q : PV → Sto → Prop} {E : Exn → Sto → Prop} {W T S : Nat} {b : Int} {o : PV} {l : FL} {x : Fra} {hs vs : List PV} {y : PV}
@[simp ↓] theorem Z_aT (hw : st[W]? = some (.ins "Walk" (wf T S b o))) : Z (attrM ["Walk"] "told_steps" (.loc W) st) Q E = Q (.loc T) st := Z_attr hw (by simp) wf_T
@[simp ↓] theorem Z_ab (hw : st[W]? = some (.ins "Walk" (wf T S b o))) : Z (attrM ["Walk"] "ticks_left" (.loc W) st) Q E = Q (.int b) st := Z_attr hw (by simp) wf_b
@[simp ↓] theorem Z_aS (hw : st[W]? = some (.ins "Walk" (wf T S b o))) : Z (attrM ["Walk"] "stack" (.loc W) st) Q E = Q (.loc S) st := Z_attr hw (by simp) wf_S
@[simp ↓] theorem Z_ao (hw : st[W]? = some (.ins "Walk" (wf T S b o))) : Z (attrM ["Walk"] "outcome" (.loc W) st) Q E = Q o st := Z_attr hw (by simp) wf_o
theorem step_plain (F : FR st l x) (hl : x.hand.length < 16777216) {i : PV} (hq : ∀ st' l', Up st st' l l' { x with hand := x.hand ++ [i] } → Q .non st') :
    Z (F_Walk__reckon_step n [.loc W, .loc l.f, .tup [.str [112, 108, 97, 105, 110], i]] st) Q E := by
  rw [z_Walk__reckon_step, b_Walk__reckon_step]
  simp [F.f, F.h, L2.ixN, hl, hq _ _ (F.push _)]
def partAt (v : PV) : List Nat → Option PV
  | [] => some v
  | p :: ps => match v with
    | .tup xs => match xs[p]? with
      | some w => partAt w ps
      | none => none
    | _ => none
theorem atI_nat {α : Type} {xs : List α} {p : Nat} : L2.atI xs (p : Int) = xs[p]? := by
  unfold L2.atI L2.ixN
  rw [if_pos (by omega)]
  by_cases h : p < xs.length
  · rw [if_pos (by omega)]; simp
  · rw [if_neg (by omega), List.getElem?_eq_none (by omega)]; rfl
theorem value_at_go {w t : PV} : ∀ (ps : List Nat) (v : PV) (x2 : Option PV) (Q' : Fl → Sto → Prop) (E' : Exn → Sto → Prop), partAt v ps = some w → (∀ x2, Q' (.next [some w, some t, x2]) st) → Z (forL (gN 2) (L0_value_at n) (ps.map fun p => PV.int (p : Nat)) [some v, some t, x2] st) Q' E'
  | [], v, x2, Q', E', h, hq => by
    cases h
    rw [List.map_nil, Z_forL_nil]; exact hq x2
  | p :: ps, v, x2, Q', E', h, hq => by
    cases v <;> simp only [partAt] at h <;> try contradiction
    rename_i xs
    cases q : xs[p]? with
    | none => rw [q] at h; cases h
    | some u =>
      rw [q] at h
      rw [List.map_cons, Z_forL]
      simp [zL0_value_at, atI_nat, q]
      exact value_at_go ps u _ Q' E' h hq
theorem value_at_spec {ps : List Nat} {v w : PV} (h : partAt v ps = some w) (hq : Q w st) : Z (F_value_at n [v, .tup (ps.map fun p => .int (p : Nat))] st) Q E := by
  rw [z_value_at, b_value_at]
  simp
  refine value_at_go ps v _ _ _ h fun x2 => ?_
  simp [hq]
theorem step_of (F : FR st l x) {nm : List Nat} {ps : List Nat} {v w : PV} (hv : lookP x.vars (.str nm) = some v) (hp : partAt v ps = some w) (hl : x.hand.length < 16777216) (hq : ∀ st' l', Up st st' l l' { x with hand := x.hand ++ [w] } → Q .non st') :
    Z (F_Walk__reckon_step n [.loc W, .loc l.f, .tup [.str [111, 102], .str nm, .tup (ps.map fun p => .int (p : Nat))]] st) Q E := by
  rw [z_Walk__reckon_step, b_Walk__reckon_step]
  simp [F.f, F.h, F.v, L2.ixN, hv]
  refine value_at_spec hp ?_
  simp [F.f, F.h, F.v, L2.ixN, hl, hq _ _ (F.push _)]
def withP (fresh : PV) : Option PV → List Nat → Option PV
  | _, [] => some fresh
  | some (.tup xs), p :: ps => match withP fresh xs[p]? ps with
    | some w => if p < xs.length ∧ xs.length ≤ 1000 then some (.tup (xs.set p w)) else none
    | none => none
  | _, _ :: _ => none
theorem cut_tail {α : Type} {y : α} {ys : List α} : cutL (y :: ys) (some 1) none = ys := cut_back (a := [y]) (b := ys) rfl
theorem cut_set {α : Type} {xs : List α} {p : Nat} {w : α} (h : p < xs.length) : cutL xs none (some (p : Int)) ++ w :: cutL xs (some ((p : Int) + 1)) none = xs.set p w := by
  have e : ((p : Int) + 1) = ((p + 1 : Nat) : Int) := by omega
  unfold cutL
  rw [e, HT.sIx_nat, HT.sIx_nat, HT.sIx_none, HT.sIx_none, Nat.min_eq_left (by omega), Nat.min_eq_left (by omega), List.set_eq_take_append_cons_drop, if_pos h]
  simp
  exact List.take_of_length_le (by simp)
theorem okP_ints : ∀ (ps : List Nat), okP (.tup (ps.map fun p => PV.int (p : Nat))) = true := by
  intro ps
  have h : ∀ qs : List Nat, plPs (qs.map fun p => PV.int (p : Nat)) = true ∧ depPs (qs.map fun p => PV.int (p : Nat)) ≤ 1 := by
    intro qs
    induction qs with
    | nil => exact ⟨rfl, by decide⟩
    | cons q qs ih => simp [plPs, depPs, plP, depP, ih]
  simp [okP, plP, depP, h]
  have := (h ps).2
  omega
theorem with_field_spec {fresh : PV} : ∀ (ps : List Nat) (d : Nat) (o : Option PV) (w : PV) (Q : PV → Sto → Prop), ps.length < d → withP fresh o ps = some w → Q w st → Z (F_with_field n d [o.getD .non, .tup (ps.map fun p => .int (p : Nat)), fresh] st) Q E
  | [], d + 1, o, w, Q, _, h, hq => by
    have h' : some fresh = some w := by cases o <;> simpa [withP] using h
    cases h'
    rw [z_with_field, b_with_field]
    simp [Z_eqP (show okP (.tup []) = true from rfl) (show okP (.tup []) = true from rfl), hq]
  | p :: ps, d + 1, o, w, Q, hd, h, hq => by
    cases o with
    | none => simp [withP] at h
    | some v =>
      cases v <;> simp only [withP] at h <;> try contradiction
      rename_i xs
      cases r : withP fresh xs[p]? ps with
      | none => rw [r] at h; cases h
      | some w' =>
        rw [r] at h
        dsimp only at h
        by_cases hp : p < xs.length ∧ xs.length ≤ 1000
        · rw [if_pos hp] at h
          cases h
          obtain ⟨hp, hx⟩ := hp
          have q : xs[p]? = some xs[p] := List.getElem?_eq_getElem hp
          have ok := okP_ints (p :: ps)
          rw [List.map_cons] at ok
          rw [z_with_field, b_with_field]
          simp [Z_eqP ok (show okP (.tup []) = true from rfl), L2.ixN, atI_nat, q, cut_tail]
          rw [q] at r
          refine with_field_spec ps d (some xs[p]) w' _ (by simpa using hd) r ?_
          have l1 : (cutL xs none (some (p : Int))).length ≤ 1000 := by unfold cutL; simp; omega
          have l2 : (cutL xs (some ((p : Int) + 1)) none).length ≤ 1000 := by unfold cutL; simp; omega
          simp [cut_set hp, hq]
          omega
        · rw [if_neg hp] at h; cases h
@[simp ↓] theorem kGd_str {a : List Nat} {m : Nat} {z : PV} {kvs : List (PV × PV)} {s : Sto} (h : s[m]? = some (.dct kvs)) : kGd (.loc m) z Q E (.str a) s = Q ((lookP kvs (.str a)).getD z) s := kGd_at h rfl
theorem step_set (F : FR st l x) (hw : st[W]? = some (.ins "Walk" (wf T S b o))) {nm : List Nat} {ps : List Nat} {v w : PV} (e : x.hand = hs ++ [v]) (hp : ps.length < 4) (hv : withP v (lookP x.vars (.str nm)) ps = some w) (hk : x.vars.length < 1000)
    (hq : ∀ st' l', Up st st' l l' { x with hand := hs, vars := putP x.vars (.str nm) w } → Q .non st') :
    Z (F_Walk__reckon_step n [.loc W, .loc l.f, .tup [.str [115, 101, 116], .str nm, .tup (ps.map fun p => .int (p : Nat))]] st) Q E := by
  rw [z_Walk__reckon_step, b_Walk__reckon_step]
  simp [F.f, F.h, L2.ixN, hw]
  rw [z_Walk__turn_step, b_Walk__turn_step]
  simp [F.f, F.h, L2.ixN, hw]
  refine taken_up F e rfl fun st' l' u => ?_
  have ff := u.fr.f
  rw [u.f] at ff
  have hk' : x.vars.length < 16777216 := by omega
  simp [ff, u.fr.h, u.fr.v, L2.ixN]
  refine with_field_spec ps 4 _ w _ hp hv ?_
  simp [ff, u.fr.h, u.fr.v, L2.ixN, hk']
  exact hq _ _ (u.trans (u.fr.lay _))
@[simp ↓] theorem Z_eqB {a c : Bool} : Z (eqM (.bl a) (.bl c) st) Q E = Q (.bl (decide (a = c))) st := by cases a <;> cases c <;> exact propext Iff.rfl
theorem step_unless (F : FR st l x) (hw : st[W]? = some (.ins "Walk" (wf T S b o))) (hl : x.hand.length < 16777216) {i p : Int} (e : x.hand = hs ++ [.int i])
    (hq : ∀ st' l', Up st st' l l' { x with hand := hs, pc := if i = 0 then p else x.pc } → Q .non st') :
    Z (F_Walk__reckon_step n [.loc W, .loc l.f, .tup [.str [117, 110, 108, 101, 115, 115], .int p]] st) Q E := by
  rw [z_Walk__reckon_step, b_Walk__reckon_step]
  simp [F.f, F.h, L2.ixN, hw]
  rw [z_Walk__turn_step, b_Walk__turn_step]
  simp [F.f, F.h, L2.ixN, hw]
  refine taken_up F e rfl fun st' l' u => ?_
  have hs' : hs.length < 16777216 := by rw [e] at hl; simp at hl; omega
  have g0 := u.fr.goTo p
  have g1 := u.trans g0
  have ff := u.fr.f
  rw [u.f] at ff
  have f1 := g1.fr.f
  have h1 := g1.fr.h
  rw [u.f] at f1 h1
  dsimp only at f1 h1
  by_cases hi : i = 0
  · simp only [hi, if_true, not_true_eq_false, if_false] at hq
    simp [ff, u.fr.h, L2.ixN, hi, f1, h1, hs']
    simpa only [u.f] using hq _ _ g1
  · simp only [hi, if_false, not_false_eq_true, if_true] at hq
    simp [ff, u.fr.h, L2.ixN, hi, f1, h1, hs']
    exact hq _ _ u
theorem step_and (F : FR st l x) (hw : st[W]? = some (.ins "Walk" (wf T S b o))) (hl : x.hand.length < 16777216) {i p : Int} (e : x.hand = hs ++ [.int i])
    (hq : ∀ st' l', Up st st' l l' { x with hand := if i = 0 then hs ++ [.int 0] else hs, pc := if i = 0 then p else x.pc } → Q .non st') :
    Z (F_Walk__reckon_step n [.loc W, .loc l.f, .tup [.str [97, 110, 100], .int p]] st) Q E := by
  rw [z_Walk__reckon_step, b_Walk__reckon_step]
  simp [F.f, F.h, L2.ixN, hw]
  rw [z_Walk__turn_step, b_Walk__turn_step]
  simp [F.f, F.h, L2.ixN, hw]
  refine taken_up F e rfl fun st' l' u => ?_
  have hs' : hs.length < 16777216 := by rw [e] at hl; simp at hl; omega
  have g0 := u.fr.goTo p
  have g1 := u.trans g0
  have ff := u.fr.f
  rw [u.f] at ff
  have f1 := g1.fr.f
  have h1 := g1.fr.h
  rw [u.f] at f1 h1
  dsimp only at f1 h1
  by_cases hi : i = 0
  · simp only [hi, if_true, not_true_eq_false, if_false] at hq
    simp [ff, u.fr.h, L2.ixN, hi, f1, h1, hs']
    simpa only [u.f] using hq _ _ (g1.trans (g1.fr.push _))
  · simp only [hi, if_false, not_false_eq_true, if_true] at hq
    simp [ff, u.fr.h, L2.ixN, hi, f1, h1, hs']
    exact hq _ _ u
theorem step_or (F : FR st l x) (hw : st[W]? = some (.ins "Walk" (wf T S b o))) (hl : x.hand.length < 16777216) {i p : Int} (e : x.hand = hs ++ [.int i])
    (hq : ∀ st' l', Up st st' l l' { x with hand := if ¬ i = 0 then hs ++ [.int 1] else hs, pc := if ¬ i = 0 then p else x.pc } → Q .non st') :
    Z (F_Walk__reckon_step n [.loc W, .loc l.f, .tup [.str [111, 114], .int p]] st) Q E := by
  rw [z_Walk__reckon_step, b_Walk__reckon_step]
  simp [F.f, F.h, L2.ixN, hw]
  rw [z_Walk__turn_step, b_Walk__turn_step]
  simp [F.f, F.h, L2.ixN, hw]
  refine taken_up F e rfl fun st' l' u => ?_
  have hs' : hs.length < 16777216 := by rw [e] at hl; simp at hl; omega
  have g0 := u.fr.goTo p
  have g1 := u.trans g0
  have ff := u.fr.f
  rw [u.f] at ff
  have f1 := g1.fr.f
  have h1 := g1.fr.h
  rw [u.f] at f1 h1
  dsimp only at f1 h1
  by_cases hi : i = 0
  · simp only [hi, if_true, not_true_eq_false, if_false] at hq
    simp [ff, u.fr.h, L2.ixN, hi, f1, h1, hs']
    exact hq _ _ u
  · simp only [hi, if_false, not_false_eq_true, if_true] at hq
    simp [ff, u.fr.h, L2.ixN, hi, f1, h1, hs']
    simpa only [u.f] using hq _ _ (g1.trans (g1.fr.push _))
theorem step_tuple (F : FR st l x) (hw : st[W]? = some (.ins "Walk" (wf T S b o))) (nw : W ≠ l.f) (e : x.hand = hs ++ vs) (hl : x.hand.length < 16777216) {k : Int} (hk : k = vs.length) (hq : ∀ st' l', Up st st' l l' { x with hand := hs ++ [.tup vs] } → Q .non st') :
    Z (F_Walk__reckon_step n [.loc W, .loc l.f, .tup [.str [116, 117, 112, 108, 101], .int k]] st) Q E := by
  rw [z_Walk__reckon_step, b_Walk__reckon_step]
  simp [F.f, F.h, L2.ixN, hw]
  refine taken_up F e hk fun st' l' u => ?_
  have hs' : hs.length < 16777216 := by rw [e] at hl; simp at hl; omega
  have ff := u.fr.f
  rw [u.f] at ff
  simp [ff, u.fr.h, L2.ixN, hs']
  exact hq _ _ (u.trans (u.fr.push _))
theorem step_truth (F : FR st l x) (hw : st[W]? = some (.ins "Walk" (wf T S b o))) (nw : W ≠ l.f) {i : Int} (e : x.hand = hs ++ [.int i]) (hl : x.hand.length < 16777216) (hq : ∀ st' l', Up st st' l l' { x with hand := hs ++ [.int (if i = 0 then 0 else 1)] } → Q .non st') :
    Z (F_Walk__reckon_step n [.loc W, .loc l.f, .tup [.str [116, 114, 117, 116, 104]]] st) Q E := by
  rw [z_Walk__reckon_step, b_Walk__reckon_step]
  simp [F.f, F.h, L2.ixN, hw]
  refine taken_up F e rfl fun st' l' u => ?_
  have hs' : hs.length < 16777216 := by rw [e] at hl; simp at hl; omega
  have ff := u.fr.f
  rw [u.f] at ff
  by_cases hi : i = 0
  · simp [ff, u.fr.h, L2.ixN, hs', hi]
    simpa [hi] using hq _ _ (u.trans (u.fr.push (.int (if i = 0 then 0 else 1))))
  · simp [ff, u.fr.h, L2.ixN, hs', hi]
    simpa [hi] using hq _ _ (u.trans (u.fr.push (.int (if i = 0 then 0 else 1))))
theorem step_go (F : FR st l x) (hw : st[W]? = some (.ins "Walk" (wf T S b o))) {p : Int} (hq : ∀ st' l', Up st st' l l' { x with pc := p } → Q .non st') :
    Z (F_Walk__reckon_step n [.loc W, .loc l.f, .tup [.str [103, 111], .int p]] st) Q E := by
  rw [z_Walk__reckon_step, b_Walk__reckon_step]
  simp [F.f, F.h, L2.ixN, hw]
  rw [z_Walk__turn_step, b_Walk__turn_step]
  simp [F.f, F.h, L2.ixN, hq _ _ (F.goTo _)]
end
section
variable {n : Nat} {st : Sto} {Q : PV → Sto → Prop} {E : Exn → Sto → Prop} {W T S : Nat} {b : Int} {o : PV} {l : FL} {x : Fra} {hs vs : List PV} {y : PV}
abbrev dryP : PV := .tup [.str [100, 114, 121]]
theorem tick_spec (hw : st[W]? = some (.ins "Walk" (wf T S b o))) (h0 : b = 0 → Q (.bl false) (st.set W (.ins "Walk" (wf T S b dryP)))) (h1 : b ≠ 0 → Q (.bl true) (st.set W (.ins "Walk" (wf T S (b - 1) o)))) :
    Z (F_Walk__tick n [.loc W] st) Q E := by
  rw [z_Walk__tick, b_Walk__tick]
  by_cases hb : b = 0
  · subst hb
    simp [Z_ab hw, kSA2_at hw (List.mem_singleton.mpr rfl) wf_len]
    exact h0 rfl
  · simp [Z_ab hw, hb, kSA2_at hw (List.mem_singleton.mpr rfl) wf_len]
    exact h1 hb
theorem step_tick (hw : st[W]? = some (.ins "Walk" (wf T S b o))) (h0 : b = 0 → Q .non (st.set W (.ins "Walk" (wf T S b dryP)))) (h1 : b ≠ 0 → Q .non (st.set W (.ins "Walk" (wf T S (b - 1) o)))) :
    Z (F_Walk__reckon_step n [.loc W, .loc l.f, .tup [.str [116, 105, 99, 107]]] st) Q E := by
  rw [z_Walk__reckon_step, b_Walk__reckon_step]
  simp [L2.ixN, hw]
  rw [z_Walk__turn_step, b_Walk__turn_step]
  simp [L2.ixN, hw]
  refine tick_spec hw (fun hb => ?_) fun hb => ?_
  · simp; exact h0 hb
  · simp; exact h1 hb
structure OpOk (w : List Nat) (vs : List PV) (r : PV) : Prop where
  nn : w ≠ [110, 111, 116]
  ct : lookT tab_COUNTED w = some (.int vs.length)
  fa : ∀ (n : Nat) (st : Sto) (Q : PV → Sto → Prop) (E : Exn → Sto → Prop), Q .non st → Z (F_fault_of n [.str w, .tup vs] st) Q E
  dn : ∀ (n : Nat) (st : Sto) (Q : PV → Sto → Prop) (E : Exn → Sto → Prop), Q r st → Z (F_done n [.str w, .tup vs] st) Q E
structure OpBad (w : List Nat) (vs : List PV) (r : List Nat) : Prop where
  ct : lookT tab_COUNTED w = some (.int vs.length)
  fa : ∀ (n : Nat) (st : Sto) (Q : PV → Sto → Prop) (E : Exn → Sto → Prop), Q (.str r) st → Z (F_fault_of n [.str w, .tup vs] st) Q E
theorem step_op (F : FR st l x) (hw : st[W]? = some (.ins "Walk" (wf T S b o))) (nw : W ≠ l.f) (hl : x.hand.length < 16777216) {w : List Nat} {r : PV} (e : x.hand = hs ++ vs) (ho : OpOk w vs r)
    (hq : ∀ st' l', Up st st' l l' { x with hand := hs ++ [r] } → Q .non st') :
    Z (F_Walk__reckon_step n [.loc W, .loc l.f, .tup [.str [111, 112], .str w]] st) Q E := by
  rw [z_Walk__reckon_step, b_Walk__reckon_step]
  simp [F.f, F.h, L2.ixN, hw]
  rw [z_Walk__reckon, b_Walk__reckon]
  simp [F.f, F.h, L2.ixN, hw, Z_ixTab ho.ct]
  refine taken_up F e rfl fun st' l' u => ?_
  have hs' : hs.length < 16777216 := by rw [e] at hl; simp at hl; omega
  have ff := u.fr.f
  rw [u.f] at ff
  have nn := ho.nn
  simp
  refine ho.fa _ _ _ _ ?_
  simp [nn, ff, u.fr.h, L2.ixN, nonP]
  refine ho.dn _ _ _ _ ?_
  simp [nn, ff, u.fr.h, L2.ixN, hs']
  exact hq _ _ (u.trans (u.fr.push _))
theorem step_bad (F : FR st l x) (hw : st[W]? = some (.ins "Walk" (wf T S b o))) (nw : W ≠ l.f) (nv : W ≠ l.v) (nh : W ≠ l.h) {w r : List Nat} (e : x.hand = hs ++ vs) (ho : OpBad w vs r)
    (hq : ∀ st', st.length ≤ st'.length → (∀ i, i < st.length → i ≠ W → i ≠ l.f → i ≠ l.v → i ≠ l.h → st'[i]? = st[i]?) → st'[W]? = some (.ins "Walk" (wf T S b (.tup [.str [102, 97, 117, 108, 116], .str r]))) → Q .non st') :
    Z (F_Walk__reckon_step n [.loc W, .loc l.f, .tup [.str [111, 112], .str w]] st) Q E := by
  rw [z_Walk__reckon_step, b_Walk__reckon_step]
  simp [F.f, F.h, L2.ixN, hw]
  rw [z_Walk__reckon, b_Walk__reckon]
  simp [F.f, F.h, L2.ixN, hw, Z_ixTab ho.ct]
  refine taken_up F e rfl fun st' l' u => ?_
  have hw' := (u.keep W (getN hw) nw nv nh).trans hw
  simp
  refine ho.fa _ _ _ _ ?_
  simp [hw', nonP, kSA2_at hw' (List.mem_singleton.mpr rfl) wf_len]
  refine hq _ ?_ (fun i hi h1 h2 h3 h4 => (List.getElem?_set_ne (Ne.symm h1)).trans (u.keep i hi h2 h3 h4)) ?_
  · simpa using u.len
  · rw [List.getElem?_set_self (getN hw')]
theorem step_not (F : FR st l x) (hw : st[W]? = some (.ins "Walk" (wf T S b o))) (hl : x.hand.length < 16777216) {i : Int} (e : x.hand = hs ++ [.int i])
    (hq : ∀ st' l', Up st st' l l' { x with hand := hs ++ [.int (if i = 0 then 1 else 0)] } → Q .non st') :
    Z (F_Walk__reckon_step n [.loc W, .loc l.f, .tup [.str [111, 112], .str [110, 111, 116]]] st) Q E := by
  rw [z_Walk__reckon_step, b_Walk__reckon_step]
  simp [F.f, F.h, L2.ixN, hw]
  rw [z_Walk__reckon, b_Walk__reckon]
  simp [F.f, F.h, L2.ixN, hw, Z_ixTab (show lookT tab_COUNTED [110, 111, 116] = some (.int 1) from by decide +kernel)]
  refine taken_up F e rfl fun st' l' u => ?_
  have hs' : hs.length < 16777216 := by rw [e] at hl; simp at hl; omega
  have ff := u.fr.f
  rw [u.f] at ff
  simp
  rw [z_fault_of, b_fault_of]
  by_cases hi : i = 0
  · simp only [hi, if_true] at hq
    simp [Z_inT, flatP, ng, eqb, ff, u.fr.h, L2.ixN, hs', hi, nonP]
    exact hq _ _ (u.trans (u.fr.push _))
  · simp only [hi, if_false] at hq
    simp [Z_inT, flatP, ng, eqb, ff, u.fr.h, L2.ixN, hs', hi, nonP]
    exact hq _ _ (u.trans (u.fr.push _))
end
section
variable {n : Nat} {st : Sto} {Q : PV → Sto → Prop} {E : Exn → Sto → Prop} {W T S : Nat} {b : Int} {o : PV} {l : FL} {x : Fra} {hs vs : List PV} {y : PV} {R : List PV} {m : Nat}
theorem Z_eqNil0 (h : st[m]? = some (.lst [])) : Z (eqM (.loc m) (.lst []) st) Q E = Q (.bl true) st := by
  have e : shal (.loc m) st = .lst [] := by unfold shal; dsimp only; rw [h]
  have e' : shal (.lst []) st = .lst [] := rfl
  rw [Z_eq (by unfold cmpOk; rw [e, e']; exact Bool.or_eq_true_iff.mpr (.inr (by decide +kernel))), e, e']
  rfl
theorem Z_eqNil1 {z : PV} {zs : List PV} (h : st[m]? = some (.lst (z :: zs))) : Z (eqM (.loc m) (.lst []) st) Q E = Q (.bl false) st := by
  have e : shal (.loc m) st = .lst (z :: zs) := by unfold shal; dsimp only; rw [h]
  have e' : shal (.lst []) st = .lst [] := rfl
  by_cases hc : cmpOk (.loc m) (.lst []) st = true
  · rw [Z_eq hc, e, e', show eqb (.lst (z :: zs)) (.lst []) = false from by simp [eqb, eqbs]]
  · unfold eqM
    rw [if_neg hc, if_pos (by unfold lenNe; rw [e, e']; simp)]
    exact propext Iff.rfl
theorem Z_pop {ys : List PV} (h : st[m]? = some (.lst (ys ++ [y]))) : Z (popM (.loc m) [] st) Q E = Q y (st.set m (.lst ys)) := by
  unfold popM lstCell; dsimp only; rw [h]; dsimp only
  simp [Z]
theorem atI_last {α : Type} {ys : List α} {y : α} : L2.atI (ys ++ [y]) (-1) = some y := by
  unfold L2.atI L2.ixN
  rw [if_neg (by omega), if_pos (by simp; omega)]
  have e : ((-1 : Int) + ((ys ++ [y]).length : Nat)).toNat = ys.length := by simp; omega
  rw [e]
  simp
theorem step_give_end (F : FR st l x) (hw : st[W]? = some (.ins "Walk" (wf T S b o))) (hS : st[S]? = some (.lst [.loc l.f])) (nS : S ≠ W) (e : x.hand = hs ++ [y])
    (hq : ∀ st', st'.length = st.length → (∀ i, i ≠ W → i ≠ S → st'[i]? = st[i]?) → st'[W]? = some (.ins "Walk" (wf T S b (.tup [.str [98, 97, 99, 107], y]))) → Q .non st') :
    Z (F_Walk__reckon_step n [.loc W, .loc l.f, .tup [.str [103, 105, 118, 101]]] st) Q E := by
  rw [z_Walk__reckon_step, b_Walk__reckon_step]
  simp [F.f, F.h, L2.ixN, hw]
  rw [z_Walk__turn_step, b_Walk__turn_step]
  simp [F.f, F.h, L2.ixN, hw]
  rw [z_Walk__give, b_Walk__give]
  have hh := F.h
  rw [e] at hh
  have hw1 : (st.set S (.lst []))[W]? = some (.ins "Walk" (wf T S b o)) := by rw [List.getElem?_set_ne nS, hw]
  have hS1 : (st.set S (.lst []))[S]? = some (.lst []) := List.getElem?_set_self (getN hS)
  simp [F.f, hh, L2.ixN, atI_last, Z_aS hw, hS, Z_pop (ys := []) hS, Z_aS hw1, Z_eqNil0 hS1, kSA2_at hw1 (List.mem_singleton.mpr rfl) wf_len]
  refine hq _ (by simp) (fun i h1 h2 => (List.getElem?_set_ne (Ne.symm h1)).trans (List.getElem?_set_ne (Ne.symm h2))) ?_
  rw [List.getElem?_set_self (getN hw1)]
theorem step_give (F : FR st l x) {l2 : FL} {x2 : Fra} (F2 : FR st l2 x2) (hw : st[W]? = some (.ins "Walk" (wf T S b o))) (hS : st[S]? = some (.lst (R ++ [.loc l2.f] ++ [.loc l.f]))) (nS : S ≠ W) (n1 : S ≠ l2.f) (n2 : S ≠ l2.h) (hl : x2.hand.length < 16777216) (e : x.hand = hs ++ [y])
    (hq : Q .non ((st.set S (.lst (R ++ [.loc l2.f]))).set l2.h (.lst (x2.hand ++ [y])))) :
    Z (F_Walk__reckon_step n [.loc W, .loc l.f, .tup [.str [103, 105, 118, 101]]] st) Q E := by
  rw [z_Walk__reckon_step, b_Walk__reckon_step]
  simp [F.f, F.h, L2.ixN, hw]
  rw [z_Walk__turn_step, b_Walk__turn_step]
  simp [F.f, F.h, L2.ixN, hw]
  rw [z_Walk__give, b_Walk__give]
  have hh := F.h
  rw [e] at hh
  have hw1 : (st.set S (.lst (R ++ [.loc l2.f])))[W]? = some (.ins "Walk" (wf T S b o)) := by rw [List.getElem?_set_ne nS, hw]
  have hS1 : (st.set S (.lst (R ++ [.loc l2.f])))[S]? = some (.lst (R ++ [.loc l2.f])) := List.getElem?_set_self (getN hS)
  have hf1 : (st.set S (.lst (R ++ [.loc l2.f])))[l2.f]? = _ := (List.getElem?_set_ne n1).trans F2.f
  have hh1 : (st.set S (.lst (R ++ [.loc l2.f])))[l2.h]? = _ := (List.getElem?_set_ne n2).trans F2.h
  have hne : ∀ (Q : PV → Sto → Prop) (E : Exn → Sto → Prop), Z (eqM (.loc S) (.lst []) (st.set S (.lst (R ++ [.loc l2.f])))) Q E = Q (.bl false) (st.set S (.lst (R ++ [.loc l2.f]))) := fun Q E => by
    cases R with
    | nil => exact Z_eqNil1 hS1
    | cons r R => exact Z_eqNil1 hS1
  simp only [List.append_assoc] at hS
  simp [F.f, hh, L2.ixN, atI_last, Z_aS hw, hS, Z_pop (ys := R ++ [.loc l2.f]) (y := .loc l.f) (by rw [hS]; simp), Z_aS hw1, hne, hS1, hf1, hh1, hl]
  exact hq
end
section
variable {n : Nat} {st : Sto} {Q : PV → Sto → Prop} {E : Exn → Sto → Prop} {W T S : Nat} {b : Int} {o : PV} {R : List PV}
def laidIn : List PV → List PV → List (PV × PV) → List (PV × PV)
  | p :: ps, v :: vs, kv => laidIn ps vs (putP kv p v)
  | _, _, kv => kv
theorem enter_go {d : Nat} {a0 a1 a2 a3 a4 : Option PV} : ∀ (ps : List (List Nat)) (vs : List PV) (kv : List (PV × PV)) (st : Sto) (x6 x7 : Option PV) (Q' : Fl → Sto → Prop) (E' : Exn → Sto → Prop), st[d]? = some (.dct kv) → kv.length + ps.length < 1000 →
    (∀ x6 x7, Q' (.next [a0, a1, a2, a3, a4, some (.loc d), x6, x7]) (st.set d (.dct (laidIn (ps.map .str) vs kv)))) →
    Z (forL (gT 2 (gsCons (gN 6) (gsCons (gN 7) gsNil))) (L0_Walk__enter n) (zipP (ps.map .str) vs) [a0, a1, a2, a3, a4, some (.loc d), x6, x7] st) Q' E'
  | [], vs, kv, st, x6, x7, Q', E', hd, hl, hq => by
    have e : zipP (([] : List (List Nat)).map .str) vs = [] := by cases vs <;> rfl
    rw [e, Z_forL_nil]
    have h := hq x6 x7
    have e2 : laidIn (([] : List (List Nat)).map .str) vs kv = kv := by cases vs <;> rfl
    rw [e2, show st.set d (.dct kv) = st from by
      refine List.ext_getElem? fun i => ?_
      by_cases hi : d = i
      · subst hi; rw [List.getElem?_set_self (getN hd), hd]
      · rw [List.getElem?_set_ne hi]] at h
    exact h
  | p :: ps, [], kv, st, x6, x7, Q', E', hd, hl, hq => by
    have e : zipP ((p :: ps).map .str) [] = [] := rfl
    rw [e, Z_forL_nil]
    have h := hq x6 x7
    have e2 : laidIn ((p :: ps).map .str) [] kv = kv := rfl
    rw [e2, show st.set d (.dct kv) = st from by
      refine List.ext_getElem? fun i => ?_
      by_cases hi : d = i
      · subst hi; rw [List.getElem?_set_self (getN hd), hd]
      · rw [List.getElem?_set_ne hi]] at h
    exact h
  | p :: ps, v :: vs, kv, st, x6, x7, Q', E', hd, hl, hq => by
    have hk : kv.length < 16777216 := by simp at hl; omega
    rw [List.map_cons, zipP, Z_forL]
    simp [zL0_Walk__enter, hd, hk]
    refine enter_go ps vs (putP kv (.str p) v) _ _ _ Q' E' (List.getElem?_set_self (getN hd)) ?_ fun x6 x7 => ?_
    · have : (putP kv (.str p) v).length ≤ kv.length + 1 := by unfold putP; split <;> simp
      simp at hl
      omega
    · rw [List.set_set]
      exact hq x6 x7
end
section
variable {n : Nat} {st : Sto} {Q : PV → Sto → Prop} {E : Exn → Sto → Prop} {W T S sl : Nat} {b : Int} {o : PV} {R : List PV} {told : List (PV × PV)} {nm : List Nat} {ps : List (List Nat)} {vs : List PV}
theorem enter_spec (hw : st[W]? = some (.ins "Walk" (wf T S b o))) (hT : st[T]? = some (.dct told)) (hn : lookP told (.str nm) = some (.tup [.lst (ps.map .str), .loc sl])) (hS : st[S]? = some (.lst R)) (hR : R.length < 16777216) (hp : ps.length < 1000)
    (hq : Q .non ((st ++ [Cell.dct (laidIn (ps.map .str) vs []), .lst [], .lst [.loc sl, .loc st.length, .loc (st.length + 1), .int 0]]).set S (.lst (R ++ [.loc (st.length + 2)])))) :
    Z (F_Walk__enter n [.loc W, .str nm, .tup vs] st) Q E := by
  rw [z_Walk__enter, b_Walk__enter]
  simp [Z_aT hw, hT, hn]
  refine enter_go ps vs [] _ _ _ _ _ (by simp) (by simpa using hp) fun x6 x7 => ?_
  have e1 : (st ++ [Cell.dct []]).set st.length (.dct (laidIn (ps.map .str) vs [])) = st ++ [Cell.dct (laidIn (ps.map .str) vs [])] := by
    rw [List.set_append_right _ _ (Nat.le_refl _)]; simp
  have hw1 : (st ++ [Cell.dct (laidIn (ps.map .str) vs [])])[W]? = some (.ins "Walk" (wf T S b o)) := by rw [List.getElem?_append_left (getN hw), hw]
  have hS1 : (st ++ [Cell.dct (laidIn (ps.map .str) vs [])])[S]? = some (.lst R) := by rw [List.getElem?_append_left (getN hS), hS]
  have hS2 : ∀ t : Sto, (st ++ t)[S]? = some (.lst R) := fun t => by rw [List.getElem?_append_left (getN hS), hS]
  rw [e1]
  simp [Z_aS hw1, hS1, hS2, hR]
  exact hq
theorem step_call_dry {l : FL} {x : Fra} {hs : List PV} (F : FR st l x) (hw : st[W]? = some (.ins "Walk" (wf T S 0 o))) (nf : W ≠ l.f) (nv : W ≠ l.v) (nh : W ≠ l.h) (e : x.hand = hs ++ vs) {k : Int} (hk : k = vs.length)
    (hq : ∀ st', st.length ≤ st'.length → (∀ i, i < st.length → i ≠ W → i ≠ l.f → i ≠ l.v → i ≠ l.h → st'[i]? = st[i]?) → st'[W]? = some (.ins "Walk" (wf T S 0 dryP)) → Q .non st') :
    Z (F_Walk__reckon_step n [.loc W, .loc l.f, .tup [.str [99, 97, 108, 108], .str nm, .int k]] st) Q E := by
  rw [z_Walk__reckon_step, b_Walk__reckon_step]
  simp [F.f, F.h, L2.ixN, hw]
  rw [z_Walk__turn_step, b_Walk__turn_step]
  simp [F.f, F.h, L2.ixN, hw]
  refine taken_up F e hk fun st' l' u => ?_
  have hw' := (u.keep W (getN hw) nf nv nh).trans hw
  simp [hw']
  refine tick_spec hw' (fun _ => ?_) fun hb => absurd rfl hb
  simp
  exact hq _ (by simpa using u.len) (fun i hi h1 h2 h3 h4 => (List.getElem?_set_ne (Ne.symm h1)).trans (u.keep i hi h2 h3 h4)) (List.getElem?_set_self (getN hw'))
theorem step_call {l : FL} {x : Fra} {hs : List PV} (F : FR st l x) (hw : st[W]? = some (.ins "Walk" (wf T S b o))) (nf : W ≠ l.f) (nv : W ≠ l.v) (nh : W ≠ l.h) (nT : T ≠ l.f ∧ T ≠ l.v ∧ T ≠ l.h) (nS : S ≠ l.f ∧ S ≠ l.v ∧ S ≠ l.h) (WT : W ≠ T) (WS : W ≠ S) (hb : b ≠ 0)
    (hT : st[T]? = some (.dct told)) (hn : lookP told (.str nm) = some (.tup [.lst (ps.map .str), .loc sl])) (hS : st[S]? = some (.lst R)) (hR : R.length < 16777216) (hp : ps.length < 1000) (e : x.hand = hs ++ vs) {k : Int} (hk : k = vs.length)
    (hq : ∀ st' l', Up st st' l l' { x with hand := hs } → Q .non (((st'.set W (.ins "Walk" (wf T S (b - 1) o))) ++ [Cell.dct (laidIn (ps.map .str) vs []), .lst [], .lst [.loc sl, .loc st'.length, .loc (st'.length + 1), .int 0]]).set S (.lst (R ++ [.loc (st'.length + 2)])))) :
    Z (F_Walk__reckon_step n [.loc W, .loc l.f, .tup [.str [99, 97, 108, 108], .str nm, .int k]] st) Q E := by
  rw [z_Walk__reckon_step, b_Walk__reckon_step]
  simp [F.f, F.h, L2.ixN, hw]
  rw [z_Walk__turn_step, b_Walk__turn_step]
  simp [F.f, F.h, L2.ixN, hw]
  refine taken_up F e hk fun st' l' u => ?_
  have hw' := (u.keep W (getN hw) nf nv nh).trans hw
  have hT' := (u.keep T (getN hT) nT.1 nT.2.1 nT.2.2).trans hT
  have hS' := (u.keep S (getN hS) nS.1 nS.2.1 nS.2.2).trans hS
  simp [hw']
  refine tick_spec hw' (fun h0 => absurd h0 hb) fun hb => ?_
  have hw2 : (st'.set W (.ins "Walk" (wf T S (b - 1) o)))[W]? = some (.ins "Walk" (wf T S (b - 1) o)) := List.getElem?_set_self (getN hw')
  simp [hw2, L2.ixN]
  refine enter_spec hw2 ((List.getElem?_set_ne WT).trans hT') hn ((List.getElem?_set_ne WS).trans hS') hR hp ?_
  simp
  simpa using hq st' l' u
end
def muts (ls : List FL) : List Nat := ls.flatMap fun l => [l.f, l.v, l.h]
structure Cod where
  look : List Nat → Option (List (List Nat) × List PV)
  N : Nat
  st0 : Sto
instance : CoeFun Cod fun _ => List Nat → Option (List (List Nat) × List PV) := ⟨Cod.look⟩
structure Old (code : Cod) (st : Sto) : Prop where
  len : code.N ≤ st.length
  keep : ∀ i, i < code.N → st[i]? = code.st0[i]?
inductive FRs (st : Sto) : List FL → List Fra → Prop
  | nil : FRs st [] []
  | cons {l : FL} {x : Fra} {ls : List FL} {xs : List Fra} : FR st l x → FRs st ls xs → FRs st (l :: ls) (x :: xs)
structure Rep (code : Cod) (st : Sto) (W T S : Nat) (b : Int) (ls : List FL) (xs : List Fra) : Prop where
  hw : st[W]? = some (.ins "Walk" (wf T S b .non))
  hT : ∃ told, st[T]? = some (.dct told) ∧ ∀ nm ps ss, code nm = some (ps, ss) → ps.length < 1000 ∧ ∃ sl, lookP told (.str nm) = some (.tup [.lst (ps.map .str), .loc sl]) ∧ st[sl]? = some (.lst ss) ∧ sl ∉ W :: S :: muts ls
  hS : st[S]? = some (.lst ((ls.map fun l => PV.loc l.f).reverse))
  fr : FRs st ls xs
  ap : (W :: T :: S :: muts ls).Nodup
  sh : ∀ l ∈ ls, l.s ∉ W :: S :: muts ls
  old : Old code st
  lo : ∀ m ∈ W :: T :: S :: muts ls, code.N ≤ m
theorem FR.keep {st st' : Sto} {l : FL} {x : Fra} (F : FR st l x) (h : ∀ i, i = l.f ∨ i = l.s ∨ i = l.v ∨ i = l.h → st'[i]? = st[i]?) : FR st' l x :=
  ⟨F.ok, (h _ (.inl rfl)).trans F.f, (h _ (.inr (.inl rfl))).trans F.s, (h _ (.inr (.inr (.inl rfl)))).trans F.v, (h _ (.inr (.inr (.inr rfl)))).trans F.h⟩
theorem FRs.keep {st st' : Sto} : ∀ {ls : List FL} {xs : List Fra}, FRs st ls xs → (∀ l ∈ ls, ∀ i, i = l.f ∨ i = l.s ∨ i = l.v ∨ i = l.h → i < st.length → st'[i]? = st[i]?) → FRs st' ls xs
  | _, _, .nil, _ => .nil
  | _, _, .cons F r, h => .cons (F.keep fun i hi => h _ (List.mem_cons_self ..) i hi (by
      rcases hi with e | e | e | e
      · rw [e]; exact getN F.f
      · rw [e]; exact getN F.s
      · rw [e]; exact getN F.v
      · rw [e]; exact getN F.h)) (FRs.keep r fun l hl => h l (List.mem_cons_of_mem _ hl))
theorem mem_muts {ls : List FL} {l : FL} (h : l ∈ ls) : l.f ∈ muts ls ∧ l.v ∈ muts ls ∧ l.h ∈ muts ls := by
  refine ⟨?_, ?_, ?_⟩ <;> exact List.mem_flatMap.mpr ⟨l, h, by simp⟩
theorem FRs.lt {st : Sto} : ∀ {ls : List FL} {xs : List Fra}, FRs st ls xs → ∀ i ∈ muts ls, i < st.length
  | _, _, .nil, i, h => by simp [muts] at h
  | _, _, .cons F r, i, h => by
    simp [muts] at h
    rcases h with e | e | e | ⟨l, hl, e⟩
    · rw [e]; exact getN F.f
    · rw [e]; exact getN F.v
    · rw [e]; exact getN F.h
    · exact FRs.lt r i (List.mem_flatMap.mpr ⟨l, hl, by simpa using e⟩)
theorem FRs.lts {st : Sto} : ∀ {ls : List FL} {xs : List Fra}, FRs st ls xs → ∀ l ∈ ls, l.s < st.length
  | _, _, .nil, l, h => by cases h
  | _, _, .cons F r, l, h => by
    rcases List.mem_cons.mp h with e | e
    · rw [e]; exact getN F.s
    · exact FRs.lts r l e
section
variable {code : Cod} {st st' : Sto} {W T S : Nat} {b : Int} {l l' : FL} {ls : List FL} {x x' : Fra} {xs : List Fra}
theorem Rep.up (r : Rep code st W T S b (l :: ls) (x :: xs)) (u : Up st st' l l' x') : Rep code st' W T S b (l' :: ls) (x' :: xs) := by
  obtain ⟨hw, ⟨told, hT, hc⟩, hS, fr, ap, sh, od, lo⟩ := r
  cases fr with
  | cons F fr =>
    have lt := fr.lt
    have lW := getN hw
    have lT := getN hT
    have lS := getN hS
    have lf := getN F.f
    have lv := getN F.v
    have lh := getN F.h
    have hm : muts (l :: ls) = l.f :: l.v :: l.h :: muts ls := rfl
    have hm' : muts (l' :: ls) = l.f :: l.v :: l'.h :: muts ls := by show l'.f :: l'.v :: l'.h :: muts ls = _; rw [u.f, u.v]
    rw [hm] at ap hc sh lo
    simp only [List.nodup_cons, List.mem_cons, not_or] at ap
    have lof := lo l.f (by simp)
    have lov := lo l.v (by simp)
    have loh := lo l.h (by simp)
    have lh' : code.N ≤ l'.h := by rcases u.h with e | e
                                   · rw [e]; exact loh
                                   · have := od.len; omega
    obtain ⟨⟨W1, W2, W3, W4, W5, W6⟩, ⟨T2, T3, T4, T5, T6⟩, ⟨S3, S4, S5, S6⟩, ⟨f4, f5, f6⟩, ⟨v5, v6⟩, h6, nd⟩ := ap
    have nh : ∀ i, i < st.length → i ≠ l.h → i ≠ l'.h := fun i hi h => by rcases u.h with e | e <;> omega
    have nm : l'.h ∉ muts ls := fun hi => by
      rcases u.h with e | e
      · rw [e] at hi; exact h6 hi
      · have := lt _ hi; omega
    refine ⟨(u.keep W lW W3 W4 W5).trans hw, ⟨told, (u.keep T lT T3 T4 T5).trans hT, fun nm' ps ss h => ?_⟩, ?_, .cons u.fr (fr.keep fun l2 h2 i hi il => ?_), ?_, fun l2 h2 => ?_, ⟨Nat.le_trans od.len u.len, fun i hi => (u.keep i (Nat.lt_of_lt_of_le hi od.len) (by omega) (by omega) (by omega)).trans (od.keep i hi)⟩, ?_⟩
    · obtain ⟨h1, sl, h2, h3, h4⟩ := hc nm' ps ss h
      simp only [List.mem_cons, not_or] at h4
      refine ⟨h1, sl, h2, (u.keep sl (getN h3) h4.2.2.1 h4.2.2.2.1 h4.2.2.2.2.1).trans h3, ?_⟩
      rw [hm']
      simp only [List.mem_cons, not_or]
      exact ⟨h4.1, h4.2.1, h4.2.2.1, h4.2.2.2.1, nh _ (getN h3) h4.2.2.2.2.1, h4.2.2.2.2.2⟩
    · rw [u.keep S lS S3 S4 S5, hS]
      simp [u.f]
    · have m2 := mem_muts h2
      have s2 := sh l2 (List.mem_cons_of_mem _ h2)
      simp only [List.mem_cons, not_or] at s2
      rcases hi with e | e | e | e
      · subst e; exact u.keep _ il (fun z => f6 (z ▸ m2.1)) (fun z => v6 (z ▸ m2.1)) (fun z => h6 (z ▸ m2.1))
      · subst e; exact u.keep _ il s2.2.2.1 s2.2.2.2.1 s2.2.2.2.2.1
      · subst e; exact u.keep _ il (fun z => f6 (z ▸ m2.2.1)) (fun z => v6 (z ▸ m2.2.1)) (fun z => h6 (z ▸ m2.2.1))
      · subst e; exact u.keep _ il (fun z => f6 (z ▸ m2.2.2)) (fun z => v6 (z ▸ m2.2.2)) (fun z => h6 (z ▸ m2.2.2))
    · rw [hm']
      simp only [List.nodup_cons, List.mem_cons, not_or]
      exact ⟨⟨W1, W2, W3, W4, nh _ lW W5, W6⟩, ⟨T2, T3, T4, nh _ lT T5, T6⟩, ⟨S3, S4, nh _ lS S5, S6⟩, ⟨f4, nh _ lf f5, f6⟩, ⟨nh _ lv v5, v6⟩, nm, nd⟩
    · have key : ∀ s0, s0 < st.length → s0 ∉ W :: S :: l.f :: l.v :: l.h :: muts ls → s0 ∉ W :: S :: muts (l' :: ls) := fun s0 h0 h => by
        rw [hm']
        simp only [List.mem_cons, not_or] at h ⊢
        exact ⟨h.1, h.2.1, h.2.2.1, h.2.2.2.1, nh _ h0 h.2.2.2.2.1, h.2.2.2.2.2⟩
      rcases List.mem_cons.mp h2 with e | e
      · subst e; rw [u.s]; exact key _ (getN F.s) (sh l (List.mem_cons_self ..))
      · exact key _ (fr.lts l2 e) (sh l2 (List.mem_cons_of_mem _ e))
    · rw [hm']
      intro m hm2
      simp only [List.mem_cons] at hm2 lo
      rcases hm2 with e | e | e | e | e | e | e
      · exact lo m (.inl e)
      · exact lo m (.inr (.inl e))
      · exact lo m (.inr (.inr (.inl e)))
      · rw [e]; exact lof
      · rw [e]; exact lov
      · rw [e]; exact lh'
      · exact lo m (.inr (.inr (.inr (.inr (.inr (.inr e))))))
theorem Rep.tick (r : Rep code st W T S b ls xs) (c : Int) : Rep code (st.set W (.ins "Walk" (wf T S c .non))) W T S c ls xs := by
  obtain ⟨hw, ⟨told, hT, hc⟩, hS, fr, ap, sh, od, lo⟩ := r
  have ap' := ap
  have loW := lo W (by simp)
  simp only [List.nodup_cons, List.mem_cons, not_or] at ap'
  obtain ⟨⟨W1, W2, W3⟩, _⟩ := ap'
  refine ⟨List.getElem?_set_self (getN hw), ⟨told, (List.getElem?_set_ne W1).trans hT, fun nm ps ss h => ?_⟩, (List.getElem?_set_ne W2).trans hS, fr.keep fun l hl i hi il => List.getElem?_set_ne fun e => ?_, ap, sh, ⟨by simpa using od.len, fun i hi => (List.getElem?_set_ne (by omega)).trans (od.keep i hi)⟩, lo⟩
  · obtain ⟨h1, sl, h2, h3, h4⟩ := hc nm ps ss h
    have h5 := h4
    simp only [List.mem_cons, not_or] at h5
    exact ⟨h1, sl, h2, (List.getElem?_set_ne (Ne.symm h5.1)).trans h3, h4⟩
  · have m2 := mem_muts hl
    have s2 := sh l hl
    simp only [List.mem_cons, not_or] at s2
    rcases hi with z | z | z | z
    · exact W3 (by rw [e, z]; exact m2.1)
    · exact s2.1 (by rw [← z, ← e])
    · exact W3 (by rw [e, z]; exact m2.2.1)
    · exact W3 (by rw [e, z]; exact m2.2.2)
theorem Rep.give (r : Rep code st W T S b (l :: l2 :: ls) (x :: x2 :: xs)) (y : PV) : Rep code ((st.set S (.lst ((ls.map fun l => PV.loc l.f).reverse ++ [.loc l2.f]))).set l2.h (.lst (x2.hand ++ [y]))) W T S b (l2 :: ls) ({ x2 with hand := x2.hand ++ [y] } :: xs) := by
  obtain ⟨hw, ⟨told, hT, hc⟩, hS, fr, ap, sh, od, lo⟩ := r
  cases fr with
  | cons F fr =>
    have hm : muts (l :: l2 :: ls) = l.f :: l.v :: l.h :: muts (l2 :: ls) := rfl
    rw [hm] at ap hc sh lo
    have loS := lo S (by simp)
    simp only [List.nodup_cons, List.mem_cons, not_or] at ap
    obtain ⟨⟨W1, W2, _, _, _, W6⟩, ⟨T2, _, _, _, T6⟩, ⟨_, _, _, S6⟩, _, _, _, nd⟩ := ap
    have r1 : Rep code (st.set S (.lst ((ls.map fun l => PV.loc l.f).reverse ++ [.loc l2.f]))) W T S b (l2 :: ls) (x2 :: xs) := by
      refine ⟨(List.getElem?_set_ne (Ne.symm W2)).trans hw, ⟨told, (List.getElem?_set_ne (Ne.symm T2)).trans hT, fun nm ps ss h => ?_⟩, ?_, fr.keep fun l3 hl i hi il => List.getElem?_set_ne fun e => ?_, ?_, fun l3 h3 => ?_, ⟨by simpa using od.len, fun i hi => (List.getElem?_set_ne (by omega)).trans (od.keep i hi)⟩, fun m h3 => lo m ?_⟩
      · obtain ⟨h1, sl, h2, h3, h4⟩ := hc nm ps ss h
        simp only [List.mem_cons, not_or] at h4
        refine ⟨h1, sl, h2, (List.getElem?_set_ne (Ne.symm h4.2.1)).trans h3, ?_⟩
        simp only [List.mem_cons, not_or]
        exact ⟨h4.1, h4.2.1, h4.2.2.2.2.2⟩
      · rw [List.getElem?_set_self (getN hS)]; simp
      · have m2 := mem_muts hl
        have s2 := sh l3 (List.mem_cons_of_mem _ hl)
        simp only [List.mem_cons, not_or] at s2
        rcases hi with z | z | z | z
        · exact S6 (by rw [e, z]; exact m2.1)
        · exact s2.2.1 (by rw [← z, ← e])
        · exact S6 (by rw [e, z]; exact m2.2.1)
        · exact S6 (by rw [e, z]; exact m2.2.2)
      · simp only [List.nodup_cons, List.mem_cons, not_or]
        exact ⟨⟨W1, W2, W6⟩, ⟨T2, T6⟩, S6, nd⟩
      · have s2 := sh l3 (List.mem_cons_of_mem _ h3)
        simp only [List.mem_cons, not_or] at s2 ⊢
        exact ⟨s2.1, s2.2.1, s2.2.2.2.2.2⟩
      · simp only [List.mem_cons] at h3 ⊢
        rcases h3 with e | e | e | e
        · exact .inl e
        · exact .inr (.inl e)
        · exact .inr (.inr (.inl e))
        · exact .inr (.inr (.inr (.inr (.inr (.inr e)))))
    cases r1.fr with
    | cons F2 _ => exact r1.up (F2.push y)
end
section
variable {code : Cod} {st st' : Sto} {W T S : Nat} {b : Int} {l l' : FL} {ls : List FL} {x x' : Fra} {xs : List Fra}
theorem FRs.app {t : Sto} (fr : FRs st ls xs) : FRs (st ++ t) ls xs := fr.keep fun _ _ i _ il => List.getElem?_append_left il
theorem Rep.enter (r : Rep code st W T S b ls xs) {nm : List Nat} {ps : List (List Nat)} {ss : List PV} (h : code nm = some (ps, ss)) (kv : List (PV × PV)) :
    ∃ told sl, st[T]? = some (.dct told) ∧ lookP told (.str nm) = some (.tup [.lst (ps.map .str), .loc sl]) ∧ ps.length < 1000 ∧
      Rep code ((st ++ [Cell.dct kv, .lst [], .lst [.loc sl, .loc st.length, .loc (st.length + 1), .int 0]]).set S (.lst ((ls.map fun l => PV.loc l.f).reverse ++ [.loc (st.length + 2)]))) W T S b (⟨st.length + 2, sl, st.length, st.length + 1⟩ :: ls) (⟨ss, kv, [], 0⟩ :: xs) := by
  obtain ⟨hw, ⟨told, hT, hc⟩, hS, fr, ap, sh, od, lo⟩ := r
  have loS := lo S (by simp)
  have odl := od.len
  obtain ⟨hp, sl, hn, hs, hm⟩ := hc nm ps ss h
  refine ⟨told, sl, hT, hn, hp, ?_⟩
  have lW := getN hw
  have lT := getN hT
  have lS := getN hS
  have lsl := getN hs
  have lt := fr.lt
  have ap' := ap
  simp only [List.nodup_cons, List.mem_cons, not_or] at ap' hm
  obtain ⟨⟨W1, W2, W3⟩, ⟨T2, T3⟩, S3, nd⟩ := ap'
  have old : ∀ i, i < st.length → S ≠ i → ((st ++ [Cell.dct kv, .lst [], .lst [.loc sl, .loc st.length, .loc (st.length + 1), .int 0]]).set S (.lst ((ls.map fun l => PV.loc l.f).reverse ++ [.loc (st.length + 2)])))[i]? = st[i]? := fun i hi e => by
    rw [List.getElem?_set_ne e, List.getElem?_append_left hi]
  have new : ∀ k, st.length ≤ k → ((st ++ [Cell.dct kv, .lst [], .lst [.loc sl, .loc st.length, .loc (st.length + 1), .int 0]]).set S (.lst ((ls.map fun l => PV.loc l.f).reverse ++ [.loc (st.length + 2)])))[k]? = [Cell.dct kv, .lst [], .lst [.loc sl, .loc st.length, .loc (st.length + 1), .int 0]][k - st.length]? := fun k hk => by
    rw [List.getElem?_set_ne (by omega), List.getElem?_append_right hk]
  have mu : muts (⟨st.length + 2, sl, st.length, st.length + 1⟩ :: ls) = (st.length + 2) :: st.length :: (st.length + 1) :: muts ls := rfl
  have nn : ∀ k, st.length ≤ k → k ∉ muts ls := fun k hk h => by have := lt k h; omega
  have key : ∀ s0, s0 < st.length → s0 ∉ W :: S :: muts ls → s0 ∉ W :: S :: muts (⟨st.length + 2, sl, st.length, st.length + 1⟩ :: ls) := fun s0 h0 h => by
    rw [mu]
    simp only [List.mem_cons, not_or] at h ⊢
    exact ⟨h.1, h.2.1, by omega, by omega, by omega, h.2.2⟩
  refine ⟨(old W lW (Ne.symm W2)).trans hw, ⟨told, (old T lT (Ne.symm T2)).trans hT, fun nm' ps' ss' h' => ?_⟩, ?_, .cons ⟨⟨by show st.length + 2 ≠ st.length; omega, by show st.length + 2 ≠ st.length + 1; omega, by show st.length ≠ st.length + 1; omega, by show sl ≠ st.length + 2; omega, by show sl ≠ st.length; omega, by show sl ≠ st.length + 1; omega⟩, ?_, ?_, ?_, ?_⟩ (fr.keep fun l2 hl i hi il => old i il fun e => ?_), ?_, fun l2 h2 => ?_, ⟨by simp; omega, fun i hi => (old i (by omega) (by omega)).trans (od.keep i hi)⟩, ?_⟩
  · obtain ⟨h1, sl', h2, h3, h4⟩ := hc nm' ps' ss' h'
    have h5 := h4
    simp only [List.mem_cons, not_or] at h5
    exact ⟨h1, sl', h2, (old sl' (getN h3) (Ne.symm h5.2.1)).trans h3, key _ (getN h3) h4⟩
  · rw [List.getElem?_set_self (by simp; omega)]; simp
  · rw [new _ (by show st.length ≤ st.length + 2; omega)]; simp
  · exact (old sl lsl (Ne.symm hm.2.1)).trans hs
  · rw [new _ (Nat.le_refl _)]; simp
  · rw [new _ (by show st.length ≤ st.length + 1; omega)]; simp
  · have m2 := mem_muts hl
    have s2 := sh l2 hl
    simp only [List.mem_cons, not_or] at s2
    rcases hi with z | z | z | z
    · exact S3 (by rw [e, z]; exact m2.1)
    · exact s2.2.1 (by rw [← z, ← e])
    · exact S3 (by rw [e, z]; exact m2.2.1)
    · exact S3 (by rw [e, z]; exact m2.2.2)
  · rw [mu]
    simp only [List.nodup_cons, List.mem_cons, not_or]
    exact ⟨⟨W1, W2, by omega, by omega, by omega, W3⟩, ⟨T2, by omega, by omega, by omega, T3⟩, ⟨by omega, by omega, by omega, S3⟩, ⟨by omega, by omega, nn _ (by omega)⟩, ⟨by omega, nn _ (by omega)⟩, nn _ (by omega), nd⟩
  · rcases List.mem_cons.mp h2 with e | e
    · subst e; exact key sl lsl (by simp only [List.mem_cons, not_or]; exact hm)
    · exact key _ (fr.lts l2 e) (sh l2 e)
  · rw [mu]
    intro m h3
    simp only [List.mem_cons] at h3 lo
    rcases h3 with e | e | e | e | e | e | e
    · exact lo m (.inl e)
    · exact lo m (.inr (.inl e))
    · exact lo m (.inr (.inr (.inl e)))
    · omega
    · omega
    · omega
    · exact lo m (.inr (.inr (.inr e)))
end
def Fra.nxt (x : Fra) : Fra := { x with pc := x.pc + 1 }
structure AT (x : Fra) (s : PV) : Prop where
  at_ : L2.atI x.steps x.pc = some s
  hl : x.hand.length < 1000000
  vl : x.vars.length < 1000
section
variable {code : Cod} {n : Nat} {st st' : Sto} {W T S : Nat} {b : Int} {l l' : FL} {ls : List FL} {x x' : Fra} {xs : List Fra} {s : PV} {QF : Fl → Sto → Prop} {E : Exn → Sto → Prop} {a1 a2 : Option PV}
theorem round (r : Rep code st W T S b (l :: ls) (x :: xs)) (A : AT x s)
    (hq : ∀ st1 (Q : PV → Sto → Prop) (E : Exn → Sto → Prop), Rep code st1 W T S b (l :: ls) (x.nxt :: xs) → (∀ st', QF (.next [some (.loc W), some (.loc l.f), some s]) st' → Q .non st') → Z (F_Walk__reckon_step n [.loc W, .loc l.f, s] st1) Q E) :
    Z (L0_Walk__walked n [some (.loc W), a1, a2] st) QF E := by
  rw [zL0_Walk__walked]
  have fr := r.fr
  cases fr with
  | cons F fr =>
    have hS := r.hS
    rw [List.map_cons, List.reverse_cons] at hS
    have r1 := r.up (F.goTo (x.pc + 1))
    have at_ := A.at_
    simp [Z_aS r.hw, hS, atI_last, F.f, F.s, L2.ixN, at_]
    simp [kMt1_at r1.hw wf_reckon_step]
    refine hq _ _ _ r1 fun st' h => ?_
    simpa using h
end
inductive Stp (code : Cod) : Int → List Fra → Int → List Fra → Prop
  | plain {b : Int} {x : Fra} {r : List Fra} {i : PV} : AT x (.tup [.str [112, 108, 97, 105, 110], i]) → Stp code b (x :: r) b ({ x.nxt with hand := x.hand ++ [i] } :: r)
  | of_ {b : Int} {x : Fra} {r : List Fra} {nm ps : List Nat} {v w : PV} : AT x (.tup [.str [111, 102], .str nm, .tup (ps.map fun p => .int (p : Nat))]) → lookP x.vars (.str nm) = some v → partAt v ps = some w →
      Stp code b (x :: r) b ({ x.nxt with hand := x.hand ++ [w] } :: r)
  | set_ {b : Int} {x : Fra} {r : List Fra} {nm ps : List Nat} {v w : PV} {hs : List PV} : AT x (.tup [.str [115, 101, 116], .str nm, .tup (ps.map fun p => .int (p : Nat))]) → x.hand = hs ++ [v] → ps.length < 4 → withP v (lookP x.vars (.str nm)) ps = some w →
      Stp code b (x :: r) b ({ x.nxt with hand := hs, vars := putP x.vars (.str nm) w } :: r)
  | tuple {b : Int} {x : Fra} {r : List Fra} {k : Int} {hs vs : List PV} : AT x (.tup [.str [116, 117, 112, 108, 101], .int k]) → x.hand = hs ++ vs → k = vs.length → Stp code b (x :: r) b ({ x.nxt with hand := hs ++ [.tup vs] } :: r)
  | truth {b : Int} {x : Fra} {r : List Fra} {i : Int} {hs : List PV} : AT x (.tup [.str [116, 114, 117, 116, 104]]) → x.hand = hs ++ [.int i] → Stp code b (x :: r) b ({ x.nxt with hand := hs ++ [.int (if i = 0 then 0 else 1)] } :: r)
  | go {b : Int} {x : Fra} {r : List Fra} {p : Int} : AT x (.tup [.str [103, 111], .int p]) → Stp code b (x :: r) b ({ x.nxt with pc := p } :: r)
  | unless_ {b : Int} {x : Fra} {r : List Fra} {i p : Int} {hs : List PV} : AT x (.tup [.str [117, 110, 108, 101, 115, 115], .int p]) → x.hand = hs ++ [.int i] → Stp code b (x :: r) b ({ x.nxt with hand := hs, pc := if i = 0 then p else x.nxt.pc } :: r)
  | and_ {b : Int} {x : Fra} {r : List Fra} {i p : Int} {hs : List PV} : AT x (.tup [.str [97, 110, 100], .int p]) → x.hand = hs ++ [.int i] → Stp code b (x :: r) b ({ x.nxt with hand := if i = 0 then hs ++ [.int 0] else hs, pc := if i = 0 then p else x.nxt.pc } :: r)
  | or_ {b : Int} {x : Fra} {r : List Fra} {i p : Int} {hs : List PV} : AT x (.tup [.str [111, 114], .int p]) → x.hand = hs ++ [.int i] → Stp code b (x :: r) b ({ x.nxt with hand := if ¬ i = 0 then hs ++ [.int 1] else hs, pc := if ¬ i = 0 then p else x.nxt.pc } :: r)
  | op {b : Int} {x : Fra} {r : List Fra} {w : List Nat} {y : PV} {hs vs : List PV} : AT x (.tup [.str [111, 112], .str w]) → x.hand = hs ++ vs → OpOk w vs y → Stp code b (x :: r) b ({ x.nxt with hand := hs ++ [y] } :: r)
  | not_ {b : Int} {x : Fra} {r : List Fra} {i : Int} {hs : List PV} : AT x (.tup [.str [111, 112], .str [110, 111, 116]]) → x.hand = hs ++ [.int i] → Stp code b (x :: r) b ({ x.nxt with hand := hs ++ [.int (if i = 0 then 1 else 0)] } :: r)
  | tick {b : Int} {x : Fra} {r : List Fra} : AT x (.tup [.str [116, 105, 99, 107]]) → b ≠ 0 → Stp code b (x :: r) (b - 1) (x.nxt :: r)
  | call {b : Int} {x : Fra} {r : List Fra} {nm : List Nat} {k : Int} {ps : List (List Nat)} {ss hs vs : List PV} : AT x (.tup [.str [99, 97, 108, 108], .str nm, .int k]) → x.hand = hs ++ vs → k = vs.length → b ≠ 0 → code nm = some (ps, ss) → (x :: r).length < 1000000 →
      Stp code b (x :: r) (b - 1) (⟨ss, laidIn (ps.map .str) vs [], [], 0⟩ :: { x.nxt with hand := hs } :: r)
  | give {b : Int} {x x2 : Fra} {r : List Fra} {hs : List PV} {y : PV} : AT x (.tup [.str [103, 105, 118, 101]]) → x.hand = hs ++ [y] → x2.hand.length < 1000000 → Stp code b (x :: x2 :: r) b ({ x2 with hand := x2.hand ++ [y] } :: r)
inductive Fin_ (code : Cod) : Int → List Fra → PV → Prop
  | dryT {x : Fra} {r : List Fra} : AT x (.tup [.str [116, 105, 99, 107]]) → Fin_ code 0 (x :: r) dryP
  | dryC {x : Fra} {r : List Fra} {nm : List Nat} {k : Int} {hs vs : List PV} : AT x (.tup [.str [99, 97, 108, 108], .str nm, .int k]) → x.hand = hs ++ vs → k = vs.length → Fin_ code 0 (x :: r) dryP
  | bad {b : Int} {x : Fra} {r : List Fra} {w f : List Nat} {hs vs : List PV} : AT x (.tup [.str [111, 112], .str w]) → x.hand = hs ++ vs → OpBad w vs f → Fin_ code b (x :: r) (.tup [.str [102, 97, 117, 108, 116], .str f])
  | back {b : Int} {x : Fra} {hs : List PV} {y : PV} : AT x (.tup [.str [103, 105, 118, 101]]) → x.hand = hs ++ [y] → Fin_ code b [x] (.tup [.str [98, 97, 99, 107], y])
section
variable {code : Cod} {n : Nat} {st st' : Sto} {W T S : Nat} {b b' : Int} {l l' : FL} {ls : List FL} {x x' : Fra} {xs xs' : List Fra} {s : PV} {QF : Fl → Sto → Prop} {E : Exn → Sto → Prop} {a1 a2 : Option PV} {o : PV}
theorem Rep.apt (r : Rep code st W T S b (l :: ls) (x :: xs)) : FR st l x ∧ W ≠ l.f ∧ W ≠ l.v ∧ W ≠ l.h ∧ (T ≠ l.f ∧ T ≠ l.v ∧ T ≠ l.h) ∧ (S ≠ l.f ∧ S ≠ l.v ∧ S ≠ l.h) ∧ W ≠ T ∧ W ≠ S := by
  have ap := r.ap
  simp only [muts, List.flatMap_cons, List.cons_append, List.nil_append, List.nodup_cons, List.mem_cons, not_or] at ap
  obtain ⟨⟨W1, W2, W3, W4, W5, W6⟩, ⟨T2, T3, T4, T5, T6⟩, ⟨S3, S4, S5, S6⟩, _⟩ := ap
  cases r.fr with
  | cons F _ => exact ⟨F, W3, W4, W5, ⟨T3, T4, T5⟩, ⟨S3, S4, S5⟩, W1, W2⟩
theorem FRs.length {st : Sto} : ∀ {ls : List FL} {xs : List Fra}, FRs st ls xs → ls.length = xs.length
  | _, _, .nil => rfl
  | _, _, .cons _ r => by simp [FRs.length r]
theorem stp_round (r : Rep code st W T S b ls xs) (h : Stp code b xs b' xs') (hq : ∀ st' ls' a1 a2, Rep code st' W T S b' ls' xs' → QF (.next [some (.loc W), a1, a2]) st') : Z (L0_Walk__walked n [some (.loc W), a1, a2] st) QF E := by
  have fr := r.fr
  cases fr with
  | nil => cases h
  | @cons l x ls xs F fr =>
    have big : ∀ {x : Fra} {s : PV}, AT x s → x.nxt.hand.length < 16777216 := fun A => by have := A.hl; show _ < _; simp [Fra.nxt]; omega
    cases h with
    | plain A => exact round r A fun st1 Q E r1 hQ => step_plain r1.apt.1 (big A) fun st' l' u => hQ _ (hq _ _ _ _ (r1.up u))
    | of_ A h1 h2 => exact round r A fun st1 Q E r1 hQ => step_of r1.apt.1 h1 h2 (big A) fun st' l' u => hQ _ (hq _ _ _ _ (r1.up u))
    | set_ A h1 h2 h3 => exact round r A fun st1 Q E r1 hQ => step_set r1.apt.1 r1.hw h1 h2 h3 A.vl fun st' l' u => hQ _ (hq _ _ _ _ (r1.up u))
    | tuple A h1 h2 => exact round r A fun st1 Q E r1 hQ => step_tuple r1.apt.1 r1.hw r1.apt.2.1 h1 (big A) h2 fun st' l' u => hQ _ (hq _ _ _ _ (r1.up u))
    | truth A h1 => exact round r A fun st1 Q E r1 hQ => step_truth r1.apt.1 r1.hw r1.apt.2.1 h1 (big A) fun st' l' u => hQ _ (hq _ _ _ _ (r1.up u))
    | go A => exact round r A fun st1 Q E r1 hQ => step_go r1.apt.1 r1.hw fun st' l' u => hQ _ (hq _ _ _ _ (r1.up u))
    | unless_ A h1 => exact round r A fun st1 Q E r1 hQ => step_unless r1.apt.1 r1.hw (big A) h1 fun st' l' u => hQ _ (hq _ _ _ _ (r1.up u))
    | and_ A h1 => exact round r A fun st1 Q E r1 hQ => step_and r1.apt.1 r1.hw (big A) h1 fun st' l' u => hQ _ (hq _ _ _ _ (r1.up u))
    | or_ A h1 => exact round r A fun st1 Q E r1 hQ => step_or r1.apt.1 r1.hw (big A) h1 fun st' l' u => hQ _ (hq _ _ _ _ (r1.up u))
    | op A h1 h2 => exact round r A fun st1 Q E r1 hQ => step_op r1.apt.1 r1.hw r1.apt.2.1 (big A) h1 h2 fun st' l' u => hQ _ (hq _ _ _ _ (r1.up u))
    | not_ A h1 => exact round r A fun st1 Q E r1 hQ => step_not r1.apt.1 r1.hw (big A) h1 fun st' l' u => hQ _ (hq _ _ _ _ (r1.up u))
    | tick A h1 => exact round r A fun st1 Q E r1 hQ => step_tick r1.hw (fun h0 => absurd h0 h1) fun _ => hQ _ (hq _ _ _ _ (r1.tick _))
    | @call _ _ nm k ps ss hs vs A h1 h2 h3 h4 h5 =>
      refine round r A fun st1 Q E r1 hQ => ?_
      obtain ⟨F1, n1, n2, n3, n4, n5, n6, n7⟩ := r1.apt
      obtain ⟨told, hT, hc⟩ := r1.hT
      obtain ⟨hp, sl, hn, _⟩ := hc _ _ _ h4
      have hR : ((l :: ls).map fun l => PV.loc l.f).reverse.length < 16777216 := by
        have := FRs.length r.fr
        simp at this h5 ⊢
        omega
      refine step_call F1 r1.hw n1 n2 n3 n4 n5 n6 n7 h3 hT hn r1.hS hR hp h1 h2 fun st' l' u => hQ _ ?_
      have r2 := (r1.up u).tick (b - 1)
      obtain ⟨told', sl', hT', hn', _, r3⟩ := r2.enter h4 (laidIn (ps.map .str) vs [])
      have hT2 : (st'.set W (.ins "Walk" (wf T S (b - 1) .non)))[T]? = some (.dct told) := (List.getElem?_set_ne n6).trans ((u.keep T (getN hT) n4.1 n4.2.1 n4.2.2).trans hT)
      have e1 : told' = told := by have := hT'.symm.trans hT2; simpa using this
      subst e1
      have e2 : sl' = sl := by have := hn'.symm.trans hn; simpa using this
      subst e2
      have e3 : (st'.set W (.ins "Walk" (wf T S (b - 1) .non))).length = st'.length := by simp
      rw [e3] at r3
      have e4 : ((l' :: ls).map fun l => PV.loc l.f) = ((l :: ls).map fun l => PV.loc l.f) := by simp [u.f]
      rw [e4] at r3
      exact hq _ _ _ _ r3
    | @give _ x2 r2 _ _ A h1 h2 =>
      cases fr with
      | @cons l2 _ ls _ F2 fr =>
        refine round r A fun st1 Q E r1 hQ => ?_
        obtain ⟨F1, n1, n2, n3, n4, n5, n6, n7⟩ := r1.apt
        have hS := r1.hS
        simp only [List.map_cons, List.reverse_cons] at hS
        have ap := r1.ap
        simp only [muts, List.flatMap_cons, List.cons_append, List.nil_append, List.nodup_cons, List.mem_cons, not_or] at ap
        cases r1.fr with
        | cons _ fr1 => cases fr1 with
          | cons F3 _ => exact step_give F1 F3 r1.hw hS (Ne.symm n7) ap.2.2.1.2.2.2.1 ap.2.2.1.2.2.2.2.2.1 (by omega) h1 (hQ _ (hq _ _ _ _ (r1.give _)))
end
section
variable {code : Cod} {n : Nat} {st st' : Sto} {W T S : Nat} {b b' : Int} {l l' : FL} {ls : List FL} {x x' : Fra} {xs xs' : List Fra} {s : PV} {QF : Fl → Sto → Prop} {E : Exn → Sto → Prop} {a1 a2 : Option PV} {o : PV}
theorem far {st1 st' : Sto} (r1 : Rep code st1 W T S b (l :: ls) (x :: xs)) (hl : st1.length ≤ st'.length) (hk : ∀ i, i < st1.length → i ≠ W → i ≠ l.f → i ≠ l.v → i ≠ l.h → st'[i]? = st1[i]?) : Old code st' := by
  have m := mem_muts (List.mem_cons_self (a := l) (l := ls))
  have h1 := r1.lo W (by simp)
  have h2 := r1.lo l.f (by simp [m])
  have h3 := r1.lo l.v (by simp [m])
  have h4 := r1.lo l.h (by simp [m])
  have h5 := r1.old.len
  exact ⟨by omega, fun i hi => (hk i (by omega) (by omega) (by omega) (by omega) (by omega)).trans (r1.old.keep i hi)⟩
theorem fin_round (r : Rep code st W T S b ls xs) (h : Fin_ code b xs o) (hq : ∀ st' b' a1 a2, Old code st' → st'[W]? = some (.ins "Walk" (wf T S b' o)) → QF (.next [some (.loc W), a1, a2]) st') : Z (L0_Walk__walked n [some (.loc W), a1, a2] st) QF E := by
  have fr := r.fr
  cases fr with
  | nil => cases h
  | @cons l x ls xs F fr =>
    cases h with
    | dryT A => exact round r A fun st1 Q E r1 hQ => step_tick r1.hw (fun _ => hQ _ (hq _ _ _ _ (⟨by simpa using r1.old.len, fun i hi => (List.getElem?_set_ne (by have := r1.lo W (by simp); omega)).trans (r1.old.keep i hi)⟩) (List.getElem?_set_self (getN r1.hw)))) fun h0 => absurd rfl h0
    | dryC A h1 h2 => exact round r A fun st1 Q E r1 hQ => step_call_dry r1.apt.1 r1.hw r1.apt.2.1 r1.apt.2.2.1 r1.apt.2.2.2.1 h1 h2 fun st' hl hk h => hQ _ (hq _ _ _ _ (far r1 hl hk) h)
    | bad A h1 h2 => exact round r A fun st1 Q E r1 hQ => step_bad r1.apt.1 r1.hw r1.apt.2.1 r1.apt.2.2.1 r1.apt.2.2.2.1 h1 h2 fun st' hl hk h => hQ _ (hq _ _ _ _ (far r1 hl hk) h)
    | back A h1 =>
      cases fr
      refine round r A fun st1 Q E r1 hQ => ?_
      have hS := r1.hS
      simp only [List.map_cons, List.map_nil, List.reverse_cons, List.reverse_nil, List.nil_append] at hS
      exact step_give_end r1.apt.1 r1.hw hS (Ne.symm r1.apt.2.2.2.2.2.2.2) h1 fun st' hl hk h => hQ _ (hq _ _ _ _ ⟨by rw [hl]; exact r1.old.len, fun i hi => (hk i (by have := r1.lo W (by simp); omega) (by have := r1.lo S (by simp); omega)).trans (r1.old.keep i hi)⟩ h)
end
def kWh (t : Rho → M Bool) (b : Rho → M Fl) (n : Nat) (ρ : Rho) (QF : Fl → Sto → Prop) (E : Exn → Sto → Prop) : Bool → Sto → Prop := fun c s => if c = true then Z (b ρ s) (turnQ (whileF t b n) QF E) E else QF (.next ρ) s
theorem Z_while {t : Rho → M Bool} {b : Rho → M Fl} {n : Nat} {ρ : Rho} {st : Sto} {QF : Fl → Sto → Prop} {E : Exn → Sto → Prop} : Z (whileF t b (n + 1) ρ st) QF E = Z (t ρ st) (kWh t b n ρ QF E) (kX ρ QF) := by
  rw [whileF, Z_onErr]
  congr 1
  funext c s
  unfold kWh
  cases c
  · rfl
  · rw [if_pos rfl, if_pos rfl, Z_turn]
inductive Runs (code : Cod) : Nat → Int → List Fra → Int → List Fra → Prop
  | zero {b : Int} {xs : List Fra} : Runs code 0 b xs b xs
  | succ {k : Nat} {b b1 b2 : Int} {xs x1 x2 : List Fra} : Stp code b xs b1 x1 → Runs code k b1 x1 b2 x2 → Runs code (k + 1) b xs b2 x2
theorem Runs.trans {code : Cod} {k m : Nat} {b b1 b2 : Int} {xs x1 x2 : List Fra} (h : Runs code k b xs b1 x1) (g : Runs code m b1 x1 b2 x2) : Runs code (k + m) b xs b2 x2 := by
  induction h with
  | zero => rw [Nat.zero_add]; exact g
  | succ s _ ih => rw [Nat.succ_add]; exact .succ s (ih g)
section
variable {code : Cod} {n : Nat} {W T S : Nat} {QF : Fl → Sto → Prop} {E : Exn → Sto → Prop} {o : PV}
abbrev tWk : Rho → M Bool := eB (eBin isN (eUn (attrM ["Walk"] "outcome") (eVar 0)) (eC .non))
theorem walk_end {st : Sto} {b : Int} {m : Nat} {a1 a2 : Option PV} (hw : st[W]? = some (.ins "Walk" (wf T S b o))) (ho : nonP o = false) (hq : QF (.next [some (.loc W), a1, a2]) st) : Z (whileF tWk (L0_Walk__walked n) (m + 1) [some (.loc W), a1, a2] st) QF E := by
  rw [Z_while]
  simp [tWk, Z_ao hw, ho, kWh, hq]
theorem walk_runs {k : Nat} {b b2 : Int} {xs x2 : List Fra} (h : Runs code k b xs b2 x2) : ∀ {st : Sto} {ls : List FL} {m : Nat} {a1 a2 : Option PV}, Rep code st W T S b ls xs →
    (∀ st' ls' a1 a2, Rep code st' W T S b2 ls' x2 → Z (whileF tWk (L0_Walk__walked n) m [some (.loc W), a1, a2] st') QF E) → Z (whileF tWk (L0_Walk__walked n) (m + k) [some (.loc W), a1, a2] st) QF E := by
  induction h with
  | zero => intro st ls m a1 a2 r hq; exact hq _ _ _ _ r
  | succ s _ ih =>
    intro st ls m a1 a2 r hq
    rw [show m + (_ + 1) = (m + _) + 1 from rfl, Z_while]
    simp [tWk, Z_ao r.hw, nonP, kWh]
    refine stp_round r s fun st' ls' a1 a2 r' => ?_
    simp
    exact ih r' hq
theorem walk_fin {b : Int} {xs : List Fra} {st : Sto} {ls : List FL} {m : Nat} {a1 a2 : Option PV} (h : Fin_ code b xs o) (ho : nonP o = false) (r : Rep code st W T S b ls xs)
    (hq : ∀ st' b' a1 a2, Old code st' → st'[W]? = some (.ins "Walk" (wf T S b' o)) → QF (.next [some (.loc W), a1, a2]) st') : Z (whileF tWk (L0_Walk__walked n) (m + 2) [some (.loc W), a1, a2] st) QF E := by
  rw [Z_while]
  simp [tWk, Z_ao r.hw, nonP, kWh]
  refine fin_round r h fun st' b' a1 a2 od hw => ?_
  simp
  exact walk_end hw ho (hq _ _ _ _ od hw)
end
section
variable {code : Cod} {n : Nat} {W T S : Nat} {Q : PV → Sto → Prop} {E : Exn → Sto → Prop} {o : PV}
theorem walked_spec {k : Nat} {b b2 : Int} {xs x2 : List Fra} {st : Sto} {ls : List FL} (h : Runs code k b xs b2 x2) (g : Fin_ code b2 x2 o) (hn : k + 2 ≤ n) (r : Rep code st W T S b ls xs) (hq : ∀ st', Old code st' → Q o st') : Z (F_Walk__walked n [.loc W] st) Q E := by
  have ho : nonP o = false := by cases g <;> rfl
  rw [z_Walk__walked, b_Walk__walked]
  simp
  obtain ⟨m, rfl⟩ : ∃ m, n = (m + 2) + k := ⟨n - k - 2, by omega⟩
  refine walk_runs h r fun st' ls' a1 a2 r' => ?_
  refine walk_fin g ho r' fun st2 b' a1 a2 od hw => ?_
  simp [Z_ao hw, hq _ od]
end
structure Sv (X : List Nat) (st st' : Sto) : Prop where
  len : st.length ≤ st'.length
  keep : ∀ i, i < st.length → i ∉ X → st'[i]? = st[i]?
theorem Sv.refl (X : List Nat) (st : Sto) : Sv X st st := ⟨Nat.le_refl _, fun _ _ _ => rfl⟩
theorem Sv.trans {X : List Nat} {a b c : Sto} (h : Sv X a b) (g : Sv X b c) : Sv X a c :=
  ⟨Nat.le_trans h.len g.len, fun i hi hx => (g.keep i (Nat.lt_of_lt_of_le hi h.len) hx).trans (h.keep i hi hx)⟩
theorem Sv.mono {X Y : List Nat} {a b : Sto} (h : Sv X a b) (s : ∀ i, i ∈ X → i ∈ Y) : Sv Y a b := ⟨h.len, fun i hi hx => h.keep i hi fun m => hx (s i m)⟩
theorem Sv.at {X : List Nat} {a b : Sto} {i : Nat} {c : Cell} (h : Sv X a b) (hi : a[i]? = some c) (hx : i ∉ X) : b[i]? = some c := (h.keep i (getN hi) hx).trans hi
theorem Sv.app {X : List Nat} {st t : Sto} : Sv X st (st ++ t) := ⟨by simp, fun i hi _ => List.getElem?_append_left hi⟩
theorem Sv.set {X : List Nat} {st : Sto} {i : Nat} {c : Cell} (h : i ∈ X) : Sv X st (st.set i c) := ⟨by simp, fun j _ hx => List.getElem?_set_ne (fun e : i = j => hx (by rw [← e]; exact h))⟩
def sf (tr : PV) (sc lc : Nat) : List (String × PV) := [("own_tree", tr), ("seen", .loc sc), ("laid_steps", .loc lc)]
section
variable {tr : PV} {sc lc : Nat}
@[simp] theorem sf_tr : lookA (sf tr sc lc) "own_tree" = some tr := by simp [sf, lookA]
@[simp] theorem sf_sn : lookA (sf tr sc lc) "seen" = some (.loc sc) := by simp [sf, lookA]
@[simp] theorem sf_ls : lookA (sf tr sc lc) "laid_steps" = some (.loc lc) := by simp [sf, lookA]
@[simp] theorem sf_lay : lookA (sf tr sc lc) "lay" = none := by simp [sf, lookA]
@[simp] theorem sf_here : lookA (sf tr sc lc) "here" = none := by simp [sf, lookA]
@[simp] theorem sf_lay_either : lookA (sf tr sc lc) "lay_either" = none := by simp [sf, lookA]
@[simp] theorem sf_lay_expr : lookA (sf tr sc lc) "lay_expr" = none := by simp [sf, lookA]
@[simp] theorem sf_lay_while : lookA (sf tr sc lc) "lay_while" = none := by simp [sf, lookA]
@[simp] theorem sf_lay_if : lookA (sf tr sc lc) "lay_if" = none := by simp [sf, lookA]
@[simp] theorem sf_lay_statement : lookA (sf tr sc lc) "lay_statement" = none := by simp [sf, lookA]
@[simp] theorem sf_lay_body : lookA (sf tr sc lc) "lay_body" = none := by simp [sf, lookA]
end
structure LS (st : Sto) (O sc lc : Nat) (tr : PV) (sn : List (PV × PV)) (ss : List PV) : Prop where
  hO : st[O]? = some (.ins "Steps" (sf tr sc lc))
  hs : st[sc]? = some (.dct sn)
  hl : st[lc]? = some (.lst ss)
  o1 : O ≠ sc
  o2 : O ≠ lc
  o3 : sc ≠ lc
section
variable {n : Nat} {st st' : Sto} {O sc lc : Nat} {tr : PV} {sn : List (PV × PV)} {ss : List PV} {Q : PV → Sto → Prop} {E : Exn → Sto → Prop}
theorem LS.keep (L : LS st O sc lc tr sn ss) (h : Sv [] st st') : LS st' O sc lc tr sn ss :=
  ⟨h.at L.hO (by simp), h.at L.hs (by simp), h.at L.hl (by simp), L.o1, L.o2, L.o3⟩
theorem LS.set (L : LS st O sc lc tr sn ss) (s2 : List PV) : LS (st.set lc (.lst s2)) O sc lc tr sn s2 :=
  ⟨(List.getElem?_set_ne (Ne.symm L.o2)).trans L.hO, (List.getElem?_set_ne (Ne.symm L.o3)).trans L.hs, List.getElem?_set_self (getN L.hl), L.o1, L.o2, L.o3⟩
theorem LS.see (L : LS st O sc lc tr sn ss) (s2 : List (PV × PV)) : LS (st.set sc (.dct s2)) O sc lc tr s2 ss :=
  ⟨(List.getElem?_set_ne (Ne.symm L.o1)).trans L.hO, List.getElem?_set_self (getN L.hs), (List.getElem?_set_ne L.o3).trans L.hl, L.o1, L.o2, L.o3⟩
theorem Z_atr (L : LS st O sc lc tr sn ss) : Z (attrM ["Steps"] "own_tree" (.loc O) st) Q E = Q tr st := Z_attr L.hO (by simp) sf_tr
theorem Z_asn (L : LS st O sc lc tr sn ss) : Z (attrM ["Steps"] "seen" (.loc O) st) Q E = Q (.loc sc) st := Z_attr L.hO (by simp) sf_sn
theorem Z_als (L : LS st O sc lc tr sn ss) : Z (attrM ["Steps"] "laid_steps" (.loc O) st) Q E = Q (.loc lc) st := Z_attr L.hO (by simp) sf_ls
theorem lay_spec {s : PV} (L : LS st O sc lc tr sn ss) (hl : ss.length < 1000000) (hq : ∀ st', Sv [lc] st st' → LS st' O sc lc tr sn (ss ++ [s]) → Q (.int ss.length) st') : Z (F_Steps__lay n [.loc O, s] st) Q E := by
  have L' := L.set (ss ++ [s])
  have h1 : ss.length < 16777216 := by omega
  rw [z_Steps__lay, b_Steps__lay]
  simp [Z_als L, L.hl, h1, Z_als L', L'.hl]
  have := hq _ (Sv.set (by simp)) L'
  simpa using this
theorem here_spec (L : LS st O sc lc tr sn ss) (hq : Q (.int ss.length) st) : Z (F_Steps__here n [.loc O] st) Q E := by
  rw [z_Steps__here, b_Steps__here]
  simp [Z_als L, L.hl]
  exact hq
end
def Pl (tr : PV) (sn : List (PV × PV)) (path ps : List PV) : Prop :=
  ∀ (n : Nat) (sc : Nat) (st : Sto) (Q : PV → Sto → Prop) (E : Exn → Sto → Prop), st[sc]? = some (.dct sn) → (∀ st', Sv [] st st' → Q (.tup ps) st') → Z (F_places_of n [tr, .loc sc, .tup path] st) Q E
def Kd (tr : PV) (sn : List (PV × PV)) (e k : PV) : Prop :=
  ∀ (n : Nat) (sc : Nat) (st : Sto) (Q : PV → Sto → Prop) (E : Exn → Sto → Prop), st[sc]? = some (.dct sn) → Q k st → Z (F_kind_of_expr n [tr, .loc sc, e] st) Q E
mutual
inductive LE (tr : PV) (sn : List (PV × PV)) : Nat → Nat → PV → List PV → Prop
  | num {d p : Nat} {i : Int} : LE tr sn (d + 1) p (.int i) [.tup [.str [112, 108, 97, 105, 110], .int i]]
  | of_ {d p : Nat} {nm : List Nat} {path ps : List PV} : Pl tr sn (.str nm :: path) ps → LE tr sn (d + 1) p (.tup [.str [111, 102], .tup (.str nm :: path)]) [.tup [.str [111, 102], .str nm, .tup ps]]
  | both {d p : Nat} {w : List Nat} {a b : PV} {c1 c2 : List PV} : (w = [97, 110, 100] ∨ w = [111, 114]) → LE tr sn d p a c1 → LE tr sn d (p + c1.length + 1) b c2 →
      LE tr sn (d + 2) p (.tup [.str w, a, b]) (c1 ++ .tup [.str w, .int ((p + c1.length + 1 + c2.length + 1 : Nat) : Int)] :: (c2 ++ [.tup [.str [116, 114, 117, 116, 104]]]))
  | call {d p : Nat} {nm : List Nat} {es c : List PV} : LEs tr sn d p es c → LE tr sn (d + 1) p (.tup (.str [99, 97, 108, 108] :: .str nm :: es)) (c ++ [.tup [.str [99, 97, 108, 108], .str nm, .int (es.length : Nat)]])
  | new {d p : Nat} {nm : PV} {es c : List PV} : LEs tr sn d p es c → LE tr sn (d + 1) p (.tup (.str [110, 101, 119] :: nm :: es)) (c ++ [.tup [.str [116, 117, 112, 108, 101], .int (es.length : Nat)]])
  | make {d p : Nat} {es c : List PV} : LEs tr sn d p es c → LE tr sn (d + 1) p (.tup (.str [109, 97, 107, 101] :: es)) (c ++ [.tup [.str [116, 117, 112, 108, 101], .int (es.length : Nat)]])
  | op {d p : Nat} {w : List Nat} {es c : List PV} : (w ≠ [111, 102] ∧ w ≠ [97, 110, 100] ∧ w ≠ [111, 114] ∧ w ≠ [99, 97, 108, 108] ∧ w ≠ [110, 101, 119] ∧ w ≠ [109, 97, 107, 101]) → LEs tr sn d p es c →
      LE tr sn (d + 1) p (.tup (.str w :: es)) (c ++ [.tup [.str [111, 112], .str w]])
inductive LEs (tr : PV) (sn : List (PV × PV)) : Nat → Nat → List PV → List PV → Prop
  | nil {d p : Nat} : LEs tr sn d p [] []
  | cons {d p : Nat} {e : PV} {es c1 c2 : List PV} : LE tr sn d p e c1 → LEs tr sn d (p + c1.length) es c2 → LEs tr sn d p (e :: es) (c1 ++ c2)
end
theorem cut_two {α : Type} {x y : α} {ys : List α} : cutL (x :: y :: ys) (some 2) none = ys := cut_back (a := [x, y]) (b := ys) rfl
section
variable {n : Nat} {O sc lc : Nat} {tr : PV} {sn : List (PV × PV)}
def LEok (n O sc lc : Nat) (tr : PV) (sn : List (PV × PV)) (d : Nat) : Prop :=
  ∀ (p : Nat) (e : PV) (c ss : List PV) (st : Sto) (Q : PV → Sto → Prop) (E : Exn → Sto → Prop), LE tr sn d p e c → LS st O sc lc tr sn ss → p = ss.length → ss.length + c.length < 1000000 →
    (∀ st', Sv [lc] st st' → LS st' O sc lc tr sn (ss ++ c) → Q .non st') → Z (F_Steps__lay_expr n d [.loc O, e] st) Q E
theorem lays_go {d : Nat} {fe : List PV → M PV} {r1 r2 : Option PV} (ih : LEok n O sc lc tr sn d) : ∀ (es : List PV) (p : Nat) (c ss : List PV) (st : Sto) (r3 : Option PV) (Q : Fl → Sto → Prop) (E : Exn → Sto → Prop), LEs tr sn d p es c → LS st O sc lc tr sn ss → p = ss.length → ss.length + c.length < 1000000 →
    (∀ st' r3, Sv [lc] st st' → LS st' O sc lc tr sn (ss ++ c) → Q (.next [some (.loc O), r1, r2, r3]) st') → Z (forL (gN 3) (L0_Steps__lay_expr n fe (F_Steps__lay_expr n d)) es [some (.loc O), r1, r2, r3] st) Q E
  | [], p, c, ss, st, r3, Q, E, h, L, hp, hl, hq => by
    cases h
    rw [Z_forL_nil]
    exact hq _ _ (Sv.refl _ _) (by rw [List.append_nil]; exact L)
  | e :: es, p, c, ss, st, r3, Q, E, h, L, hp, hl, hq => by
    cases h with
    | @cons _ _ _ _ c1 c2 h1 h2 =>
      rw [List.length_append] at hl
      rw [Z_forL]
      simp [zL0_Steps__lay_expr, kMt1_at L.hO sf_lay_expr]
      refine ih _ _ _ _ _ _ _ h1 L hp (by omega) fun st1 s1 L1 => ?_
      simp
      refine lays_go ih es _ _ _ _ _ _ _ h2 L1 (by rw [hp, List.length_append]) (by rw [List.length_append]; omega) fun st2 r3 s2 L2 => ?_
      exact hq _ _ (s1.trans s2) (by rw [← List.append_assoc]; exact L2)
end
section
variable {n : Nat} {O sc lc : Nat} {tr : PV} {sn : List (PV × PV)}
theorem Z_patch {st : Sto} {ss a b : List PV} {x v : PV} {i : Int} {QU : Unit → Sto → Prop} {E : Exn → Sto → Prop} (h : st[lc]? = some (.lst ss)) (hs : ss = a ++ x :: b) (hi : i = (a.length : Nat)) : Z (setM (.loc lc) (.int i) v st) QU E = QU () (st.set lc (.lst (a ++ v :: b))) := by
  have e : (a ++ x :: b).set a.length v = a ++ v :: b := by rw [List.set_append_right _ _ (Nat.le_refl _)]; simp
  subst hs
  rw [← e]
  refine Z_setL h ?_
  subst hi
  simp [L2.ixN]
  omega
theorem le_ok : ∀ d, LEok n O sc lc tr sn d := by
  intro d
  induction d using Nat.strongRecOn with
  | _ d ih =>
    intro p e c ss st Q E h L hp hl hq
    cases h with
    | num =>
      rw [z_Steps__lay_expr, b_Steps__lay_expr]
      simp [kMt1_at L.hO sf_lay]
      refine lay_spec L (by omega) fun st1 s1 G1 => ?_
      simp
      exact hq _ s1 G1
    | of_ hpl =>
      rw [z_Steps__lay_expr, b_Steps__lay_expr]
      simp [kMt1_at L.hO sf_lay, L2.ixN, Z_atr L, Z_asn L]
      refine hpl _ _ _ _ _ L.hs fun st1 s1 => ?_
      have G1 := L.keep s1
      simp
      refine lay_spec G1 (by omega) fun st2 s2 G2 => ?_
      simp
      exact hq _ ((s1.mono (by simp)).trans s2) G2
    | @both d _ w a b c1 c2 hw h1 h2 =>
      have ih' := ih d (by omega)
      obtain ⟨r, hr⟩ : ∃ r, r = p + c1.length + 1 + c2.length + 1 := ⟨_, rfl⟩
      rw [← hr] at hq
      simp at hl
      rw [z_Steps__lay_expr, b_Steps__lay_expr]
      have hw1 : w ≠ [111, 102] := by rcases hw with e | e <;> simp [e]
      have hw2 : ([97, 110, 100] == w || [111, 114] == w) = true := by rcases hw with e | e <;> simp [e]
      simp [kMt1_at L.hO sf_lay_either, L2.ixN, hw1, hw2, Z_inT, flatP, ng, eqb]
      rw [z_Steps__lay_either, b_Steps__lay_either]
      simp [kMt1_at L.hO sf_lay_expr, L2.ixN]
      refine ih' _ _ _ _ _ _ _ h1 L hp (by omega) fun st1 s1 G1 => ?_
      simp [kMt1_at G1.hO sf_lay]
      refine lay_spec G1 (by simp; omega) fun st2 s2 G2 => ?_
      obtain ⟨q, hq1⟩ : ∃ q, q = (ss ++ c1).length := ⟨_, rfl⟩
      rw [← hq1]
      simp [kMt1_at G2.hO sf_lay_expr, L2.ixN]
      refine ih' _ _ _ _ _ _ _ h2 G2 (by simp; omega) (by simp; omega) fun st3 s3 G3 => ?_
      simp [kMt1_at G3.hO sf_lay]
      refine lay_spec G3 (by simp; omega) fun st4 s4 G4 => ?_
      simp [kMt1_at G4.hO sf_here, L2.ixN]
      refine here_spec G4 ?_
      have e4 : (((ss ++ c1 ++ [PV.tup []]) ++ c2) ++ [PV.tup [.str [116, 114, 117, 116, 104]]]).length = r := by simp; omega
      rw [e4]
      simp [Z_als G4]
      rw [Z_patch (x := .tup []) (a := ss ++ c1) (b := c2 ++ [.tup [.str [116, 114, 117, 116, 104]]]) G4.hl (by simp) (by rw [hq1])]
      simp
      have G5 := G4.set (ss ++ (c1 ++ .tup [.str w, .int (r : Nat)] :: (c2 ++ [.tup [.str [116, 114, 117, 116, 104]]])))
      exact hq _ ((((s1.trans s2).trans s3).trans s4).trans (Sv.set (by simp))) G5
    | @call d _ nm es c hes =>
      simp at hl
      rw [z_Steps__lay_expr, b_Steps__lay_expr]
      simp [L2.ixN, Z_inT, flatP, ng, eqb, cut_tail, cut_two]
      refine lays_go (ih d (by omega)) es _ _ _ _ _ _ _ hes L hp (by omega) fun st1 r3 s1 G1 => ?_
      simp [kMt1_at G1.hO sf_lay, L2.ixN]
      refine lay_spec G1 (by simp; omega) fun st2 s2 G2 => ?_
      simp
      exact hq _ (s1.trans s2) (by rw [← List.append_assoc]; exact G2)
    | @new d _ nm es c hes =>
      simp at hl
      rw [z_Steps__lay_expr, b_Steps__lay_expr]
      simp [L2.ixN, Z_inT, flatP, ng, eqb, cut_tail, cut_two]
      refine lays_go (ih d (by omega)) es _ _ _ _ _ _ _ hes L hp (by omega) fun st1 r3 s1 G1 => ?_
      simp [kMt1_at G1.hO sf_lay, L2.ixN, Z_inT, flatP, ng, eqb]
      refine lay_spec G1 (by simp; omega) fun st2 s2 G2 => ?_
      simp
      exact hq _ (s1.trans s2) (by rw [← List.append_assoc]; exact G2)
    | @make d _ es c hes =>
      simp at hl
      rw [z_Steps__lay_expr, b_Steps__lay_expr]
      simp [L2.ixN, Z_inT, flatP, ng, eqb, cut_tail, cut_two]
      refine lays_go (ih d (by omega)) es _ _ _ _ _ _ _ hes L hp (by omega) fun st1 r3 s1 G1 => ?_
      simp [kMt1_at G1.hO sf_lay, L2.ixN, Z_inT, flatP, ng, eqb]
      refine lay_spec G1 (by simp; omega) fun st2 s2 G2 => ?_
      simp
      exact hq _ (s1.trans s2) (by rw [← List.append_assoc]; exact G2)
    | @op d _ w es c hw hes =>
      simp at hl
      obtain ⟨w1, w2, w3, w4, w5, w6⟩ := hw
      have v2 : ([97, 110, 100] == w) = false := by simpa using w2.symm
      have v3 : ([111, 114] == w) = false := by simpa using w3.symm
      have v4 : ([99, 97, 108, 108] == w) = false := by simpa using w4.symm
      have v5 : ([110, 101, 119] == w) = false := by simpa using w5.symm
      have v6 : ([109, 97, 107, 101] == w) = false := by simpa using w6.symm
      rw [z_Steps__lay_expr, b_Steps__lay_expr]
      simp [L2.ixN, Z_inT, flatP, ng, eqb, cut_tail, cut_two, w1, v2, v3, v4, v5]
      refine lays_go (ih d (by omega)) es _ _ _ _ _ _ _ hes L hp (by omega) fun st1 r3 s1 G1 => ?_
      simp [kMt1_at G1.hO sf_lay, L2.ixN, Z_inT, flatP, ng, eqb, w4, v5, v6]
      refine lay_spec G1 (by simp; omega) fun st2 s2 G2 => ?_
      simp
      exact hq _ (s1.trans s2) (by rw [← List.append_assoc]; exact G2)
end
mutual
inductive LT (tr : PV) : Nat → Nat → List (PV × PV) → PV → List (PV × PV) → List PV → Prop
  | while_ {d p : Nat} {sn sn' : List (PV × PV)} {e : PV} {b c1 c2 : List PV} : LE tr sn 12 p e c1 → LB tr d (p + c1.length + 2) sn b sn' c2 →
      LT tr (d + 3) p sn (.tup [.str [119, 104, 105, 108, 101], e, .tup b]) sn' (c1 ++ .tup [.str [117, 110, 108, 101, 115, 115], .int ((p + c1.length + 2 + c2.length + 1 : Nat) : Int)] :: .tup [.str [116, 105, 99, 107]] :: (c2 ++ [.tup [.str [103, 111], .int (p : Nat)]]))
  | if_ {d p : Nat} {sn sn1 sn2 : List (PV × PV)} {e : PV} {b1 b2 c1 c2 c3 : List PV} : LE tr sn 12 p e c1 → LB tr d (p + c1.length + 1) sn b1 sn1 c2 → LB tr d (p + c1.length + 1 + c2.length + 1) sn1 b2 sn2 c3 →
      LT tr (d + 3) p sn (.tup [.str [105, 102], e, .tup b1, .tup b2]) sn2 (c1 ++ .tup [.str [117, 110, 108, 101, 115, 115], .int ((p + c1.length + 1 + c2.length + 1 : Nat) : Int)] :: (c2 ++ .tup [.str [103, 111], .int ((p + c1.length + 1 + c2.length + 1 + c3.length : Nat) : Int)] :: c3))
  | put {d p : Nat} {sn : List (PV × PV)} {nm : List Nat} {path ps : List PV} {e1 e2 : PV} {c1 c2 : List PV} : Pl tr sn (.str nm :: path) ps → LE tr sn 12 (p + 1) e1 c1 → LE tr sn 12 (p + 1 + c1.length) e2 c2 →
      LT tr (d + 1) p sn (.tup [.str [112, 117, 116], .tup (.str nm :: path), e1, e2]) sn (.tup [.str [111, 102], .str nm, .tup ps] :: (c1 ++ (c2 ++ [.tup [.str [111, 112], .str [112, 117, 116]], .tup [.str [115, 101, 116], .str nm, .tup ps]])))
  | give {d p : Nat} {sn : List (PV × PV)} {e : PV} {c1 : List PV} : LE tr sn 12 p e c1 → LT tr (d + 1) p sn (.tup [.str [103, 105, 118, 101], e]) sn (c1 ++ [.tup [.str [103, 105, 118, 101]]])
  | set_ {d p : Nat} {sn : List (PV × PV)} {nm : List Nat} {path ps : List PV} {e : PV} {c1 : List PV} : Pl tr sn (.str nm :: path) ps → LE tr sn 12 p e c1 →
      LT tr (d + 1) p sn (.tup [.str [115, 101, 116], .tup (.str nm :: path), e]) sn (c1 ++ [.tup [.str [115, 101, 116], .str nm, .tup ps]])
  | let_ {d p : Nat} {sn : List (PV × PV)} {nm : List Nat} {e k : PV} {c1 : List PV} : LE tr sn 12 p e c1 → Kd tr sn e k → sn.length < 1000 →
      LT tr (d + 1) p sn (.tup [.str [108, 101, 116], .str nm, e]) (putP sn (.str nm) k) (c1 ++ [.tup [.str [115, 101, 116], .str nm, .tup []]])
inductive LB (tr : PV) : Nat → Nat → List (PV × PV) → List PV → List (PV × PV) → List PV → Prop
  | nil {d p : Nat} {sn : List (PV × PV)} : LB tr d p sn [] sn []
  | cons {d p : Nat} {sn sn1 sn2 : List (PV × PV)} {s : PV} {b c1 c2 : List PV} : LT tr d p sn s sn1 c1 → LB tr d (p + c1.length) sn1 b sn2 c2 → LB tr d p sn (s :: b) sn2 (c1 ++ c2)
end
section
variable {n : Nat} {O sc lc : Nat} {tr : PV}
def LTok (n O sc lc : Nat) (tr : PV) (d : Nat) : Prop :=
  ∀ (p : Nat) (s : PV) (c ss : List PV) (sn sn' : List (PV × PV)) (st : Sto) (Q : PV → Sto → Prop) (E : Exn → Sto → Prop), LT tr d p sn s sn' c → LS st O sc lc tr sn ss → p = ss.length → ss.length + c.length < 1000000 →
    (∀ st', Sv [lc, sc] st st' → LS st' O sc lc tr sn' (ss ++ c) → Q .non st') → Z (F_Steps__lay_statement n d [.loc O, s] st) Q E
theorem layb_go {d : Nat} {fw fi fb : List PV → M PV} {r1 : Option PV} (ih : LTok n O sc lc tr d) : ∀ (b : List PV) (p : Nat) (c ss : List PV) (sn sn' : List (PV × PV)) (st : Sto) (r2 : Option PV) (Q : Fl → Sto → Prop) (E : Exn → Sto → Prop), LB tr d p sn b sn' c → LS st O sc lc tr sn ss → p = ss.length → ss.length + c.length < 1000000 →
    (∀ st' r2, Sv [lc, sc] st st' → LS st' O sc lc tr sn' (ss ++ c) → Q (.next [some (.loc O), r1, r2]) st') → Z (forL (gN 2) (L0_Steps__lay_body n fw fi (F_Steps__lay_statement n d) fb) b [some (.loc O), r1, r2] st) Q E
  | [], p, c, ss, sn, sn', st, r2, Q, E, h, L, hp, hl, hq => by
    cases h
    rw [Z_forL_nil]
    exact hq _ _ (Sv.refl _ _) (by rw [List.append_nil]; exact L)
  | e :: es, p, c, ss, sn, sn', st, r2, Q, E, h, L, hp, hl, hq => by
    cases h with
    | @cons _ _ _ sn1 _ _ _ c1 c2 h1 h2 =>
      rw [List.length_append] at hl
      rw [Z_forL]
      simp [zL0_Steps__lay_body, kMt1_at L.hO sf_lay_statement]
      refine ih _ _ _ _ _ _ _ _ _ h1 L hp (by omega) fun st1 s1 G1 => ?_
      simp
      refine layb_go ih es _ _ _ _ _ _ _ _ _ h2 G1 (by rw [hp, List.length_append]) (by rw [List.length_append]; omega) fun st2 r2 s2 G2 => ?_
      exact hq _ _ (s1.trans s2) (by rw [← List.append_assoc]; exact G2)
theorem lay_body_spec {d : Nat} (ih : LTok n O sc lc tr d) {b : List PV} {p : Nat} {c ss : List PV} {sn sn' : List (PV × PV)} {st : Sto} {Q : PV → Sto → Prop} {E : Exn → Sto → Prop} (h : LB tr d p sn b sn' c) (L : LS st O sc lc tr sn ss) (hp : p = ss.length) (hl : ss.length + c.length < 1000000)
    (hq : ∀ st', Sv [lc, sc] st st' → LS st' O sc lc tr sn' (ss ++ c) → Q .non st') : Z (F_Steps__lay_body n (d + 1) [.loc O, .tup b] st) Q E := by
  rw [z_Steps__lay_body, b_Steps__lay_body]
  simp
  refine layb_go ih b _ _ _ _ _ _ _ _ _ h L hp hl fun st1 r2 s1 G1 => ?_
  simp
  exact hq _ s1 G1
theorem lt_ok : ∀ d, LTok n O sc lc tr d := by
  intro d
  induction d using Nat.strongRecOn with
  | _ d ih =>
    intro p s c ss sn sn' st Q E h L hp hl hq
    have mo : ∀ i, i ∈ [lc] → i ∈ [lc, sc] := by simp
    have m0 : ∀ i, i ∈ ([] : List Nat) → i ∈ [lc, sc] := by simp
    cases h with
    | give he =>
      simp at hl
      rw [z_Steps__lay_statement, b_Steps__lay_statement]
      simp [kMt1_at L.hO sf_lay_expr, L2.ixN]
      refine le_ok 12 _ _ _ _ _ _ _ he L hp (by omega) fun st1 s1 G1 => ?_
      simp [kMt1_at G1.hO sf_lay]
      refine lay_spec G1 (by simp; omega) fun st2 s2 G2 => ?_
      simp
      exact hq _ ((s1.trans s2).mono mo) (by rw [← List.append_assoc]; exact G2)
    | set_ hpl he =>
      simp at hl
      rw [z_Steps__lay_statement, b_Steps__lay_statement]
      simp [kMt1_at L.hO sf_lay_expr, L2.ixN]
      refine le_ok 12 _ _ _ _ _ _ _ he L hp (by omega) fun st1 s1 G1 => ?_
      simp [kMt1_at G1.hO sf_lay, Z_atr G1, Z_asn G1, L2.ixN]
      refine hpl _ _ _ _ _ G1.hs fun st2 s2 => ?_
      have G2 := G1.keep s2
      simp
      refine lay_spec G2 (by simp; omega) fun st3 s3 G3 => ?_
      simp
      exact hq _ (((s1.mono mo).trans (s2.mono m0)).trans (s3.mono mo)) (by rw [← List.append_assoc]; exact G3)
    | @let_ _ _ _ nm e k c1 he hk hsn =>
      simp at hl
      have hsn' : sn.length < 16777216 := by omega
      rw [z_Steps__lay_statement, b_Steps__lay_statement]
      simp [kMt1_at L.hO sf_lay_expr, L2.ixN]
      refine le_ok 12 _ _ _ _ _ _ _ he L hp (by omega) fun st1 s1 G1 => ?_
      simp [Z_atr G1, Z_asn G1, L2.ixN]
      refine hk _ _ _ _ _ G1.hs ?_
      have G2 := G1.see (putP sn (.str nm) k)
      simp [Z_asn G1, L2.ixN, G1.hs, hsn', kMt1_at G2.hO sf_lay]
      refine lay_spec G2 (by simp; omega) fun st3 s3 G3 => ?_
      simp
      exact hq _ (((s1.mono mo).trans (Sv.set (by simp))).trans (s3.mono mo)) (by rw [← List.append_assoc]; exact G3)
    | @put _ _ _ nm path ps e1 e2 c1 c2 hpl h1 h2 =>
      simp at hl
      rw [z_Steps__lay_statement, b_Steps__lay_statement]
      simp [kMt1_at L.hO sf_lay_expr, L2.ixN]
      refine le_ok 12 p _ _ _ _ _ _ (LE.of_ hpl) L hp (by simp; omega) fun st1 s1 G1 => ?_
      simp [kMt1_at G1.hO sf_lay_expr, L2.ixN]
      refine le_ok 12 _ _ _ _ _ _ _ h1 G1 (by simp; omega) (by simp; omega) fun st2 s2 G2 => ?_
      simp [kMt1_at G2.hO sf_lay_expr, L2.ixN]
      refine le_ok 12 _ _ _ _ _ _ _ h2 G2 (by simp; omega) (by simp; omega) fun st3 s3 G3 => ?_
      simp [kMt1_at G3.hO sf_lay]
      refine lay_spec G3 (by simp; omega) fun st4 s4 G4 => ?_
      simp [kMt1_at G4.hO sf_lay, Z_atr G4, Z_asn G4, L2.ixN]
      refine hpl _ _ _ _ _ G4.hs fun st5 s5 => ?_
      have G5 := G4.keep s5
      simp
      refine lay_spec G5 (by simp; omega) fun st6 s6 G6 => ?_
      simp
      exact hq _ (((((s1.trans s2).trans s3).trans s4).mono mo).trans ((s5.mono m0).trans (s6.mono mo))) (by simpa using G6)
    | @while_ d _ _ _ e b c1 c2 he hb =>
      obtain ⟨r, hr⟩ : ∃ r, r = p + c1.length + 2 + c2.length + 1 := ⟨_, rfl⟩
      rw [← hr] at hq
      simp at hl
      rw [z_Steps__lay_statement, b_Steps__lay_statement]
      simp [kMt1_at L.hO sf_lay_while, L2.ixN]
      rw [z_Steps__lay_while, b_Steps__lay_while]
      simp [kMt1_at L.hO sf_here, L2.ixN]
      refine here_spec L ?_
      rw [← hp]
      simp [kMt1_at L.hO sf_lay_expr, L2.ixN]
      refine le_ok 12 _ _ _ _ _ _ _ he L hp (by omega) fun st1 s1 G1 => ?_
      simp [kMt1_at G1.hO sf_lay]
      refine lay_spec G1 (by simp; omega) fun st2 s2 G2 => ?_
      obtain ⟨q, hq1⟩ : ∃ q, q = (ss ++ c1).length := ⟨_, rfl⟩
      rw [← hq1]
      simp [kMt1_at G2.hO sf_lay]
      refine lay_spec G2 (by simp; omega) fun st3 s3 G3 => ?_
      simp [kMt1_at G3.hO sf_lay_body, L2.ixN]
      refine lay_body_spec (ih d (by omega)) hb G3 (by simp; omega) (by simp; omega) fun st4 s4 G4 => ?_
      simp [kMt1_at G4.hO sf_lay]
      refine lay_spec G4 (by simp; omega) fun st5 s5 G5 => ?_
      simp [kMt1_at G5.hO sf_here, L2.ixN]
      refine here_spec G5 ?_
      have e4 : (((ss ++ c1 ++ [PV.tup []]) ++ [PV.tup [.str [116, 105, 99, 107]]] ++ c2) ++ [PV.tup [.str [103, 111], .int (p : Nat)]]).length = r := by simp; omega
      rw [e4]
      simp [Z_als G5]
      rw [Z_patch (x := .tup []) (a := ss ++ c1) (b := .tup [.str [116, 105, 99, 107]] :: (c2 ++ [.tup [.str [103, 111], .int (p : Nat)]])) G5.hl (by simp) (by rw [hq1])]
      simp
      have G6 := G5.set (ss ++ (c1 ++ .tup [.str [117, 110, 108, 101, 115, 115], .int (r : Nat)] :: .tup [.str [116, 105, 99, 107]] :: (c2 ++ [.tup [.str [103, 111], .int (p : Nat)]])))
      exact hq _ ((((((s1.trans s2).trans s3).mono mo).trans s4).trans (s5.mono mo)).trans (Sv.set (by simp))) G6
    | @if_ d _ _ sn1 _ e b1 b2 c1 c2 c3 he hb1 hb2 =>
      obtain ⟨r, hr⟩ : ∃ r, r = p + c1.length + 1 + c2.length + 1 := ⟨_, rfl⟩
      obtain ⟨t, ht⟩ : ∃ t, t = r + c3.length := ⟨_, rfl⟩
      rw [← hr] at hq hb2
      rw [← ht] at hq
      simp at hl
      rw [z_Steps__lay_statement, b_Steps__lay_statement]
      simp [kMt1_at L.hO sf_lay_if, L2.ixN]
      rw [z_Steps__lay_if, b_Steps__lay_if]
      simp [kMt1_at L.hO sf_lay_expr, L2.ixN]
      refine le_ok 12 _ _ _ _ _ _ _ he L hp (by omega) fun st1 s1 G1 => ?_
      simp [kMt1_at G1.hO sf_lay]
      refine lay_spec G1 (by simp; omega) fun st2 s2 G2 => ?_
      obtain ⟨q, hq1⟩ : ∃ q, q = (ss ++ c1).length := ⟨_, rfl⟩
      rw [← hq1]
      simp [kMt1_at G2.hO sf_lay_body, L2.ixN]
      refine lay_body_spec (ih d (by omega)) hb1 G2 (by simp; omega) (by simp; omega) fun st3 s3 G3 => ?_
      simp [kMt1_at G3.hO sf_lay]
      refine lay_spec G3 (by simp; omega) fun st4 s4 G4 => ?_
      obtain ⟨q2, hq2⟩ : ∃ q2, q2 = ((ss ++ c1 ++ [PV.tup []]) ++ c2).length := ⟨_, rfl⟩
      rw [← hq2]
      simp [kMt1_at G4.hO sf_here, L2.ixN]
      refine here_spec G4 ?_
      have e4 : (((ss ++ c1 ++ [PV.tup []]) ++ c2) ++ [PV.tup []]).length = r := by simp; omega
      rw [e4]
      simp [Z_als G4]
      rw [Z_patch (x := .tup []) (a := ss ++ c1) (b := c2 ++ [.tup []]) G4.hl (by simp) (by rw [hq1])]
      have G5 := G4.set (ss ++ c1 ++ .tup [.str [117, 110, 108, 101, 115, 115], .int (r : Nat)] :: (c2 ++ [.tup []]))
      simp only [List.append_assoc] at G5 ⊢
      simp [kMt1_at G5.hO sf_lay_body, L2.ixN]
      refine lay_body_spec (ih d (by omega)) hb2 G5 (by simp; omega) (by simp; omega) fun st6 s6 G6 => ?_
      simp [kMt1_at G6.hO sf_here, L2.ixN]
      refine here_spec G6 ?_
      have e6 : ((ss ++ (c1 ++ PV.tup [.str [117, 110, 108, 101, 115, 115], .int (r : Nat)] :: (c2 ++ [.tup []]))) ++ c3).length = t := by simp; omega
      rw [e6]
      simp [Z_als G6]
      rw [Z_patch (x := .tup []) (a := ss ++ (c1 ++ PV.tup [.str [117, 110, 108, 101, 115, 115], .int (r : Nat)] :: c2)) (b := c3) G6.hl (by simp) (by rw [hq2]; simp)]
      simp
      have G7 := G6.set (ss ++ (c1 ++ .tup [.str [117, 110, 108, 101, 115, 115], .int (r : Nat)] :: (c2 ++ .tup [.str [103, 111], .int (t : Nat)] :: c3)))
      exact hq _ ((((((((s1.trans s2).mono mo).trans s3).trans (s4.mono mo))).trans (Sv.set (by simp))).trans s6).trans (Sv.set (by simp))) G7
end
section
variable {n : Nat} {st st' : Sto} {O sc lc : Nat} {tr : PV} {Q : PV → Sto → Prop} {E : Exn → Sto → Prop}
def encP (x : List Nat × PV) : PV := .tup [.str x.1, x.2]
def seenP : List (List Nat × PV) → List (PV × PV) → List (PV × PV)
  | [], kv => kv
  | x :: xs, kv => seenP xs (putP kv (.str x.1) x.2)
theorem putP_len {kv : List (PV × PV)} {k v : PV} : (putP kv k v).length ≤ kv.length + 1 := by
  induction kv with
  | nil => simp [putP]
  | cons a r ih => unfold putP; split <;> simp <;> omega
theorem seen_go {a1 a2 : Option PV} {fs : List (String × PV)} (hfs : lookA fs "seen" = some (.loc sc)) (ne : O ≠ sc) : ∀ (ps : List (List Nat × PV)) (kv : List (PV × PV)) (st : Sto) (r3 r4 : Option PV) (Q : Fl → Sto → Prop) (E : Exn → Sto → Prop), st[O]? = some (.ins "Steps" fs) → st[sc]? = some (.dct kv) → kv.length + ps.length < 1000 →
    (∀ st' r3 r4, st'.length = st.length → Sv [sc] st st' → st'[sc]? = some (.dct (seenP ps kv)) → Q (.next [some (.loc O), a1, a2, r3, r4]) st') → Z (forL (gT 2 (gsCons (gN 3) (gsCons (gN 4) gsNil))) (L0_Steps____init__ n) (ps.map encP) [some (.loc O), a1, a2, r3, r4] st) Q E
  | [], kv, st, r3, r4, Q, E, hO, hs, hl, hq => by
    rw [List.map_nil, Z_forL_nil]
    exact hq _ _ _ rfl (Sv.refl _ _) hs
  | x :: ps, kv, st, r3, r4, Q, E, hO, hs, hl, hq => by
    have hl' : kv.length < 16777216 := by omega
    have h1 := @putP_len kv (.str x.1) x.2
    rw [List.map_cons, Z_forL]
    simp [encP, zL0_Steps____init__, Z_attr hO (List.mem_singleton.mpr rfl) hfs, hs, hl']
    refine seen_go hfs ne ps _ _ _ _ _ _ ((List.getElem?_set_ne (Ne.symm ne)).trans hO) (List.getElem?_set_self (getN hs)) (by simp at hl; omega) fun st2 r3 r4 h2 s2 g2 => ?_
    exact hq _ _ _ (by simpa using h2) ((Sv.set (by simp)).trans s2) g2
theorem steps_init {ps : List (List Nat × PV)} (hO : st[O]? = some (.ins "Steps" [])) (hl : ps.length < 1000)
    (hq : ∀ st', Sv [O] st st' → LS st' O st.length (st.length + 1) tr (seenP ps []) [] → Q .non st') : Z (F_Steps____init__ n [.loc O, tr, .tup (ps.map encP)] st) Q E := by
  have lO := getN hO
  have h1 : (st.set O (.ins "Steps" [("own_tree", tr)]))[O]? = some (.ins "Steps" [("own_tree", tr)]) := List.getElem?_set_self lO
  have h2 : (st.set O (.ins "Steps" [("own_tree", tr)]) ++ [Cell.dct []])[O]? = some (.ins "Steps" [("own_tree", tr)]) := by rw [List.getElem?_append_left (by simpa using lO), h1]
  rw [z_Steps____init__, b_Steps____init__]
  simp [kSA2_at hO (List.mem_singleton.mpr rfl) (show ([] : List (String × PV)).length < 1000 by simp), putA, kSA2_at h2 (List.mem_singleton.mpr rfl) (show [("own_tree", tr)].length < 1000 by simp)]
  refine seen_go (sc := st.length) (fs := [("own_tree", tr), ("seen", .loc st.length)]) (by simp [lookA]) (by omega) ps [] _ _ _ _ _ ?_ ?_ (by simpa using hl) fun st2 r3 r4 h2 s2 g2 => ?_
  · rw [List.getElem?_set_self (by simp; omega)]
  · rw [List.getElem?_set_ne (by omega), List.getElem?_append_right (by simp)]; simp
  · have e0 : st2.length = st.length + 1 := by rw [h2]; simp
    have k1 : st2[O]? = some (.ins "Steps" [("own_tree", tr), ("seen", .loc st.length)]) := s2.at (by rw [List.getElem?_set_self (by simp; omega)]) (by simp; omega)
    have k2 : (st2 ++ [Cell.lst []])[O]? = some (.ins "Steps" [("own_tree", tr), ("seen", .loc st.length)]) := by rw [List.getElem?_append_left (getN k1), k1]
    simp [kSA2_at k2 (List.mem_singleton.mpr rfl) (show [("own_tree", tr), ("seen", .loc st.length)].length < 1000 by simp)]
    refine hq _ ⟨by simp; omega, fun i hi hx => ?_⟩ ⟨?_, ?_, ?_, by omega, by omega, by omega⟩
    · have hx' : O ≠ i := fun e => hx (by simp [e])
      rw [List.getElem?_set_ne hx', List.getElem?_append_left (by omega), s2.keep i (by simp; omega) (by simp; omega), List.getElem?_set_ne hx', List.getElem?_append_left (by simpa using hi), List.getElem?_set_ne hx']
    · rw [List.getElem?_set_self (by simp; omega), e0]; rfl
    · rw [List.getElem?_set_ne (by omega), List.getElem?_append_left (by omega), g2]
    · rw [List.getElem?_set_ne (by omega), List.getElem?_append_right (by omega), e0]; simp
theorem firsts_go {ρ : Rho} {j : Nat} (hj : j < ρ.length) : ∀ (ps : List (List Nat × PV)) (acc : List PV) (st : Sto) (QL : List PV → Sto → Prop) (E : Exn → Sto → Prop), acc.length + ps.length < 1000 → QL (acc ++ ps.map fun x => .str x.1) st →
    Z (lcL (gN j) tYesM (eBin ixM (eVar j) (eC (.int 0))) ρ (ps.map encP) acc st) QL E
  | [], acc, st, QL, E, hl, hq => by
    rw [List.map_nil, lc_nil]
    simpa using hq
  | x :: ps, acc, st, QL, E, hl, hq => by
    have h1 : acc.length < 16777216 := by omega
    rw [List.map_cons, lc_cons]
    simp at hl
    simp [encP, L2.ixN, h1, hj]
    exact firsts_go hj ps _ _ _ _ (by simp; omega) (by simpa using hq)
end
theorem lookP_put {kvs : List (PV × PV)} {k k' v : PV} : lookP (putP kvs k v) k' = if k = k' then some v else lookP kvs k' := by
  have h1 : ∀ (kvs : List (PV × PV)), (kvs.any fun kv => decide (kv.1 = k)) = true → lookP (kvs.map (fun kv => if kv.1 = k then (kv.1, v) else kv)) k' = if k = k' then some v else lookP kvs k' := by
    intro kvs
    induction kvs with
    | nil => intro h; simp at h
    | cons a r ih =>
      intro h
      simp only [List.map_cons, lookP]
      by_cases e : a.1 = k
      · simp only [e, if_true]
        by_cases e2 : k = k'
        · simp [e2]
        · simp only [e2, if_false]
          by_cases hr : (r.any fun kv => decide (kv.1 = k)) = true
          · rw [ih hr, if_neg e2]
          · have e3 : r.map (fun kv => if kv.1 = k then (kv.1, v) else kv) = r := by
              refine (List.map_congr_left fun x hx => ?_).trans (List.map_id _)
              have : ¬ x.1 = k := fun ex => hr (List.any_eq_true.mpr ⟨x, hx, by simpa using ex⟩)
              simp [this]
            rw [e3]
      · simp only [e, if_false]
        have hr : (r.any fun kv => decide (kv.1 = k)) = true := by simpa [e] using h
        rw [ih hr]
        by_cases e2 : a.1 = k'
        · have e3 : ¬ k = k' := fun x => e (by rw [e2, x])
          simp [e2, e3]
        · simp [e2]
  have h2 : ∀ (kvs : List (PV × PV)), ¬ (kvs.any fun kv => decide (kv.1 = k)) = true → lookP (kvs ++ [(k, v)]) k' = if k = k' then some v else lookP kvs k' := by
    intro kvs
    induction kvs with
    | nil => intro _; simp [lookP]
    | cons a r ih =>
      intro h
      have h' : ¬ a.1 = k ∧ ¬ (r.any fun kv => decide (kv.1 = k)) = true := by
        refine ⟨fun e => h (by simp [e]), fun e => h ?_⟩
        rw [List.any_cons, e, Bool.or_true]
      simp only [List.cons_append, lookP]
      rw [ih h'.2]
      by_cases e2 : a.1 = k'
      · have e3 : ¬ k = k' := fun x => h'.1 (by rw [e2, x])
        simp [e2, e3]
      · simp [e2]
  unfold putP
  by_cases h : (kvs.any fun kv => decide (kv.1 = k)) = true
  · rw [if_pos h, h1 kvs h]
  · rw [if_neg h, h2 kvs h]
abbrev Look := List Nat → Option (List (List Nat) × List PV)
def upd (f : Look) (nm : List Nat) (v : List (List Nat) × List PV) : Look := fun x => if x = nm then some v else f x
inductive Fns (tr : PV) : Look → List PV → Look → Prop
  | nil {f : Look} : Fns tr f [] f
  | cons {f g : Look} {nm : List Nat} {k : PV} {ps : List (List Nat × PV)} {body c fs : List PV} {sn' : List (PV × PV)} : LB tr 11 0 (seenP ps []) body sn' c → c.length < 1000000 → ps.length < 1000 →
      Fns tr (upd f nm (ps.map Prod.fst, c)) fs g → Fns tr f (.tup [.str nm, k, .tup (ps.map encP), .tup body] :: fs) g
structure TI (look : Look) (st : Sto) (W T : Nat) (told : List (PV × PV)) : Prop where
  hw : st[W]? = some (.ins "Walk" [("told_steps", .loc T)])
  hT : st[T]? = some (.dct told)
  ne : W ≠ T
  hc : ∀ nm ps ss, look nm = some (ps, ss) → ps.length < 1000 ∧ ∃ sl, lookP told (.str nm) = some (.tup [.lst (ps.map .str), .loc sl]) ∧ st[sl]? = some (.lst ss) ∧ sl ≠ W ∧ sl ≠ T
section
variable {n : Nat} {W T : Nat} {tr : PV}
theorem TI.next {look : Look} {st st2 : Sto} {told : List (PV × PV)} (I : TI look st W T told) (s : Sv [] st st2) {lc : Nat} {c : List PV} (hc : st2[lc]? = some (.lst c)) (hl : st.length ≤ lc) (nm : List Nat) {ps : List (List Nat)} (hp : ps.length < 1000) :
    TI (upd look nm (ps, c)) (st2.set T (.dct (putP told (.str nm) (.tup [.lst (ps.map .str), .loc lc])))) W T (putP told (.str nm) (.tup [.lst (ps.map .str), .loc lc])) := by
  have lT := getN I.hT
  have lW := getN I.hw
  refine ⟨(List.getElem?_set_ne (Ne.symm I.ne)).trans (s.at I.hw (by simp)), List.getElem?_set_self (Nat.lt_of_lt_of_le lT s.len), I.ne, fun x ps' ss' h => ?_⟩
  unfold upd at h
  rw [lookP_put]
  by_cases e : x = nm
  · rw [if_pos e] at h
    cases h
    refine ⟨hp, lc, by rw [if_pos (by rw [e])], (List.getElem?_set_ne (by omega)).trans hc, by omega, by omega⟩
  · rw [if_neg e] at h
    obtain ⟨h1, sl, h2, h3, h4, h5⟩ := I.hc _ _ _ h
    refine ⟨h1, sl, by rw [if_neg (fun z => e (by injection z with z; exact z.symm))]; exact h2, (List.getElem?_set_ne (Ne.symm h5)).trans (s.at h3 (by simp)), h4, h5⟩
theorem fns_go {a2 : Option PV} : ∀ (fs : List PV) (look look' : Look) (st : Sto) (told : List (PV × PV)) (r3 r4 r5 r6 r7 r8 : Option PV) (Q : Fl → Sto → Prop) (E : Exn → Sto → Prop), Fns tr look fs look' → TI look st W T told → told.length + fs.length < 1000 →
    (∀ st' told' r3 r4 r5 r6 r7 r8, TI look' st' W T told' → Sv [T] st st' → Q (.next [some (.loc W), some tr, a2, r3, r4, r5, r6, r7, r8]) st') →
    Z (forL (gT 4 (gsCons (gN 3) (gsCons (gN 4) (gsCons (gN 5) (gsCons (gN 6) gsNil))))) (L0_Walk____init__ n) fs [some (.loc W), some tr, a2, r3, r4, r5, r6, r7, r8] st) Q E
  | [], look, look', st, told, r3, r4, r5, r6, r7, r8, Q, E, h, I, hl, hq => by
    cases h
    rw [Z_forL_nil]
    exact hq _ _ _ _ _ _ _ _ I (Sv.refl _ _)
  | _ :: fs, look, look', st, told, r3, r4, r5, r6, r7, r8, Q, E, h, I, hl, hq => by
    cases h with
    | @cons _ _ nm k ps body c _ sn' hb hc hp hf =>
      have hl' : told.length < 16777216 := by omega
      simp at hl
      rw [Z_forL]
      simp [zL0_Walk____init__]
      refine steps_init (O := st.length) (by simp) hp fun st1 s1 L1 => ?_
      simp at L1
      simp [kNew, kMt1_at L1.hO sf_lay_body]
      refine lay_body_spec (lt_ok 11) hb L1 rfl (by simpa using hc) fun st2 s2 L2 => ?_
      have s02 : Sv [] st st2 := by
        refine ⟨Nat.le_trans (Nat.le_trans (by simp) s1.len) s2.len, fun i hi _ => ?_⟩
        rw [s2.keep i (Nat.lt_of_lt_of_le hi (Nat.le_trans (by simp) s1.len)) (by simp; omega), s1.keep i (by simp; omega) (by simp; omega), List.getElem?_append_left hi]
      have hW2 := s02.at I.hw (by simp)
      have hT2 := s02.at I.hT (by simp)
      simp
      refine firsts_go (by simp) ps [] _ _ _ (by simpa using hp) ?_
      simp [Z_als L2, Z_attr hW2 (List.mem_singleton.mpr rfl) (show lookA [("told_steps", .loc T)] "told_steps" = some (.loc T) by simp [lookA]), hT2, hl']
      have e1 : (ps.map fun x => PV.str x.1) = (ps.map Prod.fst).map .str := by simp
      rw [e1]
      have hl2 : c = [] ++ c := rfl
      refine fns_go fs _ _ _ _ _ _ _ _ _ _ _ _ hf (I.next s02 L2.hl (by omega) nm (ps := ps.map Prod.fst) (by simpa using hp)) (by have := @putP_len told (.str nm) (.tup [.lst ((ps.map Prod.fst).map .str), .loc (st.length + 1 + 1)]); omega) fun st' told' r3 r4 r5 r6 r7 r8 I' s' => ?_
      exact hq _ _ _ _ _ _ _ _ I' (((s02.mono (by simp)).trans (Sv.set (by simp))).trans s')
end
def Ends (code : Cod) (n : Nat) (b : Int) (xs : List Fra) (o : PV) : Prop := ∃ k b2 x2, k + 2 ≤ n ∧ Runs code k b xs b2 x2 ∧ Fin_ code b2 x2 o
theorem Ends.step {code : Cod} {n : Nat} {b b1 : Int} {xs x1 : List Fra} {o : PV} (h : Stp code b xs b1 x1) (g : Ends code n b1 x1 o) : Ends code (n + 1) b xs o :=
  let ⟨k, b2, x2, hk, hr, hf⟩ := g; ⟨k + 1, b2, x2, by omega, .succ h hr, hf⟩
theorem Ends.fin {code : Cod} {n : Nat} {b : Int} {xs : List Fra} {o : PV} (h : Fin_ code b xs o) : Ends code (n + 2) b xs o := ⟨0, b, xs, by omega, .zero, h⟩
theorem Ends.mono {code : Cod} {n m : Nat} {b : Int} {xs : List Fra} {o : PV} (g : Ends code n b xs o) (h : n ≤ m) : Ends code m b xs o :=
  let ⟨k, b2, x2, hk, hr, hf⟩ := g; ⟨k, b2, x2, by omega, hr, hf⟩
section
variable {n : Nat} {st : Sto} {Q : PV → Sto → Prop} {E : Exn → Sto → Prop}
theorem walk_init {recs : PV} {fs : List PV} {look : Look} {b : Int} (hf : Fns (.tup [recs, .tup fs]) (fun _ => none) fs look) (hl : fs.length < 1000)
    (hq : ∀ st' T S, Rep ⟨look, st.length, st⟩ st' st.length T S b [] [] → Q .non st') :
    Z (F_Walk____init__ n [.loc st.length, .tup [recs, .tup fs], .int b] (st ++ [.ins "Walk" []])) Q E := by
  have h1 : (st ++ [Cell.ins "Walk" [], Cell.dct []])[st.length]? = some (.ins "Walk" []) := by simp
  rw [z_Walk____init__, b_Walk____init__]
  simp [kSA2_at h1 (List.mem_singleton.mpr rfl) (show ([] : List (String × PV)).length < 1000 by simp)]
  refine fns_go (T := st.length + 1) fs _ _ _ [] _ _ _ _ _ _ _ _ hf ?_ (by simpa using hl) fun st1 told r3 r4 r5 r6 r7 r8 I s1 => ?_
  · exact ⟨by simp, by simp, by omega, fun nm ps ss h => by cases h⟩
  have e1 : st.length + 2 ≤ st1.length := by have := s1.len; simpa using this
  have k1 : (st1.set st.length (.ins "Walk" [("told_steps", .loc (st.length + 1)), ("ticks_left", .int b)]) ++ [Cell.lst []])[st.length]? = some (.ins "Walk" [("told_steps", .loc (st.length + 1)), ("ticks_left", .int b)]) := by
    rw [List.getElem?_append_left (by simp; omega), List.getElem?_set_self (by omega)]
  have k2 : ((st1.set st.length (.ins "Walk" [("told_steps", .loc (st.length + 1)), ("ticks_left", .int b)]) ++ [Cell.lst []]).set st.length (.ins "Walk" [("told_steps", .loc (st.length + 1)), ("ticks_left", .int b), ("stack", .loc st1.length)]))[st.length]? = some (.ins "Walk" [("told_steps", .loc (st.length + 1)), ("ticks_left", .int b), ("stack", .loc st1.length)]) := by
    rw [List.getElem?_set_self (by simp; omega)]
  simp [L2.ixN, kSA2_at I.hw (List.mem_singleton.mpr rfl) (show [("told_steps", PV.loc (st.length + 1))].length < 1000 by simp), kSA2_at k1 (List.mem_singleton.mpr rfl) (show [("told_steps", PV.loc (st.length + 1)), ("ticks_left", .int b)].length < 1000 by simp), kSA2_at k2 (List.mem_singleton.mpr rfl) (show [("told_steps", PV.loc (st.length + 1)), ("ticks_left", .int b), ("stack", .loc st1.length)].length < 1000 by simp)]
  have old : ∀ i, i < st1.length → st.length ≠ i → ((st1.set st.length (.ins "Walk" [("told_steps", .loc (st.length + 1)), ("ticks_left", .int b)]) ++ [Cell.lst []]).set st.length (.ins "Walk" [("told_steps", .loc (st.length + 1)), ("ticks_left", .int b), ("stack", .loc st1.length), ("outcome", .non)]))[i]? = st1[i]? := fun i hi e => by
    rw [List.getElem?_set_ne e, List.getElem?_append_left (by simpa using hi), List.getElem?_set_ne e]
  refine hq _ (st.length + 1) st1.length ⟨?_, ⟨told, (old _ (by omega) (by omega)).trans I.hT, fun nm ps ss h => ?_⟩, ?_, .nil, ?_, fun l h => absurd h (by simp), ⟨by simp; omega, fun i hi => ?_⟩, fun m hm => ?_⟩
  · rw [List.getElem?_set_self (by simp; omega)]; rfl
  · obtain ⟨g1, sl, g2, g3, g4, g5⟩ := I.hc _ _ _ h
    refine ⟨g1, sl, g2, (old _ (getN g3) (Ne.symm g4)).trans g3, ?_⟩
    have := getN g3
    simp [muts, g4]
    omega
  · rw [List.getElem?_set_ne (by omega), List.getElem?_append_right (by simp)]; simp
  · simp [muts]; omega
  · have hi' : i < st.length := hi
    rw [old i (by omega) (by omega), s1.keep i (by simp; omega) (by simp; omega)]
    simp only [List.set_append_right _ _ (Nat.le_refl _)]
    exact List.getElem?_append_left hi'
  · show st.length ≤ m
    simp [muts] at hm
    omega
theorem run_spec {recs o : PV} {fs : List PV} {look : Look} {b : Int} {nm : List Nat} {ps : List (List Nat)} {ss vs : List PV} (hf : Fns (.tup [recs, .tup fs]) (fun _ => none) fs look) (hl : fs.length < 1000) (hc : look nm = some (ps, ss))
    (hr : ∀ N st0, Ends ⟨look, N, st0⟩ n b [⟨ss, laidIn (ps.map .str) vs [], [], 0⟩] o)
    (hq : ∀ st', Sv [] st st' → Q o st') : Z (F_run_source n [.tup [recs, .tup fs], .str nm, .tup vs, .int b] st) Q E := by
  rw [z_run_source, b_run_source]
  simp
  refine walk_init hf hl fun st1 T S R => ?_
  simp [kNew, kMt1_at R.hw wf_enter]
  obtain ⟨told, sl, hT, hk, hp, R2⟩ := R.enter (nm := nm) hc (laidIn (ps.map .str) vs [])
  refine enter_spec R.hw hT hk R.hS (by simp) hp ?_
  simp at R2 ⊢
  simp [kMt1_at R2.hw wf_walked]
  obtain ⟨k, b2, x2, hn, h1, h2⟩ := hr st.length st
  refine walked_spec h1 h2 hn R2 fun st' od => ?_
  simp
  exact hq _ ⟨od.len, fun i hi _ => od.keep i hi⟩
end
def T (i : Int) : Int := (i + 32768).fmod 65536 + -32768
theorem T_lo (i : Int) : -32768 ≤ T i := by have := fmod_lt (i := i + 32768) (m := 65536) (by omega); unfold T; omega
theorem T_hi (i : Int) : T i ≤ 32767 := by have := fmod_lt (i := i + 32768) (m := 65536) (by omega); unfold T; omega
theorem T_mod (i : Int) : (T i - i).fmod 65536 = 0 := by
  unfold T
  rw [Int.fmod_eq_emod_of_nonneg _ (by omega), Int.fmod_eq_emod_of_nonneg _ (by omega)]
  omega
theorem T_id {i : Int} (h : -32768 ≤ i) (h' : i ≤ 32767) : T i = i := by
  unfold T
  rw [Int.fmod_eq_emod_of_nonneg _ (by omega)]
  omega
section
variable {n : Nat} {st : Sto} {Q : PV → Sto → Prop} {E : Exn → Sto → Prop} {a b : Int}
theorem z_T : Z (F_taken_in n [.int a] st) Q E = Q (.int (T a)) st := by
  rw [z_taken_in]; unfold b_taken_in
  simp [T]
abbrev In (a : Int) : Prop := -32768 ≤ a ∧ a ≤ 32767
theorem mulOk_in (h : In a) : mulOk a b = true := by simp [mulOk]; omega
theorem z_div (h : In a) (h' : In b) : Z (F_divided n [.int a, .int b] st) Q E = Q (.int (if b = 0 then 0 else T (a.fdiv b))) st := by
  rw [z_divided]; unfold b_divided
  simp
  by_cases hb : b = 0
  · simp [hb]
  · have : b.natAbs < 1073741824 := by omega
    simp [hb, this, z_T]
theorem done_add : Z (F_done n [.str [97, 100, 100], .tup [.int a, .int b]] st) Q E = Q (.int (T (a + b))) st := by
  rw [z_done]; unfold b_done
  simp [Z_inT, flatP, ng, eqb, L2.atI, L2.ixN, z_done_sum, b_done_sum, z_T]
theorem done_sub : Z (F_done n [.str [115, 117, 98], .tup [.int a, .int b]] st) Q E = Q (.int (T (a - b))) st := by
  rw [z_done]; unfold b_done
  simp [Z_inT, flatP, ng, eqb, L2.atI, L2.ixN, z_done_sum, b_done_sum, z_T]
theorem done_mul (h : In a) : Z (F_done n [.str [109, 117, 108], .tup [.int a, .int b]] st) Q E = Q (.int (T (a * b))) st := by
  rw [z_done]; unfold b_done
  simp [Z_inT, flatP, ng, eqb, L2.atI, L2.ixN, z_done_sum, b_done_sum, z_T, mulOk_in h]
theorem done_div (h : In a) (h' : In b) : Z (F_done n [.str [100, 105, 118], .tup [.int a, .int b]] st) Q E = Q (.int (if b = 0 then 0 else T (a.fdiv b))) st := by
  rw [z_done]; unfold b_done
  simp [Z_inT, flatP, ng, eqb, L2.atI, L2.ixN, z_done_sum, b_done_sum, z_div h h']
theorem done_rest (h : In a) (h' : In b) : Z (F_done n [.str [114, 101, 115, 116], .tup [.int a, .int b]] st) Q E = Q (.int (T (a - b * (if b = 0 then 0 else T (a.fdiv b))))) st := by
  rw [z_done]; unfold b_done
  simp [Z_inT, flatP, ng, eqb, L2.atI, L2.ixN, z_done_sum, b_done_sum, z_div h h', mulOk_in h', z_T]
theorem done_less : Z (F_done n [.str [108, 101, 115, 115], .tup [.int a, .int b]] st) Q E = Q (.int (if a < b then 1 else 0)) st := by
  rw [z_done]; unfold b_done
  simp [Z_inT, flatP, ng, eqb, L2.atI, L2.ixN, z_done_sum, b_done_sum, Z_intB]
theorem done_same : Z (F_done n [.str [115, 97, 109, 101], .tup [.int a, .int b]] st) Q E = Q (.int (if a = b then 1 else 0)) st := by
  rw [z_done]; unfold b_done
  simp [Z_inT, flatP, ng, eqb, L2.atI, L2.ixN, z_done_sum, b_done_sum, Z_intB]
theorem done_pick {c : Int} : Z (F_done n [.str [112, 105, 99, 107], .tup [.int a, .int b, .int c]] st) Q E = Q (.int (if a = 0 then c else b)) st := by
  rw [z_done]; unfold b_done
  by_cases h : a = 0 <;> simp [Z_inT, flatP, ng, eqb, L2.atI, L2.ixN, h]
theorem done_at {xs : List Int} {p : Int} : Z (F_done n [.str [97, 116], .tup [.tup (xs.map .int), .int p]] st) Q E = Q (.int (if h : 0 ≤ p ∧ p < xs.length then xs[p.toNat]'(by omega) else 0)) st := by
  rw [z_done]; unfold b_done
  simp [Z_inT, flatP, ng, eqb, L2.atI, L2.ixN, z_done_row, b_done_row]
  by_cases h0 : 0 ≤ p
  · by_cases h1 : p < xs.length
    · have h2 : p.toNat < xs.length := by omega
      have h3 := atI_of (xs := xs.map PV.int) h0 (by simpa using h1)
      simp [h0, h1, h3]
    · simp [h0, h1]
  · simp [h0]
theorem done_size {xs : List Int} : Z (F_done n [.str [115, 105, 122, 101], .tup [.tup (xs.map .int)]] st) Q E = Q (.int xs.length) st := by
  rw [z_done]; unfold b_done
  simp [Z_inT, flatP, ng, eqb, L2.atI, L2.ixN, z_done_row, b_done_row]
theorem done_many {m x : Int} (h0 : -40000 ≤ m) : Z (F_done n [.str [109, 97, 110, 121], .tup [.int m, .int x]] st) Q E = Q (.tup ((List.replicate (min 40 m).toNat x).map .int)) st := by
  rw [z_done]; unfold b_done
  simp [Z_inT, flatP, ng, eqb, z_done_row, b_done_row]
  have h2 : (if 0 < if m < 40 then m else 40 then if m < 40 then m else 40 else 0) = max 0 (min 40 m) := by
    by_cases h : m < 40 <;> by_cases h' : 0 < m <;> simp [h, h'] <;> omega
  rw [h2]
  have h3 : (max 0 (min 40 m)).toNat = (min 40 m).toNat := by omega
  rw [h3]
  exact ⟨fun h => h.2, fun h => ⟨by omega, h⟩⟩
theorem z_put {xs : List Int} {p x : Int} (hl : xs.length ≤ 1000) : Z (F_put_at n [.tup (xs.map .int), .int p, .int x] st) Q E = Q (.tup (((if 0 ≤ p ∧ p < xs.length then xs.set p.toNat x else xs)).map .int)) st := by
  rw [z_put_at]; unfold b_put_at
  simp
  by_cases h0 : p < 0
  · have h1 : ¬ (0 ≤ p) := by omega
    simp [h0, h1]
  · have h1 : 0 ≤ p := by omega
    by_cases h2 : (xs.length : Int) ≤ p
    · have h3 : ¬ p < xs.length := by omega
      simp [h0, h1, h2, h3]
    · have h3 : p < xs.length := by omega
      have c1 := cut_to (l := xs.map PV.int) h1 (by simp; omega)
      have c2 := cut_from (l := xs.map PV.int) (p := p + 1) (by omega) (by simp; omega)
      have e : (p + 1).toNat = p.toNat + 1 := by omega
      have h4 : p.toNat < xs.length := by omega
      have es : xs.set p.toNat x = xs.take p.toNat ++ x :: xs.drop (p.toNat + 1) := by rw [List.set_eq_take_append_cons_drop, if_pos h4]
      simp [h0, h1, h2, h3, c1, c2, e, es, List.map_take, List.map_drop]
      exact ⟨fun h => h.2.2, fun h => ⟨by omega, by omega, h⟩⟩
theorem done_put {xs : List Int} {p x : Int} (hl : xs.length ≤ 1000) : Z (F_done n [.str [112, 117, 116], .tup [.tup (xs.map .int), .int p, .int x]] st) Q E = Q (.tup (((if 0 ≤ p ∧ p < xs.length then xs.set p.toNat x else xs)).map .int)) st := by
  rw [z_done]; unfold b_done
  simp [Z_inT, flatP, ng, eqb, z_done_row, b_done_row, z_put hl]
theorem ct_of {w : List Nat} {vs : List PV} {k : Nat} (h : lookT tab_COUNTED w = some (.int k)) (e : vs.length = k) : lookT tab_COUNTED w = some (.int vs.length) := by rw [h, e]
theorem ok_add : OpOk [97, 100, 100] [.int a, .int b] (.int (T (a + b))) := ⟨by simp, ct_of (k := 2) (by decide +kernel) rfl, fun n st Q E h => by rw [z_fault_of, b_fault_of]; simp [Z_inT, flatP, ng, eqb, L2.ixN, h], fun n st Q E h => by rw [done_add]; exact h⟩
theorem ok_sub : OpOk [115, 117, 98] [.int a, .int b] (.int (T (a - b))) := ⟨by simp, ct_of (k := 2) (by decide +kernel) rfl, fun n st Q E h => by rw [z_fault_of, b_fault_of]; simp [Z_inT, flatP, ng, eqb, L2.ixN, h], fun n st Q E h => by rw [done_sub]; exact h⟩
theorem ok_mul (ha : In a) : OpOk [109, 117, 108] [.int a, .int b] (.int (T (a * b))) := ⟨by simp, ct_of (k := 2) (by decide +kernel) rfl, fun n st Q E h => by rw [z_fault_of, b_fault_of]; simp [Z_inT, flatP, ng, eqb, L2.ixN, h], fun n st Q E h => by rw [done_mul ha]; exact h⟩
theorem ok_div (ha : In a) (hb : In b) (h0 : b ≠ 0) : OpOk [100, 105, 118] [.int a, .int b] (.int (T (a.fdiv b))) := ⟨by simp, ct_of (k := 2) (by decide +kernel) rfl, fun n st Q E h => by rw [z_fault_of, b_fault_of]; simp [Z_inT, flatP, ng, eqb, L2.ixN, h, h0], fun n st Q E h => by rw [done_div ha hb, if_neg h0]; exact h⟩
theorem ok_rest (ha : In a) (hb : In b) (h0 : b ≠ 0) : OpOk [114, 101, 115, 116] [.int a, .int b] (.int (T (a - b * T (a.fdiv b)))) := ⟨by simp, ct_of (k := 2) (by decide +kernel) rfl, fun n st Q E h => by rw [z_fault_of, b_fault_of]; simp [Z_inT, flatP, ng, eqb, L2.ixN, h, h0], fun n st Q E h => by rw [done_rest ha hb, if_neg h0]; exact h⟩
theorem ok_less : OpOk [108, 101, 115, 115] [.int a, .int b] (.int (if a < b then 1 else 0)) := ⟨by simp, ct_of (k := 2) (by decide +kernel) rfl, fun n st Q E h => by rw [z_fault_of, b_fault_of]; simp [Z_inT, flatP, ng, eqb, L2.ixN, h], fun n st Q E h => by rw [done_less]; exact h⟩
theorem ok_same : OpOk [115, 97, 109, 101] [.int a, .int b] (.int (if a = b then 1 else 0)) := ⟨by simp, ct_of (k := 2) (by decide +kernel) rfl, fun n st Q E h => by rw [z_fault_of, b_fault_of]; simp [Z_inT, flatP, ng, eqb, L2.ixN, h], fun n st Q E h => by rw [done_same]; exact h⟩
theorem ok_pick {c : Int} : OpOk [112, 105, 99, 107] [.int a, .int b, .int c] (.int (if a = 0 then c else b)) := ⟨by simp, ct_of (k := 3) (by decide +kernel) rfl, fun n st Q E h => by rw [z_fault_of, b_fault_of]; simp [Z_inT, flatP, ng, eqb, L2.ixN, h], fun n st Q E h => by rw [done_pick]; exact h⟩
theorem ok_at {xs : List Int} {p : Int} (h0 : 0 ≤ p) (h1 : p < xs.length) : OpOk [97, 116] [.tup (xs.map .int), .int p] (.int (xs[p.toNat]'(by omega))) := ⟨by simp, ct_of (k := 2) (by decide +kernel) rfl, fun n st Q E h => by rw [z_fault_of, b_fault_of]; simp [Z_inT, flatP, ng, eqb, L2.ixN, h, h0, h1], fun n st Q E h => by rw [done_at, dif_pos ⟨h0, h1⟩]; exact h⟩
theorem ok_size {xs : List Int} : OpOk [115, 105, 122, 101] [.tup (xs.map .int)] (.int xs.length) := ⟨by simp, ct_of (k := 1) (by decide +kernel) rfl, fun n st Q E h => by rw [z_fault_of, b_fault_of]; simp [Z_inT, flatP, ng, eqb, L2.ixN, h], fun n st Q E h => by rw [done_size]; exact h⟩
theorem ok_many {m x : Int} (h0 : 0 ≤ m) (h1 : m ≤ 40) : OpOk [109, 97, 110, 121] [.int m, .int x] (.tup ((List.replicate m.toNat x).map .int)) := ⟨by simp, ct_of (k := 2) (by decide +kernel) rfl, fun n st Q E h => by rw [z_fault_of, b_fault_of]; simp [Z_inT, flatP, ng, eqb, L2.ixN, h, h0, h1], fun n st Q E h => by rw [done_many (by omega), show min 40 m = m from by omega]; exact h⟩
theorem ok_put {xs : List Int} {p x : Int} (hl : xs.length ≤ 1000) (h0 : 0 ≤ p) (h1 : p < xs.length) : OpOk [112, 117, 116] [.tup (xs.map .int), .int p, .int x] (.tup ((xs.set p.toNat x).map .int)) := ⟨by simp, ct_of (k := 3) (by decide +kernel) rfl, fun n st Q E h => by rw [z_fault_of, b_fault_of]; simp [Z_inT, flatP, ng, eqb, L2.ixN, h, h0, h1], fun n st Q E h => by rw [done_put hl, if_pos ⟨h0, h1⟩]; exact h⟩
theorem bad_div {x : PV} : OpBad [100, 105, 118] [x, .int 0] [110, 111, 117, 103, 104, 116] := ⟨ct_of (k := 2) (by decide +kernel) rfl, fun n st Q E h => by rw [z_fault_of, b_fault_of]; simp [Z_inT, flatP, ng, eqb, L2.ixN, h]⟩
theorem bad_rest {x : PV} : OpBad [114, 101, 115, 116] [x, .int 0] [110, 111, 117, 103, 104, 116] := ⟨ct_of (k := 2) (by decide +kernel) rfl, fun n st Q E h => by rw [z_fault_of, b_fault_of]; simp [Z_inT, flatP, ng, eqb, L2.ixN, h]⟩
theorem bad_at {xs : List PV} {p : Int} (h0 : ¬ (0 ≤ p ∧ p < xs.length)) : OpBad [97, 116] [.tup xs, .int p] [114, 97, 110, 103, 101] := ⟨ct_of (k := 2) (by decide +kernel) rfl, fun n st Q E h => by
  rw [z_fault_of, b_fault_of]
  by_cases h2 : 0 ≤ p
  · have h3 : ¬ p < xs.length := fun h => h0 ⟨h2, h⟩
    simp [Z_inT, flatP, ng, eqb, L2.ixN, h, h2, h3]
  · simp [Z_inT, flatP, ng, eqb, L2.ixN, h, h2]⟩
theorem bad_put {xs : List PV} {p : Int} {x : PV} (h0 : ¬ (0 ≤ p ∧ p < xs.length)) : OpBad [112, 117, 116] [.tup xs, .int p, x] [114, 97, 110, 103, 101] := ⟨ct_of (k := 3) (by decide +kernel) rfl, fun n st Q E h => by
  rw [z_fault_of, b_fault_of]
  by_cases h2 : 0 ≤ p
  · have h3 : ¬ p < xs.length := fun h => h0 ⟨h2, h⟩
    simp [Z_inT, flatP, ng, eqb, L2.ixN, h, h2, h3]
  · simp [Z_inT, flatP, ng, eqb, L2.ixN, h, h2]⟩
theorem bad_many {m : Int} {x : PV} (h0 : ¬ (0 ≤ m ∧ m ≤ 40)) : OpBad [109, 97, 110, 121] [.int m, x] [108, 111, 110, 103] := ⟨ct_of (k := 2) (by decide +kernel) rfl, fun n st Q E h => by
  rw [z_fault_of, b_fault_of]
  by_cases h2 : 0 ≤ m
  · have h3 : ¬ m ≤ 40 := fun h => h0 ⟨h2, h⟩
    simp [Z_inT, flatP, ng, eqb, L2.ixN, h, h2, h3]
  · simp [Z_inT, flatP, ng, eqb, L2.ixN, h, h2]⟩
end
theorem pl_one {tr v : PV} {sn : List (PV × PV)} {nm : List Nat} (h : lookP sn (.str nm) = some v) : Pl tr sn [.str nm] [] := fun n sc st Q E hs hq => by
  rw [z_places_of, b_places_of]
  simp [L2.ixN, hs, h, cut_tail]
  rw [Z_forL_nil]
  simp [Z_tupleM (x := .loc st.length) (xs := []) (st := st ++ [Cell.lst []]) (by simp [seqOf, MP.listOf])]
  exact hq _ Sv.app
theorem kd_num {tr : PV} {sn : List (PV × PV)} {i : Int} : Kd tr sn (.int i) (.str [110, 117, 109]) := fun n sc st Q E hs hq => by
  rw [z_kind_of_expr, b_kind_of_expr]
  simp [hq]
inductive FT (nm : List Nat) (k : PV) : List PV → Prop
  | here {r fs : List PV} : FT nm k (.tup (.str nm :: k :: r) :: fs)
  | there {a : List Nat} {k' : PV} {r fs : List PV} : a ≠ nm → FT nm k fs → FT nm k (.tup (.str a :: k' :: r) :: fs)
theorem found_go {n : Nat} {nm : List Nat} {k : PV} {a0 : Option PV} {st : Sto} {Q : Fl → Sto → Prop} {E : Exn → Sto → Prop} (hq : Q (.ret k) st) : ∀ (fs : List PV) (r2 : Option PV), FT nm k fs → Z (forL (gN 2) (L0_found_in n) fs [a0, some (.str nm), r2] st) Q E
  | _, r2, .here => by
    rw [Z_forL]
    simp [zL0_found_in, L2.ixN, hq]
  | _, r2, .there (fs := fs) h g => by
    rw [Z_forL]
    simp [zL0_found_in, L2.ixN, h]
    exact found_go hq fs _ g
theorem found_spec {n : Nat} {nm : List Nat} {k : PV} {fs : List PV} {st : Sto} {Q : PV → Sto → Prop} {E : Exn → Sto → Prop} (h : FT nm k fs) (hq : Q k st) : Z (F_found_in n [.tup fs, .str nm] st) Q E := by
  rw [z_found_in, b_found_in]
  simp
  refine found_go ?_ fs _ h
  simp [hq]
theorem kd_call {recs k : PV} {fs es : List PV} {sn : List (PV × PV)} {nm : List Nat} (h : FT nm k fs) : Kd (.tup [recs, .tup fs]) sn (.tup (.str [99, 97, 108, 108] :: .str nm :: es)) k := fun n sc st Q E hs hq => by
  rw [z_kind_of_expr, b_kind_of_expr]
  simp [L2.ixN]
  refine found_spec h ?_
  simp [hq]
theorem fm {a : Int} {m : Int} (h : 0 < m := by omega) : a.fmod m = a % m := Int.fmod_eq_emod_of_nonneg a (by omega)
theorem T_T {a b : Int} : T (T a + b) = T (a + b) := by unfold T; rw [fm, fm, fm]; omega
inductive SV : Nat → PV → Prop
  | int {d : Nat} {i : Int} : SV (d + 1) (.int i)
  | str {d : Nat} {s : List Nat} : SV (d + 1) (.str s)
  | tup {d : Nat} {xs : List PV} : (∀ x ∈ xs, SV d x) → xs.length < 1000 → SV (d + 1) (.tup xs)
theorem SV.up {d : Nat} {x : PV} (h : SV d x) : SV (d + 1) x := by
  induction h with
  | int => exact .int
  | str => exact .str
  | tup _ hl ih => exact .tup (fun x hx => ih x hx) hl
theorem sv_ints {d : Nat} {xs : List Int} (h : xs.length < 1000) : SV (d + 2) (.tup (xs.map .int)) := .tup (fun x hx => by simp at hx; obtain ⟨i, _, rfl⟩ := hx; exact .int) (by simpa using h)
section
variable {n : Nat} {st : Sto}
theorem same_go {d : Nat} {xs : List PV} (ih : ∀ x ∈ xs, ∀ (Q : PV → Sto → Prop) (E : Exn → Sto → Prop), Q (.bl true) st → Z (F__law_same n d [x, x] st) Q E) (hl : xs.length < 1000) : ∀ (m j : Nat) (QL : List PV → Sto → Prop) (E : Exn → Sto → Prop), j + m = xs.length → QL (List.replicate xs.length (.bl true)) st →
    Z (lcL (gN 2) tYesM (eCall (F__law_same n d) (aCons (eBin ixM (eVar 0) (eVar 2)) (aCons (eBin ixM (eVar 1) (eVar 2)) aNil))) [some (.tup xs), some (.tup xs), none] ((List.range' j m).map fun i => PV.int (i : Nat)) (List.replicate j (.bl true)) st) QL E
  | 0, j, QL, E, hj, hq => by
    simp only [List.range'_zero, List.map_nil]
    rw [lc_nil]
    rw [show j = xs.length by omega]
    exact hq
  | m + 1, j, QL, E, hj, hq => by
    have hj' : j < xs.length := by omega
    have h1 : L2.atI xs (j : Int) = some xs[j] := by rw [atI_nat]; exact List.getElem?_eq_getElem hj'
    have h2 : j < 16777216 := by omega
    rw [List.range'_succ, List.map_cons, lc_cons]
    simp [h1]
    refine ih _ (List.getElem_mem hj') _ _ ?_
    simp [h2]
    have e : List.replicate j (PV.bl true) ++ [.bl true] = List.replicate (j + 1) (.bl true) := by rw [← List.replicate_succ']
    rw [e]
    exact same_go ih hl m (j + 1) _ _ (by omega) hq
theorem same_refl : ∀ {d : Nat} {x : PV}, SV d x → ∀ (Q : PV → Sto → Prop) (E : Exn → Sto → Prop), Q (.bl true) st → Z (F__law_same n d [x, x] st) Q E := by
  intro d x h
  induction h with
  | int => intro Q E hq; rw [z__law_same, b__law_same]; simp [hq]
  | str => intro Q E hq; rw [z__law_same, b__law_same]; simp [hq]
  | @tup d xs _ hl ih =>
    intro Q E hq
    have h2 : xs.length ≤ 16777216 := by omega
    rw [z__law_same, b__law_same]
    simp [List.range_eq_range', h2]
    refine same_go (fun x hx Q E h => ih x hx Q E h) hl xs.length 0 _ _ (by omega) ?_
    simp [Z_allR, hq]
end
abbrev sOf (w : List Nat) : PV := .tup [.str [111, 102], .str w, .tup []]
abbrev sPl (i : Int) : PV := .tup [.str [112, 108, 97, 105, 110], .int i]
abbrev sOp (w : List Nat) : PV := .tup [.str [111, 112], .str w]
abbrev sUn (i : Int) : PV := .tup [.str [117, 110, 108, 101, 115, 115], .int i]
abbrev sGo (i : Int) : PV := .tup [.str [103, 111], .int i]
abbrev sGv : PV := .tup [.str [103, 105, 118, 101]]
abbrev sCl (w : List Nat) (i : Int) : PV := .tup [.str [99, 97, 108, 108], .str w, .int i]
abbrev sSt (w : List Nat) : PV := .tup [.str [115, 101, 116], .str w, .tup []]
abbrev tOf (w : List Nat) : PV := .tup [.str [111, 102], .tup [.str w]]
theorem le_x {tr : PV} {sn : List (PV × PV)} {d p : Nat} {w : List Nat} {v : PV} (h : lookP sn (.str w) = some v) : LE tr sn (d + 1) p (tOf w) [sOf w] := LE.of_ (pl_one h)
theorem le2 {tr : PV} {sn : List (PV × PV)} {d p : Nat} {w : List Nat} {a b : PV} {c1 c2 : List PV} (hw : w ≠ [111, 102] ∧ w ≠ [97, 110, 100] ∧ w ≠ [111, 114] ∧ w ≠ [99, 97, 108, 108] ∧ w ≠ [110, 101, 119] ∧ w ≠ [109, 97, 107, 101]) (h1 : LE tr sn d p a c1) (h2 : LE tr sn d (p + c1.length) b c2) : LE tr sn (d + 1) p (.tup [.str w, a, b]) (c1 ++ (c2 ++ []) ++ [sOp w]) :=
  LE.op hw (.cons h1 (.cons h2 .nil))
inductive Rs where
  | ok (v : PV) (b : Int)
  | stop (o : PV)
inductive Rss where
  | ok (vs : List PV) (b : Int)
  | stop (o : PV)
def EvC (code : Cod) (vars : List (PV × PV)) (c : List PV) (p N : Nat) (b : Int) : Rs → Prop
  | .ok v b' => ∀ (pre post hand : List PV) (r : List Fra) (n : Nat) (o : PV), pre.length = p → hand.length + c.length < 1000000 → (r.length : Int) + b < 900000 →
      Ends code n b' (⟨pre ++ (c ++ post), vars, hand ++ [v], ((p + c.length : Nat) : Int)⟩ :: r) o → Ends code (n + N) b (⟨pre ++ (c ++ post), vars, hand, (p : Nat)⟩ :: r) o
  | .stop o => ∀ (pre post hand : List PV) (r : List Fra), pre.length = p → hand.length + c.length < 1000000 → (r.length : Int) + b < 900000 → Ends code N b (⟨pre ++ (c ++ post), vars, hand, (p : Nat)⟩ :: r) o
def EvCs (code : Cod) (vars : List (PV × PV)) (c : List PV) (p N : Nat) (b : Int) : Rss → Prop
  | .ok vs b' => ∀ (pre post hand : List PV) (r : List Fra) (n : Nat) (o : PV), pre.length = p → hand.length + c.length < 1000000 → (r.length : Int) + b < 900000 →
      Ends code n b' (⟨pre ++ (c ++ post), vars, hand ++ vs, ((p + c.length : Nat) : Int)⟩ :: r) o → Ends code (n + N) b (⟨pre ++ (c ++ post), vars, hand, (p : Nat)⟩ :: r) o
  | .stop o => ∀ (pre post hand : List PV) (r : List Fra), pre.length = p → hand.length + c.length < 1000000 → (r.length : Int) + b < 900000 → Ends code N b (⟨pre ++ (c ++ post), vars, hand, (p : Nat)⟩ :: r) o
theorem at_mid {pre post : List PV} {s : PV} {p : Nat} (h : pre.length = p) : L2.atI (pre ++ s :: post) (p : Int) = some s := by
  rw [atI_nat, ← h, List.getElem?_append_right (Nat.le_refl _)]; simp
theorem AT.mid {pre post hand : List PV} {vars : List (PV × PV)} {s : PV} {p : Nat} (h : pre.length = p) (h1 : hand.length < 1000000) (h2 : vars.length < 1000) : AT ⟨pre ++ s :: post, vars, hand, (p : Nat)⟩ s := ⟨at_mid h, h1, h2⟩
section
variable {code : Cod} {vars : List (PV × PV)} {p N M : Nat} {b b' : Int} {c1 c2 : List PV} {o : PV}
theorem Fra.eqv {ss : List PV} {v : List (PV × PV)} {h : List PV} {p q : Int} (e : p = q) : (⟨ss, v, h, p⟩ : Fra) = ⟨ss, v, h, q⟩ := by rw [e]
theorem ev_num {i : PV} (hv : vars.length < 1000) : EvC code vars [.tup [.str [112, 108, 97, 105, 110], i]] p 1 b (.ok i b) := fun pre post hand r n o hp hl hr h => by
  refine Ends.step (Stp.plain (AT.mid hp (by simp at hl; omega) hv)) ?_
  exact h
theorem ev_of {nm ps : List Nat} {v w : PV} (hv : vars.length < 1000) (h1 : lookP vars (.str nm) = some v) (h2 : partAt v ps = some w) : EvC code vars [.tup [.str [111, 102], .str nm, .tup (ps.map fun p => .int (p : Nat))]] p 1 b (.ok w b) := fun pre post hand r n o hp hl hr h => by
  refine Ends.step (Stp.of_ (AT.mid hp (by simp at hl; omega) hv) h1 h2) ?_
  exact h
theorem evs_nil : EvCs code vars [] p 0 b (.ok [] b) := fun pre post hand r n o hp hl hr h => by
  simpa using h
theorem evs_cons {v : PV} {vs : List PV} {b2 : Int} (h1 : EvC code vars c1 p N b (.ok v b')) (h2 : EvCs code vars c2 (p + c1.length) M b' (.ok vs b2)) (hb : b' ≤ b) (hc : 1 ≤ c1.length) : EvCs code vars (c1 ++ c2) p (M + N) b (.ok (v :: vs) b2) := fun pre post hand r n o hp hl hr h => by
  simp at hl
  have g1 := h1 pre (c2 ++ post) hand r (n + M) o hp (by omega) hr
  have g2 := h2 (pre ++ c1) post (hand ++ [v]) r n o (by simp [hp]) (by simp; omega) (by omega)
  rw [show n + (M + N) = n + M + N by omega]
  simp only [List.append_assoc, List.length_append, List.cons_append, List.nil_append] at g1 g2 h ⊢
  refine g1 (g2 ?_)
  rw [Nat.add_assoc]
  exact h
theorem evs_stop1 (h1 : EvC code vars c1 p N b (.stop o)) : EvCs code vars (c1 ++ c2) p N b (.stop o) := fun pre post hand r hp hl hr => by
  simp at hl
  have g1 := h1 pre (c2 ++ post) hand r hp (by omega) hr
  simp only [List.append_assoc] at g1 ⊢
  exact g1
theorem evs_stop2 {v : PV} (h1 : EvC code vars c1 p N b (.ok v b')) (h2 : EvCs code vars c2 (p + c1.length) M b' (.stop o)) (hb : b' ≤ b) (hc : 1 ≤ c1.length) : EvCs code vars (c1 ++ c2) p (M + N) b (.stop o) := fun pre post hand r hp hl hr => by
  simp at hl
  have g1 := h1 pre (c2 ++ post) hand r M o hp (by omega) hr
  have g2 := h2 (pre ++ c1) post (hand ++ [v]) r (by simp [hp]) (by simp; omega) (by omega)
  simp only [List.append_assoc, List.length_append, List.cons_append, List.nil_append] at g1 g2 ⊢
  exact g1 g2
theorem ev_op {w : List Nat} {vs : List PV} {v : PV} (hv : vars.length < 1000) (h1 : EvCs code vars c1 p N b (.ok vs b')) (ho : OpOk w vs v) (hb : b' ≤ b) (hk : vs.length ≤ c1.length) : EvC code vars (c1 ++ [.tup [.str [111, 112], .str w]]) p (1 + N) b (.ok v b') := fun pre post hand r n o hp hl hr h => by
  simp at hl
  have g1 := h1 pre ([.tup [.str [111, 112], .str w]] ++ post) hand r (n + 1) o hp (by omega) hr
  rw [show n + (1 + N) = n + 1 + N by omega]
  simp only [List.append_assoc, List.cons_append, List.nil_append] at g1 h ⊢
  refine g1 ?_
  have e : pre ++ (c1 ++ PV.tup [.str [111, 112], .str w] :: post) = (pre ++ c1) ++ .tup [.str [111, 112], .str w] :: post := by simp
  rw [e] at h ⊢
  refine Ends.step (Stp.op (hs := hand) (AT.mid (by simp [hp]) (by simp; omega) hv) rfl ho) ?_
  simp only [Fra.nxt]
  simpa [Int.add_assoc] using h
theorem ev_opbad {w f : List Nat} {vs : List PV} (hv : vars.length < 1000) (h1 : EvCs code vars c1 p N b (.ok vs b')) (ho : OpBad w vs f) (hk : vs.length ≤ c1.length) : EvC code vars (c1 ++ [.tup [.str [111, 112], .str w]]) p (2 + N) b (.stop (.tup [.str [102, 97, 117, 108, 116], .str f])) := fun pre post hand r hp hl hr => by
  simp at hl
  have g1 := h1 pre ([.tup [.str [111, 112], .str w]] ++ post) hand r 2 (.tup [.str [102, 97, 117, 108, 116], .str f]) hp (by omega) hr
  simp only [List.append_assoc, List.cons_append, List.nil_append] at g1 ⊢
  refine g1 ?_
  have e : pre ++ (c1 ++ PV.tup [.str [111, 112], .str w] :: post) = (pre ++ c1) ++ .tup [.str [111, 112], .str w] :: post := by simp
  rw [e]
  exact Ends.fin (n := 0) (Fin_.bad (hs := hand) (AT.mid (by simp [hp]) (by simp; omega) hv) rfl ho)
theorem ev_stop {s : PV} (h1 : EvCs code vars c1 p N b (.stop o)) : EvC code vars (c1 ++ [s]) p N b (.stop o) := fun pre post hand r hp hl hr => by
  simp at hl
  have g1 := h1 pre ([s] ++ post) hand r hp (by omega) hr
  simp only [List.append_assoc] at g1 ⊢
  exact g1
theorem ev_tuple {vs : List PV} {k : Int} (hv : vars.length < 1000) (h1 : EvCs code vars c1 p N b (.ok vs b')) (hk : k = vs.length) (hkc : vs.length ≤ c1.length) : EvC code vars (c1 ++ [.tup [.str [116, 117, 112, 108, 101], .int k]]) p (1 + N) b (.ok (.tup vs) b') := fun pre post hand r n o hp hl hr h => by
  simp at hl
  have g1 := h1 pre ([.tup [.str [116, 117, 112, 108, 101], .int k]] ++ post) hand r (n + 1) o hp (by omega) hr
  rw [show n + (1 + N) = n + 1 + N by omega]
  simp only [List.append_assoc, List.cons_append, List.nil_append] at g1 h ⊢
  refine g1 ?_
  have e : pre ++ (c1 ++ PV.tup [.str [116, 117, 112, 108, 101], .int k] :: post) = (pre ++ c1) ++ .tup [.str [116, 117, 112, 108, 101], .int k] :: post := by simp
  rw [e] at h ⊢
  refine Ends.step (Stp.tuple (hs := hand) (AT.mid (by simp [hp]) (by simp; omega) hv) rfl hk) ?_
  simp only [Fra.nxt]
  simpa [Int.add_assoc] using h
theorem ev_not {i : Int} (hv : vars.length < 1000) (h1 : EvCs code vars c1 p N b (.ok [.int i] b')) (hkc : 1 ≤ c1.length) : EvC code vars (c1 ++ [.tup [.str [111, 112], .str [110, 111, 116]]]) p (1 + N) b (.ok (.int (if i = 0 then 1 else 0)) b') := fun pre post hand r n o hp hl hr h => by
  simp at hl
  have g1 := h1 pre ([.tup [.str [111, 112], .str [110, 111, 116]]] ++ post) hand r (n + 1) o hp (by omega) hr
  rw [show n + (1 + N) = n + 1 + N by omega]
  simp only [List.append_assoc, List.cons_append, List.nil_append] at g1 h ⊢
  refine g1 ?_
  have e : pre ++ (c1 ++ PV.tup [.str [111, 112], .str [110, 111, 116]] :: post) = (pre ++ c1) ++ .tup [.str [111, 112], .str [110, 111, 116]] :: post := by simp
  rw [e] at h ⊢
  refine Ends.step (Stp.not_ (hs := hand) (AT.mid (by simp [hp]) (by simp; omega) hv) rfl) ?_
  simp only [Fra.nxt]
  simpa [Int.add_assoc] using h
end
def FnC (code : Cod) (nm : List Nat) (vs : List PV) (N : Nat) (b : Int) (res : Rs) : Prop := ∃ ps ss, code nm = some (ps, ss) ∧ match res with
  | .ok v b' => ∀ (x : Fra) (r : List Fra) (n : Nat) (o : PV), x.hand.length < 1000000 → ((x :: r).length : Int) + b < 900000 → Ends code n b' ({ x with hand := x.hand ++ [v] } :: r) o → Ends code (n + N) b (⟨ss, laidIn (ps.map .str) vs [], [], 0⟩ :: x :: r) o
  | .stop o => ∀ (x : Fra) (r : List Fra), x.hand.length < 1000000 → ((x :: r).length : Int) + b < 900000 → Ends code N b (⟨ss, laidIn (ps.map .str) vs [], [], 0⟩ :: x :: r) o
section
variable {code : Cod} {vars : List (PV × PV)} {p N M : Nat} {b b1 b' : Int} {c1 c2 : List PV} {o : PV}
theorem ev_call {nm : List Nat} {vs : List PV} {k : Int} {res : Rs} (hv : vars.length < 1000) (h1 : EvCs code vars c1 p N b (.ok vs b1)) (hb : b1 ≤ b) (hb0 : 0 < b1) (hk : k = vs.length) (hkc : vs.length ≤ c1.length) (hf : FnC code nm vs M (b1 - 1) res) : EvC code vars (c1 ++ [.tup [.str [99, 97, 108, 108], .str nm, .int k]]) p (M + 1 + N) b res := by
  obtain ⟨ps, ss, hc, hf⟩ := hf
  have e : ∀ pre post : List PV, pre ++ (c1 ++ PV.tup [.str [99, 97, 108, 108], .str nm, .int k] :: post) = (pre ++ c1) ++ .tup [.str [99, 97, 108, 108], .str nm, .int k] :: post := by simp
  cases res with
  | ok v b' =>
    intro pre post hand r n o hp hl hr h
    simp at hl
    have g1 := h1 pre ([.tup [.str [99, 97, 108, 108], .str nm, .int k]] ++ post) hand r (n + M + 1) o hp (by omega) hr
    rw [show n + (M + 1 + N) = n + M + 1 + N by omega]
    simp only [List.append_assoc, List.cons_append, List.nil_append] at g1 h ⊢
    refine g1 ?_
    rw [e] at h ⊢
    refine Ends.step (Stp.call (hs := hand) (AT.mid (by simp [hp]) (by simp; omega) hv) rfl hk (by omega) hc (by simp; omega)) ?_
    refine hf _ _ _ _ ?_ (by simp; omega) ?_
    · simp [Fra.nxt]; omega
    · simp only [Fra.nxt]
      simpa [Int.add_assoc] using h
  | stop o =>
    intro pre post hand r hp hl hr
    simp at hl
    have g1 := h1 pre ([.tup [.str [99, 97, 108, 108], .str nm, .int k]] ++ post) hand r (M + 1) o hp (by omega) hr
    simp only [List.append_assoc, List.cons_append, List.nil_append] at g1 ⊢
    refine g1 ?_
    rw [e]
    refine Ends.step (Stp.call (hs := hand) (AT.mid (by simp [hp]) (by simp; omega) hv) rfl hk (by omega) hc (by simp; omega)) ?_
    refine hf _ _ ?_ (by simp; omega)
    simp [Fra.nxt]; omega
theorem ev_calldry {nm : List Nat} {vs : List PV} {k : Int} (hv : vars.length < 1000) (h1 : EvCs code vars c1 p N b (.ok vs 0)) (hk : k = vs.length) (hkc : vs.length ≤ c1.length) : EvC code vars (c1 ++ [.tup [.str [99, 97, 108, 108], .str nm, .int k]]) p (2 + N) b (.stop dryP) := fun pre post hand r hp hl hr => by
  simp at hl
  have g1 := h1 pre ([.tup [.str [99, 97, 108, 108], .str nm, .int k]] ++ post) hand r 2 dryP hp (by omega) hr
  simp only [List.append_assoc, List.cons_append, List.nil_append] at g1 ⊢
  refine g1 ?_
  have e : pre ++ (c1 ++ PV.tup [.str [99, 97, 108, 108], .str nm, .int k] :: post) = (pre ++ c1) ++ .tup [.str [99, 97, 108, 108], .str nm, .int k] :: post := by simp
  rw [e]
  exact Ends.fin (n := 0) (Fin_.dryC (hs := hand) (AT.mid (by simp [hp]) (by simp; omega) hv) rfl hk)
theorem ev_short {w : List Nat} {i q : Int} (hv : vars.length < 1000) (h1 : EvC code vars c1 p N b (.ok (.int i) b1)) (hc : 1 ≤ c1.length) (hq : q = ((p + c1.length + 1 + c2.length + 1 : Nat) : Int)) (hw : (w = [97, 110, 100] ∧ i = 0) ∨ (w = [111, 114] ∧ i ≠ 0)) :
    EvC code vars (c1 ++ .tup [.str w, .int q] :: (c2 ++ [.tup [.str [116, 114, 117, 116, 104]]])) p (1 + N) b (.ok (.int (if i = 0 then 0 else 1)) b1) := fun pre post hand r n o hp hl hr h => by
  simp at hl
  have g1 := h1 pre ((.tup [.str w, .int q] :: (c2 ++ [.tup [.str [116, 114, 117, 116, 104]]])) ++ post) hand r (n + 1) o hp (by omega) hr
  rw [show n + (1 + N) = n + 1 + N by omega]
  simp only [List.append_assoc, List.cons_append, List.nil_append] at g1 h ⊢
  refine g1 ?_
  have e : pre ++ (c1 ++ PV.tup [.str w, .int q] :: (c2 ++ .tup [.str [116, 114, 117, 116, 104]] :: post)) = (pre ++ c1) ++ .tup [.str w, .int q] :: (c2 ++ .tup [.str [116, 114, 117, 116, 104]] :: post) := by simp
  rw [e] at h ⊢
  have e2 : ((p + (c1 ++ PV.tup [.str w, .int q] :: (c2 ++ [.tup [.str [116, 114, 117, 116, 104]]])).length : Nat) : Int) = q := by rw [hq]; simp; omega
  rw [e2] at h
  rcases hw with ⟨rfl, hi⟩ | ⟨rfl, hi⟩
  · refine Ends.step (Stp.and_ (hs := hand) (AT.mid (by simp [hp]) (by simp; omega) hv) rfl) ?_
    simp only [Fra.nxt, hi, if_true] at h ⊢
    exact h
  · refine Ends.step (Stp.or_ (hs := hand) (AT.mid (by simp [hp]) (by simp; omega) hv) rfl) ?_
    simp only [Fra.nxt, hi, if_false, if_true, not_false_eq_true] at h ⊢
    exact h
theorem ev_long {w : List Nat} {i j q : Int} (hv : vars.length < 1000) (h1 : EvC code vars c1 p N b (.ok (.int i) b1)) (hc : 1 ≤ c1.length) (hb : b1 ≤ b) (h2 : EvC code vars c2 (p + c1.length + 1) M b1 (.ok (.int j) b')) (hw : (w = [97, 110, 100] ∧ i ≠ 0) ∨ (w = [111, 114] ∧ i = 0)) :
    EvC code vars (c1 ++ .tup [.str w, .int q] :: (c2 ++ [.tup [.str [116, 114, 117, 116, 104]]])) p (1 + M + 1 + N) b (.ok (.int (if j = 0 then 0 else 1)) b') := fun pre post hand r n o hp hl hr h => by
  simp at hl
  have g1 := h1 pre ((.tup [.str w, .int q] :: (c2 ++ [.tup [.str [116, 114, 117, 116, 104]]])) ++ post) hand r (n + 1 + M + 1) o hp (by omega) hr
  have g2 := h2 (pre ++ c1 ++ [.tup [.str w, .int q]]) (.tup [.str [116, 114, 117, 116, 104]] :: post) hand r (n + 1) o (by simp [hp]; omega) (by omega) (by omega)
  rw [show n + (1 + M + 1 + N) = n + 1 + M + 1 + N by omega]
  simp only [List.append_assoc, List.cons_append, List.nil_append] at g1 g2 h ⊢
  refine g1 ?_
  have e : pre ++ (c1 ++ PV.tup [.str w, .int q] :: (c2 ++ .tup [.str [116, 114, 117, 116, 104]] :: post)) = (pre ++ c1) ++ .tup [.str w, .int q] :: (c2 ++ .tup [.str [116, 114, 117, 116, 104]] :: post) := by simp
  have e3 : pre ++ (c1 ++ PV.tup [.str w, .int q] :: (c2 ++ .tup [.str [116, 114, 117, 116, 104]] :: post)) = (pre ++ (c1 ++ PV.tup [.str w, .int q] :: c2)) ++ .tup [.str [116, 114, 117, 116, 104]] :: post := by simp
  have g3 : Ends code (n + 1) b' (⟨pre ++ (c1 ++ PV.tup [.str w, .int q] :: (c2 ++ .tup [.str [116, 114, 117, 116, 104]] :: post)), vars, hand ++ [.int j], ((p + c1.length + 1 + c2.length : Nat) : Int)⟩ :: r) o := by
    rw [e3] at h ⊢
    refine Ends.step (Stp.truth (hs := hand) (AT.mid (by simp [hp]; omega) (by simp; omega) hv) rfl) ?_
    simp only [Fra.nxt]
    have e4 : ((p + c1.length + 1 + c2.length : Nat) : Int) + 1 = ((p + (c1 ++ PV.tup [.str w, .int q] :: (c2 ++ [.tup [.str [116, 114, 117, 116, 104]]])).length : Nat) : Int) := by simp; omega
    rw [e4]
    exact h
  have g4 := g2 g3
  rw [e] at g4 ⊢
  have e5 : ((p + c1.length + 1 : Nat) : Int) = ((p + c1.length : Nat) : Int) + 1 := by omega
  rw [e5] at g4
  rcases hw with ⟨rfl, hi⟩ | ⟨rfl, hi⟩
  · refine Ends.step (Stp.and_ (hs := hand) (AT.mid (by simp [hp]) (by simp; omega) hv) rfl) ?_
    simp only [Fra.nxt, hi, if_false]
    exact g4
  · refine Ends.step (Stp.or_ (hs := hand) (AT.mid (by simp [hp]) (by simp; omega) hv) rfl) ?_
    simp only [Fra.nxt, hi, if_false, not_true_eq_false]
    exact g4
theorem ev_longstop {w : List Nat} {i q : Int} (hv : vars.length < 1000) (h1 : EvC code vars c1 p N b (.ok (.int i) b1)) (hc : 1 ≤ c1.length) (hb : b1 ≤ b) (h2 : EvC code vars c2 (p + c1.length + 1) M b1 (.stop o)) (hw : (w = [97, 110, 100] ∧ i ≠ 0) ∨ (w = [111, 114] ∧ i = 0)) :
    EvC code vars (c1 ++ .tup [.str w, .int q] :: (c2 ++ [.tup [.str [116, 114, 117, 116, 104]]])) p (M + 1 + N) b (.stop o) := fun pre post hand r hp hl hr => by
  simp at hl
  have g1 := h1 pre ((.tup [.str w, .int q] :: (c2 ++ [.tup [.str [116, 114, 117, 116, 104]]])) ++ post) hand r (M + 1) o hp (by omega) hr
  have g4 := h2 (pre ++ c1 ++ [.tup [.str w, .int q]]) (.tup [.str [116, 114, 117, 116, 104]] :: post) hand r (by simp [hp]; omega) (by omega) (by omega)
  simp only [List.append_assoc, List.cons_append, List.nil_append] at g1 g4 ⊢
  refine g1 ?_
  have e : pre ++ (c1 ++ PV.tup [.str w, .int q] :: (c2 ++ .tup [.str [116, 114, 117, 116, 104]] :: post)) = (pre ++ c1) ++ .tup [.str w, .int q] :: (c2 ++ .tup [.str [116, 114, 117, 116, 104]] :: post) := by simp
  rw [e] at g4 ⊢
  have e5 : ((p + c1.length + 1 : Nat) : Int) = ((p + c1.length : Nat) : Int) + 1 := by omega
  rw [e5] at g4
  rcases hw with ⟨rfl, hi⟩ | ⟨rfl, hi⟩
  · refine Ends.step (Stp.and_ (hs := hand) (AT.mid (by simp [hp]) (by simp; omega) hv) rfl) ?_
    simp only [Fra.nxt, hi, if_false]
    exact g4
  · refine Ends.step (Stp.or_ (hs := hand) (AT.mid (by simp [hp]) (by simp; omega) hv) rfl) ?_
    simp only [Fra.nxt, hi, if_false, not_true_eq_false]
    exact g4
theorem ev_firststop {ss : List PV} (h1 : EvC code vars c1 p N b (.stop o)) : EvC code vars (c1 ++ ss) p N b (.stop o) := fun pre post hand r hp hl hr => by
  simp at hl
  have g1 := h1 pre (ss ++ post) hand r hp (by omega) hr
  simp only [List.append_assoc] at g1 ⊢
  exact g1
end
theorem EvC.mono {code : Cod} {vars : List (PV × PV)} {c : List PV} {p N M : Nat} {b : Int} {rs : Rs} (h : EvC code vars c p N b rs) (hl : N ≤ M) : EvC code vars c p M b rs := by
  cases rs with
  | ok v b' => exact fun pre post hand r n o hp h1 h2 g => (h pre post hand r n o hp h1 h2 g).mono (by omega)
  | stop o => exact fun pre post hand r hp h1 h2 => (h pre post hand r hp h1 h2).mono hl
theorem EvCs.mono {code : Cod} {vars : List (PV × PV)} {c : List PV} {p N M : Nat} {b : Int} {rs : Rss} (h : EvCs code vars c p N b rs) (hl : N ≤ M) : EvCs code vars c p M b rs := by
  cases rs with
  | ok v b' => exact fun pre post hand r n o hp h1 h2 g => (h pre post hand r n o hp h1 h2 g).mono (by omega)
  | stop o => exact fun pre post hand r hp h1 h2 => (h pre post hand r hp h1 h2).mono hl
inductive V3 where
  | a
  | b
  | c
structure Rc where
  i : Int
  j : Int
  xs : List Int
def Rc.pv (r : Rc) : PV := .tup [.int r.i, .tup [.int r.j, .tup (r.xs.map .int)]]
structure S4 where
  a : Rc
  b : Rc
  c : Rc
  d : List Int
def S4.get (s : S4) : V3 → Rc
  | .a => s.a
  | .b => s.b
  | .c => s.c
def S4.set (s : S4) (r : Rc) : V3 → S4
  | .a => { s with a := r }
  | .b => { s with b := r }
  | .c => { s with c := r }
abbrev kx : PV := .str [120]
abbrev krow : PV := .str [114, 111, 119]
abbrev knum : PV := .str [110, 117, 109]
def nmA : Bool → List Nat
  | false => [120]
  | true => [106, 111]
def nmB : Bool → List Nat
  | false => [120, 120]
  | true => [106]
def nmC : Bool → List Nat
  | false => [120, 120, 120]
  | true => [113]
def nmD : Bool → List Nat
  | false => [122]
  | true => [120]
def nm (W : Bool) : V3 → List Nat
  | .a => nmA W
  | .b => nmB W
  | .c => nmC W
def rowP (xs : List Int) : PV := .tup (xs.map .int)
def varsOf (W : Bool) (s : S4) : List (PV × PV) := [(.str (nmA W), s.a.pv), (.str (nmD W), rowP s.d), (.str (nmB W), s.b.pv), (.str (nmC W), s.c.pv)]
theorem look_v {W : Bool} {s : S4} {v : V3} : lookP (varsOf W s) (.str (nm W v)) = some (s.get v).pv := by cases W <;> cases v <;> simp [varsOf, nm, nmA, nmB, nmC, nmD, lookP, S4.get]
theorem look_d {W : Bool} {s : S4} : lookP (varsOf W s) (.str (nmD W)) = some (rowP s.d) := by cases W <;> simp [varsOf, nm, nmA, nmB, nmC, nmD, lookP]
theorem put_v {W : Bool} {s : S4} {v : V3} {r : Rc} : putP (varsOf W s) (.str (nm W v)) r.pv = varsOf W (s.set r v) := by cases W <;> cases v <;> simp [varsOf, nm, nmA, nmB, nmC, nmD, putP, S4.set]
theorem put_d {W : Bool} {s : S4} {xs : List Int} : putP (varsOf W s) (.str (nmD W)) (rowP xs) = varsOf W { s with d := xs } := by cases W <;> simp [varsOf, nm, nmA, nmB, nmC, nmD, putP]
inductive Dd where
  | whole (v w : V3)
  | f0 (v : V3) (n : Int)
  | f1 (v : V3) (n : Int)
  | f2 (v w : V3)
  | f3 (v : V3)
  | pd (p n : Int)
  | pr (v : V3) (p n : Int)
abbrev tP (l : List (List Nat)) : PV := .tup [.str [111, 102], .tup (l.map .str)]
abbrev tS (l : List (List Nat)) (e : PV) : PV := .tup [.str [115, 101, 116], .tup (l.map .str), e]
def enc (W : Bool) : Dd → PV
  | .whole v w => tS [nm W v] (tP [nm W w])
  | .f0 v n => tS [nm W v, [122]] (.int n)
  | .f1 v n => tS [nm W v, [120], [122]] (.int n)
  | .f2 v w => tS [nm W v, [120]] (tP [nm W w, [120]])
  | .f3 v => tS [nm W v, [120], [113]] (tP [nmD W])
  | .pd p n => .tup [.str [112, 117, 116], .tup [.str (nmD W)], .int p, .int n]
  | .pr v p n => .tup [.str [112, 117, 116], .tup [.str (nm W v), .str [120], .str [113]], .int p, .int n]
abbrev pls (ps : List Nat) : List PV := ps.map fun p => .int (p : Nat)
abbrev cO (w : List Nat) (ps : List Nat) : PV := .tup [.str [111, 102], .str w, .tup (pls ps)]
abbrev cS (w : List Nat) (ps : List Nat) : PV := .tup [.str [115, 101, 116], .str w, .tup (pls ps)]
def cd (W : Bool) : Dd → List PV
  | .whole v w => [cO (nm W w) [], cS (nm W v) []]
  | .f0 v n => [sPl n, cS (nm W v) [0]]
  | .f1 v n => [sPl n, cS (nm W v) [1, 0]]
  | .f2 v w => [cO (nm W w) [1], cS (nm W v) [1]]
  | .f3 v => [cO (nmD W) [], cS (nm W v) [1, 1]]
  | .pd p n => [cO (nmD W) [], sPl p, sPl n, sOp [112, 117, 116], cS (nmD W) []]
  | .pr v p n => [cO (nm W v) [1, 1], sPl p, sPl n, sOp [112, 117, 116], cS (nm W v) [1, 1]]
def putX (xs : List Int) (p n : Int) : Option (List Int) := if 0 ≤ p ∧ p < xs.length then some (xs.set p.toNat n) else none
def eff : Dd → S4 → Option S4
  | .whole v w, s => some (s.set (s.get w) v)
  | .f0 v n, s => some (s.set { s.get v with i := n } v)
  | .f1 v n, s => some (s.set { s.get v with j := n } v)
  | .f2 v w, s => some (s.set { s.get v with j := (s.get w).j, xs := (s.get w).xs } v)
  | .f3 v, s => some (s.set { s.get v with xs := s.d } v)
  | .pd p n, s => (putX s.d p n).map fun xs => { s with d := xs }
  | .pr v p n, s => (putX (s.get v).xs p n).map fun xs => s.set { s.get v with xs := xs } v
def recs21 : PV := .tup [.tup [.str [105, 110], .tup [.tup [.str [122], knum], .tup [.str [113], krow]]], .tup [.str [120], .tup [.tup [.str [122], knum], .tup [.str [120], .str [105, 110]]]]]
structure Kn (W : Bool) (sn : List (PV × PV)) : Prop where
  v : ∀ v, lookP sn (.str (nm W v)) = some kx
  d : lookP sn (.str (nmD W)) = some krow
section
variable {n : Nat} {st : Sto} {Q : PV → Sto → Prop} {E : Exn → Sto → Prop} {fs : PV}
theorem fields_x (hq : Q (.tup [.tup [.str [122], knum], .tup [.str [120], .str [105, 110]]]) st) : Z (F_fields_of n [.tup [recs21, fs], kx] st) Q E := by
  rw [z_fields_of, b_fields_of]
  simp [recs21, L2.ixN]
  rw [Z_forL]
  simp [zL0_fields_of]
  rw [Z_forL]
  simp [zL0_fields_of, hq]
theorem fields_in (hq : Q (.tup [.tup [.str [122], knum], .tup [.str [113], krow]]) st) : Z (F_fields_of n [.tup [recs21, fs], .str [105, 110]] st) Q E := by
  rw [z_fields_of, b_fields_of]
  simp [recs21, L2.ixN]
  rw [Z_forL]
  simp [zL0_fields_of, hq]
end
theorem Z_tyLL {xs : List PV} {st : Sto} {QU : Unit → Sto → Prop} {E : Exn → Sto → Prop} : Z (tyC "list" (.lst xs) st) QU E = QU () st := by
  unfold tyC MP.listOf; rfl
section
variable {n : Nat} {fs : PV} {sn : List (PV × PV)} {w : List Nat}
theorem pstep {st : Sto} {tr k k2 : PV} {fl : List PV} {nmx : List Nat} {j m : Nat} {acc : List PV} {a1 a2 a6 a7 a8 : Option PV} {QF : Fl → Sto → Prop} {E : Exn → Sto → Prop}
    (hf : ∀ (st : Sto) (Q : PV → Sto → Prop) (E : Exn → Sto → Prop), Q (.tup fl) st → Z (F_fields_of n [tr, k] st) Q E) (hfl : fl = [.tup [.str [122], knum], .tup [.str [120], .str [105, 110]]] ∧ ((nmx = [122] ∧ j = 0 ∧ k2 = knum) ∨ (nmx = [120] ∧ j = 1 ∧ k2 = .str [105, 110])) ∨ fl = [.tup [.str [122], knum], .tup [.str [113], krow]] ∧ ((nmx = [122] ∧ j = 0 ∧ k2 = knum) ∨ (nmx = [113] ∧ j = 1 ∧ k2 = krow)))
    (hm : st[m]? = some (.lst acc)) (ha : acc.length < 100) (hq : ∀ a6 a7 a8, QF (.next [some tr, a1, a2, some k2, some (.loc m), some (.str nmx), a6, a7, a8]) (st.set m (.lst (acc ++ [.int (j : Nat)])))) :
    Z (L0_places_of n [some tr, a1, a2, some k, some (.loc m), some (.str nmx), a6, a7, a8] st) QF E := by
  have ha' : acc.length < 16777216 := by omega
  rw [zL0_places_of]
  simp
  refine hf _ _ _ ?_
  rcases hfl with ⟨rfl, ⟨rfl, rfl, rfl⟩ | ⟨rfl, rfl, rfl⟩⟩ | ⟨rfl, ⟨rfl, rfl, rfl⟩ | ⟨rfl, rfl, rfl⟩⟩
  · have hi : idxP (.str [122]) [PV.str [122], .str [120]] = some 0 := by decide +kernel
    simp [lc_cons, lc_nil, L2.ixN, Z_tyLL, Z_indexL (st := st) (y := .str [122]) (ys := [.str [122], .str [120]]) (by decide +kernel) hi, hm, ha']
    simpa using hq _ _ _
  · have hi : idxP (.str [120]) [PV.str [122], .str [120]] = some 1 := by decide +kernel
    simp [lc_cons, lc_nil, L2.ixN, Z_tyLL, Z_indexL (st := st) (y := .str [120]) (ys := [.str [122], .str [120]]) (by decide +kernel) hi, hm, ha']
    simpa using hq _ _ _
  · have hi : idxP (.str [122]) [PV.str [122], .str [113]] = some 0 := by decide +kernel
    simp [lc_cons, lc_nil, L2.ixN, Z_tyLL, Z_indexL (st := st) (y := .str [122]) (ys := [.str [122], .str [113]]) (by decide +kernel) hi, hm, ha']
    simpa using hq _ _ _
  · have hi : idxP (.str [113]) [PV.str [122], .str [113]] = some 1 := by decide +kernel
    simp [lc_cons, lc_nil, L2.ixN, Z_tyLL, Z_indexL (st := st) (y := .str [113]) (ys := [.str [122], .str [113]]) (by decide +kernel) hi, hm, ha']
    simpa using hq _ _ _
theorem sv_add {st : Sto} {x y : Cell} : Sv [] st ((st ++ [x]).set st.length y) := ⟨by simp, fun i hi _ => by rw [List.getElem?_set_ne (by omega), List.getElem?_append_left hi]⟩
theorem pl_two {nmx : List Nat} {j : Nat} {k2 : PV} (h : lookP sn (.str w) = some kx) (hj : (nmx = [122] ∧ j = 0 ∧ k2 = knum) ∨ (nmx = [120] ∧ j = 1 ∧ k2 = .str [105, 110])) : Pl (.tup [recs21, fs]) sn [.str w, .str nmx] (pls [j]) := fun n sc st Q E hs hq => by
  rw [z_places_of, b_places_of]
  simp [L2.ixN, hs, h, cut_tail]
  rw [Z_forL]
  simp
  refine pstep (k2 := k2) (j := j) (fun st Q E h => fields_x h) (.inl ⟨rfl, hj⟩) (acc := []) (by simp) (by simp) fun a6 a7 a8 => ?_
  simp
  rw [Z_forL_nil]
  simp [Z_tupleM (x := .loc st.length) (xs := [.int (j : Nat)]) (st := st ++ [Cell.lst [.int (j : Nat)]]) (seqOf_loc (by simp))]
  exact hq _ Sv.app
theorem pl_three {nmx : List Nat} {j : Nat} {k2 : PV} (h : lookP sn (.str w) = some kx) (hj : (nmx = [122] ∧ j = 0 ∧ k2 = knum) ∨ (nmx = [113] ∧ j = 1 ∧ k2 = krow)) : Pl (.tup [recs21, fs]) sn [.str w, .str [120], .str nmx] (pls [1, j]) := fun n sc st Q E hs hq => by
  rw [z_places_of, b_places_of]
  simp [L2.ixN, hs, h, cut_tail]
  rw [Z_forL]
  simp
  refine pstep (k2 := .str [105, 110]) (j := 1) (fun st Q E h => fields_x h) (.inl ⟨rfl, .inr ⟨rfl, rfl, rfl⟩⟩) (acc := []) (by simp) (by simp) fun a6 a7 a8 => ?_
  simp
  rw [Z_forL]
  simp
  refine pstep (k2 := k2) (j := j) (fun st Q E h => fields_in h) (.inr ⟨rfl, hj⟩) (acc := [.int 1]) (by simp) (by simp) fun a6 a7 a8 => ?_
  simp
  rw [Z_forL_nil]
  simp [Z_tupleM (x := .loc st.length) (xs := [.int 1, .int (j : Nat)]) (st := st ++ [Cell.lst [.int 1, .int (j : Nat)]]) (seqOf_loc (by simp))]
  exact hq _ Sv.app
theorem kd_of {tr k : PV} (h : lookP sn (.str w) = some k) : Kd tr sn (.tup [.str [111, 102], .tup [.str w]]) k := fun n sc st Q E hs hq => by
  rw [z_kind_of_expr, b_kind_of_expr]
  simp [L2.ixN]
  rw [z_path_kind, b_path_kind]
  simp [L2.ixN, hs, h, cut_tail]
  rw [Z_forL_nil]
  simp [hq]
end
theorem dd_lt {fs : PV} {sn : List (PV × PV)} {W : Bool} (K : Kn W sn) {D : Dd} {d p : Nat} : LT (.tup [recs21, fs]) (d + 1) p sn (enc W D) sn (cd W D) := by
  cases D with
  | whole v w => exact LT.set_ (path := []) (pl_one (K.v v)) (LE.of_ (path := []) (pl_one (K.v w)))
  | f0 v n => exact LT.set_ (path := [.str [122]]) (pl_two (K.v v) (.inl ⟨rfl, rfl, rfl⟩)) LE.num
  | f1 v n => exact LT.set_ (path := [.str [120], .str [122]]) (pl_three (K.v v) (.inl ⟨rfl, rfl, rfl⟩)) LE.num
  | f2 v w => exact LT.set_ (path := [.str [120]]) (pl_two (K.v v) (.inr ⟨rfl, rfl, rfl⟩)) (LE.of_ (path := [.str [120]]) (pl_two (K.v w) (.inr ⟨rfl, rfl, rfl⟩)))
  | f3 v => exact LT.set_ (path := [.str [120], .str [113]]) (pl_three (K.v v) (.inr ⟨rfl, rfl, rfl⟩)) (LE.of_ (path := []) (pl_one K.d))
  | pd p n => exact LT.put (path := []) (pl_one K.d) LE.num LE.num
  | pr v p n => exact LT.put (path := [.str [120], .str [113]]) (pl_three (K.v v) (.inr ⟨rfl, rfl, rfl⟩)) LE.num LE.num
abbrev fRa : PV := .tup [.str [102, 97, 117, 108, 116], .str [114, 97, 110, 103, 101]]
theorem vars_len {W : Bool} {s : S4} : (varsOf W s).length < 1000 := by simp [varsOf]
section
variable {code : Cod} {vars : List (PV × PV)} {p N n : Nat} {b : Int} {c1 pre post : List PV} {r : List Fra} {o : PV}
theorem st_set {w ps : List Nat} {v x : PV} (hv : vars.length < 1000) (h1 : EvC code vars c1 p N b (.ok v b)) (hp : pre.length = p) (hl : c1.length < 1000) (hr : (r.length : Int) + b < 900000) (hps : ps.length < 4) (hx : withP v (lookP vars (.str w)) ps = some x)
    (h : Ends code n b (⟨pre ++ ((c1 ++ [cS w ps]) ++ post), putP vars (.str w) x, [], ((p + (c1 ++ [cS w ps]).length : Nat) : Int)⟩ :: r) o) : Ends code (n + 1 + N) b (⟨pre ++ ((c1 ++ [cS w ps]) ++ post), vars, [], (p : Nat)⟩ :: r) o := by
  have g1 := h1 pre ([cS w ps] ++ post) [] r (n + 1) o hp (by simp; omega) hr
  simp only [List.append_assoc, List.cons_append, List.nil_append] at g1 h ⊢
  refine g1 ?_
  have e : pre ++ (c1 ++ cS w ps :: post) = (pre ++ c1) ++ cS w ps :: post := by simp
  rw [e] at h ⊢
  refine Ends.step (Stp.set_ (hs := []) (AT.mid (by simp [hp]) (by simp) hv) rfl hps hx) ?_
  simp only [Fra.nxt]
  simpa [Int.add_assoc] using h
end
theorem withP1 {r : Rc} {n : Int} : withP (.int n) (some r.pv) [0] = some (Rc.pv { r with i := n }) := by simp [withP, Rc.pv]
theorem withP2 {r : Rc} {n : Int} : withP (.int n) (some r.pv) [1, 0] = some (Rc.pv { r with j := n }) := by simp [withP, Rc.pv]
theorem withP3 {r q : Rc} : withP (.tup [.int q.j, .tup (q.xs.map .int)]) (some r.pv) [1] = some (Rc.pv { r with j := q.j, xs := q.xs }) := by simp [withP, Rc.pv]
theorem withP4 {r : Rc} {xs : List Int} : withP (.tup (xs.map .int)) (some r.pv) [1, 1] = some (Rc.pv { r with xs := xs }) := by simp [withP, Rc.pv]
section
variable {code : Cod} {W : Bool} {s : S4} {p n : Nat} {b : Int} {pre post : List PV} {r : List Fra} {o : PV}
theorem dd_run {D : Dd} {s' : S4} (hx : ∀ v, (s.get v).xs.length ≤ 40) (hxd : s.d.length ≤ 40) (e : eff D s = some s') (hp : pre.length = p) (hr : (r.length : Int) + b < 900000)
    (h : Ends code n b (⟨pre ++ (cd W D ++ post), varsOf W s', [], ((p + (cd W D).length : Nat) : Int)⟩ :: r) o) : Ends code (n + 10) b (⟨pre ++ (cd W D ++ post), varsOf W s, [], (p : Nat)⟩ :: r) o := by
  have hv := @vars_len W s
  cases D with
  | whole v w =>
    cases e
    rw [← put_v] at h
    exact (st_set (c1 := [cO (nm W w) []]) hv (ev_of (ps := []) hv look_v (by simp [partAt]; rfl)) hp (by simp) hr (by simp) (by simp [withP]) h).mono (by omega)
  | f0 v k =>
    cases e
    rw [← put_v] at h
    exact (st_set (c1 := [sPl k]) (ps := [0]) hv (ev_num hv) hp (by simp) hr (by simp) (by rw [look_v]; exact withP1) h).mono (by omega)
  | f1 v k =>
    cases e
    rw [← put_v] at h
    exact (st_set (c1 := [sPl k]) (ps := [1, 0]) hv (ev_num hv) hp (by simp) hr (by simp) (by rw [look_v]; exact withP2) h).mono (by omega)
  | f2 v w =>
    cases e
    rw [← put_v] at h
    exact (st_set (c1 := [cO (nm W w) [1]]) (ps := [1]) hv (ev_of (ps := [1]) hv look_v (w := .tup [.int (s.get w).j, .tup ((s.get w).xs.map .int)]) (by simp [partAt, Rc.pv])) hp (by simp) hr (by simp) (by rw [look_v]; exact withP3) h).mono (by omega)
  | f3 v =>
    cases e
    rw [← put_v] at h
    exact (st_set (c1 := [cO (nmD W) []]) (ps := [1, 1]) hv (ev_of (ps := []) hv look_d (w := .tup (s.d.map .int)) (by simp [partAt, rowP])) hp (by simp) hr (by simp) (by rw [look_v]; exact withP4) h).mono (by omega)
  | pd q k =>
    simp only [eff, putX] at e
    by_cases hq : 0 ≤ q ∧ q < s.d.length
    · rw [if_pos hq] at e
      cases e
      rw [← put_d] at h
      have h1 : EvCs code (varsOf W s) [cO (nmD W) [], sPl q, sPl k] p 3 b (.ok [.tup (s.d.map .int), .int q, .int k] b) := evs_cons (c1 := [cO (nmD W) []]) (ev_of (ps := []) hv look_d (by simp [partAt, rowP])) (evs_cons (c1 := [sPl q]) (ev_num hv) (evs_cons (c1 := [sPl k]) (ev_num hv) evs_nil (Int.le_refl _) (by simp)) (Int.le_refl _) (by simp)) (Int.le_refl _) (by simp)
      exact (st_set (c1 := [cO (nmD W) [], sPl q, sPl k, sOp [112, 117, 116]]) (ps := []) hv (ev_op (c1 := [cO (nmD W) [], sPl q, sPl k]) hv h1 (ok_put (by omega) hq.1 hq.2) (Int.le_refl _) (by simp)) hp (by simp) hr (by simp) (by simp [withP, rowP]) h).mono (by omega)
    · rw [if_neg hq] at e; cases e
  | pr v q k =>
    simp only [eff, putX] at e
    have hxv := hx v
    by_cases hq : 0 ≤ q ∧ q < (s.get v).xs.length
    · rw [if_pos hq] at e
      cases e
      rw [← put_v] at h
      have h1 : EvCs code (varsOf W s) [cO (nm W v) [1, 1], sPl q, sPl k] p 3 b (.ok [.tup ((s.get v).xs.map .int), .int q, .int k] b) := evs_cons (c1 := [cO (nm W v) [1, 1]]) (ev_of (ps := [1, 1]) hv look_v (by simp [partAt, Rc.pv])) (evs_cons (c1 := [sPl q]) (ev_num hv) (evs_cons (c1 := [sPl k]) (ev_num hv) evs_nil (Int.le_refl _) (by simp)) (Int.le_refl _) (by simp)) (Int.le_refl _) (by simp)
      exact (st_set (c1 := [cO (nm W v) [1, 1], sPl q, sPl k, sOp [112, 117, 116]]) (ps := [1, 1]) hv (ev_op (c1 := [cO (nm W v) [1, 1], sPl q, sPl k]) hv h1 (ok_put (by omega) hq.1 hq.2) (Int.le_refl _) (by simp)) hp (by simp) hr (by simp) (by rw [look_v]; exact withP4) h).mono (by omega)
    · rw [if_neg hq] at e; cases e
theorem dd_bad {D : Dd} (e : eff D s = none) (hp : pre.length = p) (hr : (r.length : Int) + b < 900000) : Ends code 10 b (⟨pre ++ (cd W D ++ post), varsOf W s, [], (p : Nat)⟩ :: r) fRa := by
  have hv := @vars_len W s
  cases D with
  | pd q k =>
    simp only [eff, putX] at e
    by_cases hq : 0 ≤ q ∧ q < s.d.length
    · rw [if_pos hq] at e; cases e
    · have h1 : EvCs code (varsOf W s) [cO (nmD W) [], sPl q, sPl k] p 3 b (.ok [.tup (s.d.map .int), .int q, .int k] b) := evs_cons (c1 := [cO (nmD W) []]) (ev_of (ps := []) hv look_d (by simp [partAt, rowP])) (evs_cons (c1 := [sPl q]) (ev_num hv) (evs_cons (c1 := [sPl k]) (ev_num hv) evs_nil (Int.le_refl _) (by simp)) (Int.le_refl _) (by simp)) (Int.le_refl _) (by simp)
      have g := ev_opbad (c1 := [cO (nmD W) [], sPl q, sPl k]) hv h1 (bad_put (by simpa using hq)) (by simp)
      exact (g pre ([cS (nmD W) []] ++ post) [] r hp (by simp) hr).mono (by omega)
  | pr v q k =>
    simp only [eff, putX] at e
    by_cases hq : 0 ≤ q ∧ q < (s.get v).xs.length
    · rw [if_pos hq] at e; cases e
    · have h1 : EvCs code (varsOf W s) [cO (nm W v) [1, 1], sPl q, sPl k] p 3 b (.ok [.tup ((s.get v).xs.map .int), .int q, .int k] b) := evs_cons (c1 := [cO (nm W v) [1, 1]]) (ev_of (ps := [1, 1]) hv look_v (by simp [partAt, Rc.pv])) (evs_cons (c1 := [sPl q]) (ev_num hv) (evs_cons (c1 := [sPl k]) (ev_num hv) evs_nil (Int.le_refl _) (by simp)) (Int.le_refl _) (by simp)) (Int.le_refl _) (by simp)
      have g := ev_opbad (c1 := [cO (nm W v) [1, 1], sPl q, sPl k]) hv h1 (bad_put (by simpa using hq)) (by simp)
      exact (g pre ([cS (nm W v) [1, 1]] ++ post) [] r hp (by simp) hr).mono (by omega)
  | _ => simp [eff] at e
end
def okS (s : S4) : Prop := (∀ v, (s.get v).xs.length ≤ 40) ∧ s.d.length ≤ 40
theorem okS_set {s : S4} {r : Rc} {v : V3} (h : okS s) (hr : r.xs.length ≤ 40) : okS (s.set r v) := by
  refine ⟨fun w => ?_, ?_⟩
  · cases v <;> cases w <;> first | exact hr | exact h.1 .a | exact h.1 .b | exact h.1 .c
  · cases v <;> exact h.2
theorem putX_len {xs ys : List Int} {p n : Int} (e : putX xs p n = some ys) : ys.length = xs.length := by
  unfold putX at e
  by_cases h : 0 ≤ p ∧ p < xs.length
  · rw [if_pos h] at e; cases e; simp
  · rw [if_neg h] at e; cases e
theorem eff_ok {D : Dd} {s s' : S4} (e : eff D s = some s') (h : okS s) : okS s' := by
  cases D with
  | whole v w => cases e; exact okS_set h (h.1 w)
  | f0 v n => cases e; exact okS_set h (h.1 v)
  | f1 v n => cases e; exact okS_set h (h.1 v)
  | f2 v w => cases e; exact okS_set h (h.1 w)
  | f3 v => cases e; exact okS_set h h.2
  | pd p n =>
    simp only [eff] at e
    cases q : putX s.d p n with
    | none => rw [q] at e; cases e
    | some xs => rw [q] at e; cases e; exact ⟨h.1, by show xs.length ≤ 40; rw [putX_len q]; exact h.2⟩
  | pr v p n =>
    simp only [eff] at e
    cases q : putX (s.get v).xs p n with
    | none => rw [q] at e; cases e
    | some xs => rw [q] at e; cases e; exact okS_set h (by show xs.length ≤ 40; rw [putX_len q]; exact h.1 v)
def effs : List Dd → S4 → Option S4
  | [], s => some s
  | D :: ds, s => match eff D s with
    | none => none
    | some s' => effs ds s'
inductive V4 where
  | r (v : V3)
  | d
def nm4 (W : Bool) : V4 → List Nat
  | .r v => nm W v
  | .d => nmD W
def S4.val (s : S4) : V4 → PV
  | .r v => (s.get v).pv
  | .d => rowP s.d
theorem look_4 {W : Bool} {s : S4} {v : V4} : lookP (varsOf W s) (.str (nm4 W v)) = some (s.val v) := by
  cases v with
  | r v => exact look_v
  | d => exact look_d
def outX (v : V4) : Option S4 → PV
  | none => fRa
  | some s => .tup [.str [98, 97, 99, 107], s.val v]
theorem ds_run {code : Cod} {W : Bool} {v : V4} {b : Int} (hb : b < 1000) : ∀ (ds : List Dd) (s : S4) (pre : List PV) (p : Nat), okS s → pre.length = p → ds.length ≤ 20 →
    Ends code (10 * ds.length + 10) b [⟨pre ++ (ds.flatMap (cd W) ++ [cO (nm4 W v) [], sGv]), varsOf W s, [], (p : Nat)⟩] (outX v (effs ds s))
  | [], s, pre, p, ho, hp, hl => by
    refine Ends.mono (n := 3) ?_ (by omega)
    refine Ends.step (Stp.of_ (ps := []) (v := s.val v) (w := s.val v) (AT.mid hp (by simp) vars_len) look_4 (by simp [partAt])) ?_
    have e : pre ++ (List.flatMap (cd W) [] ++ [cO (nm4 W v) [], sGv]) = (pre ++ [cO (nm4 W v) []]) ++ sGv :: [] := by simp
    rw [e]
    exact Ends.fin (n := 0) (Fin_.back (hs := []) (AT.mid (p := p + 1) (by simp [hp]) (by simp [Fra.nxt]) vars_len) rfl)
  | D :: ds, s, pre, p, ho, hp, hl => by
    rw [List.flatMap_cons, List.append_assoc]
    simp at hl
    cases e : eff D s with
    | none =>
      have : effs (D :: ds) s = none := by simp [effs, e]
      rw [this]
      exact (dd_bad e hp (by simp; omega)).mono (by omega)
    | some s' =>
      have : effs (D :: ds) s = effs ds s' := by simp [effs, e]
      rw [this]
      have ih := ds_run (code := code) (W := W) (v := v) hb ds s' (pre ++ cd W D) (p + (cd W D).length) (eff_ok e ho) (by simp [hp]) (by omega)
      rw [List.append_assoc] at ih
      exact (dd_run ho.1 ho.2 e hp (by simp; omega) ih).mono (by simp; omega)
def bodyC (W : Bool) (v : V4) (ds : List Dd) : List PV := [cO (nmB W) [], cS (nmC W) []] ++ (ds.flatMap (cd W) ++ [cO (nm4 W v) [], sGv])
def parP (W : Bool) : List (List Nat × PV) := [(nmA W, kx), (nmD W, krow), (nmB W, kx)]
def fnX (W : Bool) (k : PV) (v : V4) (ds : List Dd) : PV := .tup [.str [120], k, .tup ((parP W).map encP), .tup (.tup [.str [108, 101, 116], .str (nmC W), tP [nmB W]] :: (ds.map (enc W) ++ [.tup [.str [103, 105, 118, 101], tP [nm4 W v]]]))]
def treeP (W : Bool) (k : PV) (v : V4) (ds : List Dd) : PV := .tup [recs21, .tup [fnX W k v ds]]
theorem lb_app {tr : PV} {d : Nat} {sn1 sn2 : List (PV × PV)} : ∀ {b1 b2 c1 c2 : List PV} {p : Nat} {sn : List (PV × PV)}, LB tr d p sn b1 sn1 c1 → LB tr d (p + c1.length) sn1 b2 sn2 c2 → LB tr d p sn (b1 ++ b2) sn2 (c1 ++ c2)
  | [], b2, c1, c2, p, sn, h1, h2 => by cases h1; simpa using h2
  | x :: b1, b2, c1, c2, p, sn, h1, h2 => by
    cases h1 with
    | cons h h' =>
      rw [List.append_assoc]
      exact LB.cons h (lb_app h' (by rw [List.length_append] at h2; rw [Nat.add_assoc]; exact h2))
theorem dd_len {W : Bool} {D : Dd} : (cd W D).length ≤ 5 := by cases D <;> simp [cd]
theorem flat_len {W : Bool} {ds : List Dd} : (ds.flatMap (cd W)).length ≤ 5 * ds.length := by
  induction ds with
  | nil => simp
  | cons D ds ih => have := @dd_len W D; rw [List.flatMap_cons, List.length_append, List.length_cons]; omega
theorem ds_lb {fs : PV} {sn : List (PV × PV)} {W : Bool} (K : Kn W sn) : ∀ (ds : List Dd) (p : Nat), LB (.tup [recs21, fs]) 11 p sn (ds.map (enc W)) sn (ds.flatMap (cd W))
  | [], p => LB.nil
  | D :: ds, p => by rw [List.map_cons, List.flatMap_cons]; exact LB.cons (dd_lt K) (ds_lb K ds _)
theorem fns21 {W : Bool} {k : PV} {v : V4} {ds : List Dd} (hl : ds.length ≤ 20) : Fns (treeP W k v ds) (fun _ => none) [fnX W k v ds] (upd (fun _ => none) [120] ((parP W).map Prod.fst, bodyC W v ds)) := by
  have fl := @flat_len W ds
  have hB : lookP (seenP (parP W) []) (.str (nmB W)) = some kx := by cases W <;> simp [seenP, parP, nmA, nmB, nmD, putP, lookP]
  have K : Kn W (putP (seenP (parP W) []) (.str (nmC W)) kx) := by
    constructor
    · intro v; cases W <;> cases v <;> simp [lookP_put, seenP, parP, nm, nmA, nmB, nmC, nmD, lookP]
    · cases W <;> simp [lookP_put, seenP, parP, nm, nmA, nmB, nmC, nmD, lookP]
  have h4 : ∃ k', lookP (putP (seenP (parP W) []) (.str (nmC W)) kx) (.str (nm4 W v)) = some k' := by
    cases v with
    | r v => exact ⟨_, K.v v⟩
    | d => exact ⟨_, K.d⟩
  obtain ⟨k', h4⟩ := h4
  refine Fns.cons (c := bodyC W v ds) (sn' := putP (seenP (parP W) []) (.str (nmC W)) kx) ?_ (by unfold bodyC; simp only [List.length_append, List.length_cons, List.length_nil]; omega) (by simp [parP]) Fns.nil
  refine LB.cons (LT.let_ (LE.of_ (path := []) (pl_one hB)) (kd_of hB) (by cases W <;> simp [seenP, parP, nmA, nmB, nmD, putP])) ?_
  exact lb_app (ds_lb K ds _) (LB.cons (LT.give (LE.of_ (path := []) (pl_one h4))) LB.nil)
theorem ran {n : Nat} {st : Sto} {Q : PV → Sto → Prop} {E : Exn → Sto → Prop} {W : Bool} {k : PV} {v : V4} {ds : List Dd} {A B : Rc} {D : List Int} (hl : ds.length ≤ 20) (ho : okS ⟨A, B, B, D⟩) (hn : 1000 ≤ n) (hq : ∀ st', Sv [] st st' → Q (outX v (effs ds ⟨A, B, B, D⟩)) st') :
    Z (F_run_source n [treeP W k v ds, .str [120], .tup [A.pv, rowP D, B.pv], .int 0] st) Q E := by
  refine run_spec (fns21 hl) (by simp) (ps := (parP W).map Prod.fst) (ss := bodyC W v ds) (by simp [upd]) (fun N st0 => ?_) hq
  have e : laidIn (((parP W).map Prod.fst).map .str) [A.pv, rowP D, B.pv] [] = [(.str (nmA W), A.pv), (.str (nmD W), rowP D), (.str (nmB W), B.pv)] := by cases W <;> simp [laidIn, parP, nmA, nmB, nmD, putP]
  rw [e]
  have h := ds_run (code := ⟨upd (fun _ => none) [120] ((parP W).map Prod.fst, bodyC W v ds), N, st0⟩) (W := W) (v := v) (b := 0) (by omega) ds ⟨A, B, B, D⟩ [cO (nmB W) [], cS (nmC W) []] 2 ho rfl hl
  refine Ends.mono (n := 10 * ds.length + 10 + 2) ?_ (by omega)
  refine Ends.step (Stp.of_ (nm := nmB W) (ps := []) (v := B.pv) (w := B.pv) (AT.mid (pre := []) (post := cS (nmC W) [] :: (ds.flatMap (cd W) ++ [cO (nm4 W v) [], sGv])) (p := 0) rfl (by simp) (by simp)) (by cases W <;> simp [lookP, nmA, nmB, nmD]) (by simp [partAt])) ?_
  simp only [Fra.nxt, Int.reduceAdd, List.nil_append]
  refine Ends.step (Stp.set_ (nm := nmC W) (ps := []) (hs := []) (v := B.pv) (w := B.pv) (AT.mid (pre := [cO (nmB W) []]) (post := ds.flatMap (cd W) ++ [cO (nm4 W v) [], sGv]) (p := 1) rfl (by simp) (by simp)) rfl (by simp) (by simp [withP])) ?_
  simp only [Fra.nxt, Int.reduceAdd]
  have e2 : putP [(PV.str (nmA W), A.pv), (.str (nmD W), rowP D), (.str (nmB W), B.pv)] (.str (nmC W)) B.pv = varsOf W ⟨A, B, B, D⟩ := by cases W <;> simp [varsOf, nmA, nmB, nmC, nmD, putP]
  rw [e2]
  exact h
theorem FD.sv {X : List Nat} {st s : Sto} {b : Nat} {K : Int} (h : FD st b K) (g : Sv X st s) (hb : b ∉ X) : FD s b K := let ⟨c, e, h⟩ := h; ⟨c, g.at e hb, h⟩
theorem SB.at {b : Nat} {st s : Sto} {i : Nat} {c : Cell} (h : SB b st s) (hi : st[i]? = some c) (hb : i ≠ b) : s[i]? = some c := (h.2 i hb).trans hi
section
variable {n : Nat} {st : Sto} {Q : PV → Sto → Prop} {E : Exn → Sto → Prop}
theorem number_spec {b : Nat} {K : Int} (B : FD st b K) (h : ∀ i s, In i → FD s b (K + 2) → SB b st s → Q (.int i) s) (hk2 : K < 1000000) : Z (F__law_number n [.loc b] st) Q E := by
  rw [z__law_number, b__law_number]
  simp
  refine draw_spec B fun i s i0 i1 B1 s1 => ?_
  by_cases h6 : i < 6
  · obtain ⟨x, hx, hi⟩ : ∃ x : Int, L2.atI [PV.int 0, .int 1, .int (-1), .int 2, .int 32767, .int (-32768)] i = some (.int x) ∧ In x := by
      have : i = 0 ∨ i = 1 ∨ i = 2 ∨ i = 3 ∨ i = 4 ∨ i = 5 := by omega
      rcases this with rfl | rfl | rfl | rfl | rfl | rfl <;> exact ⟨_, rfl, by decide⟩
    simp [h6, hx]
    exact h _ _ hi (B1.mono (by omega)) s1
  · by_cases h7 : i = 6
    · subst h7
      simp
      refine draw_spec B1 fun j s j0 j1 B2 s2 => ?_
      simp
      exact h _ _ (by omega) (B2.mono (by omega)) (s1.trans s2)
    · simp [h6, h7]
      refine draw_spec B1 fun j s j0 j1 B2 s2 => ?_
      simp
      exact h _ _ (by omega) (B2.mono (by omega)) (s1.trans s2)
theorem nums_go {r1 r2 : Option PV} : ∀ (ls : List PV) (acc : List Int) (st : Sto) (K : Int) (QL : List PV → Sto → Prop) (E : Exn → Sto → Prop), FD st 0 K → K + 2 * ls.length < 900000 → acc.length + ls.length ≤ 40 →
    (∀ (is : List Int) s, is.length = acc.length + ls.length → FD s 0 (K + 2 * ls.length) → SB 0 st s → QL (is.map .int) s) → Z (lcL (gN 2) tYesM (eCall (F__law_number n) (aCons (eVar 0) aNil)) [some (.loc 0), r1, r2] ls (acc.map .int) st) QL E
  | [], acc, st, K, QL, E, B, hk, hl, hq => by
    rw [lc_nil]
    exact hq acc st (by simp) (B.mono (by simp)) SB.refl
  | p :: ls, acc, st, K, QL, E, B, hk, hl, hq => by
    simp at hk hl
    have ha : acc.length < 16777216 := by omega
    rw [lc_cons]
    simp
    refine number_spec B (fun i s hi B1 s1 => ?_) (by omega)
    simp [ha]
    have e : acc.map PV.int ++ [.int i] = (acc ++ [i]).map .int := by simp
    rw [e]
    refine nums_go ls (acc ++ [i]) s (K + 2) QL E B1 (by omega) (by simp; omega) fun is s' h1 h2 h3 => ?_
    exact hq is s' (by simp at h1 ⊢; omega) (h2.mono (by simp; omega)) (s1.trans h3)
theorem row_spec {K : Int} (B : FD st 0 K) (h : ∀ (xs : List Int) s, xs.length ≤ 40 → FD s 0 (K + 10) → SB 0 st s → Q (.tup (xs.map .int)) s) (hk2 : K < 100000) : Z (F__law_row n [.loc 0] st) Q E := by
  rw [z__law_row, b__law_row]
  simp
  refine draw_spec B fun i s i0 i1 B1 s1 => ?_
  by_cases h7 : i = 7
  · subst h7
    simp
    refine number_spec B1 (fun j s hj B2 s2 => ?_) (by omega)
    simp
    refine draw_spec B2 fun d s d0 d1 B3 s3 => ?_
    simp
    refine ⟨⟨by omega, by omega⟩, ?_⟩
    have := h (List.replicate (38 + d).toNat j) s (by simp; omega) (B3.mono (by omega)) ((s1.trans s2).trans s3)
    simpa using this
  · have hf : i.fdiv 2 = i / 2 := Int.fdiv_eq_ediv_of_nonneg i (by omega)
    have hr : rangeOk (i / 2) := ⟨by omega, by omega⟩
    simp [h7, hf, Z_range1 hr]
    refine nums_go _ [] s (K + 1) _ _ B1 (by simp; omega) (by simp; omega) fun is s' h1 h2 h3 => ?_
    simp at h1
    simp
    exact h is s' (by omega) (h2.mono (by simp; omega)) (s1.trans h3)
end
section
variable {n : Nat} {st : Sto} {Q : PV → Sto → Prop} {E : Exn → Sto → Prop}
theorem lwith_spec {fresh : PV} : ∀ (ps : List Nat) (d : Nat) (o : Option PV) (w : PV) (Q : PV → Sto → Prop), ps.length < d → withP fresh o ps = some w → Q w st → Z (F__law_with n d [o.getD .non, .tup (ps.map fun p => .int (p : Nat)), fresh] st) Q E
  | [], d + 1, o, w, Q, _, h, hq => by
    have h' : some fresh = some w := by cases o <;> simpa [withP] using h
    cases h'
    rw [z__law_with, b__law_with]
    simp [Z_eqP (show okP (.tup []) = true from rfl) (show okP (.tup []) = true from rfl), hq]
  | p :: ps, d + 1, o, w, Q, hd, h, hq => by
    cases o with
    | none => simp [withP] at h
    | some v =>
      cases v <;> simp only [withP] at h <;> try contradiction
      rename_i xs
      cases r : withP fresh xs[p]? ps with
      | none => rw [r] at h; cases h
      | some w' =>
        rw [r] at h
        dsimp only at h
        by_cases hp : p < xs.length ∧ xs.length ≤ 1000
        · rw [if_pos hp] at h
          cases h
          obtain ⟨hp, hx⟩ := hp
          have q : xs[p]? = some xs[p] := List.getElem?_eq_getElem hp
          have ok := okP_ints (p :: ps)
          rw [List.map_cons] at ok
          rw [z__law_with, b__law_with]
          simp [Z_eqP ok (show okP (.tup []) = true from rfl), L2.ixN, atI_nat, q, cut_tail]
          rw [q] at r
          refine lwith_spec ps d (some xs[p]) w' _ (by simpa using hd) r ?_
          have l1 : (cutL xs none (some (p : Int))).length ≤ 1000 := by unfold cutL; simp; omega
          have l2 : (cutL xs (some ((p : Int) + 1)) none).length ≤ 1000 := by unfold cutL; simp; omega
          simp [cut_set hp, hq]
          omega
        · rw [if_neg hp] at h; cases h
end

def lt3 : V3 → List Nat
  | .a => [97]
  | .b => [98]
  | .c => [99]
def haveP (s : S4) (dv : PV) : List (PV × PV) := [(.str [97], s.a.pv), (.str [98], s.b.pv), (.str [99], s.c.pv), (.str [100], dv)]
def namesP (W : Bool) : List (PV × PV) := [(.str [97], .str (nmA W)), (.str [98], .str (nmB W)), (.str [99], .str (nmC W)), (.str [100], .str (nmD W))]
theorem nl {W : Bool} {v : V3} : lookP (namesP W) (.str (lt3 v)) = some (.str (nm W v)) := by cases v <;> simp [namesP, lt3, lookP, nm]
theorem nld {W : Bool} : lookP (namesP W) (.str [100]) = some (.str (nmD W)) := by simp [namesP, lookP]
theorem hl {s : S4} {dv : PV} {v : V3} : lookP (haveP s dv) (.str (lt3 v)) = some (s.get v).pv := by cases v <;> simp [haveP, lt3, lookP, S4.get]
theorem hld {s : S4} {dv : PV} : lookP (haveP s dv) (.str [100]) = some dv := by simp [haveP, lookP]
theorem hp {s : S4} {dv : PV} {v : V3} {r : Rc} : putP (haveP s dv) (.str (lt3 v)) r.pv = haveP (s.set r v) dv := by cases v <;> simp [haveP, lt3, putP, S4.set]
theorem hpd {s : S4} {dv x : PV} : putP (haveP s dv) (.str [100]) x = haveP s x := by simp [haveP, putP]
theorem set_d {s : S4} {r : Rc} {v : V3} : (s.set r v).d = s.d := by cases v <;> rfl
def HD (st : Sto) (hc : Nat) : Option S4 → Prop
  | some s => st[hc]? = some (.dct (haveP s (rowP s.d)))
  | none => ∃ s, st[hc]? = some (.dct (haveP s .non))
structure HV (st : Sto) (nc hc : Nat) (W : Bool) (o : Option S4) (K : Int) : Prop where
  fd : FD st 0 K
  hn : st[nc]? = some (.dct (namesP W))
  hh : HD st hc o
  n0 : nc ≠ 0
  h0 : hc ≠ 0
  nh : nc ≠ hc
theorem HV.sb {st s : Sto} {nc hc : Nat} {W : Bool} {o : Option S4} {K K' : Int} (a : HV st nc hc W o K) (h : SB 0 st s) (B : FD s 0 K') : HV s nc hc W o K' :=
  ⟨B, h.at a.hn a.n0, by cases o with
    | some s4 => exact h.at (show st[hc]? = _ from a.hh) a.h0
    | none => obtain ⟨s4, e⟩ := a.hh; exact ⟨s4, h.at e a.h0⟩, a.n0, a.h0, a.nh⟩
theorem HV.set {st : Sto} {nc hc : Nat} {W : Bool} {o : Option S4} {s' : S4} {K : Int} (a : HV st nc hc W o K) (lh : hc < st.length) : HV (st.set hc (.dct (haveP s' (rowP s'.d)))) nc hc W (some s') K :=
  ⟨a.fd.setN a.h0, (List.getElem?_set_ne a.nh.symm).trans a.hn, List.getElem?_set_self lh, a.n0, a.h0, a.nh⟩
theorem abc {j : Int} (h0 : 0 ≤ j) (h1 : j < 3) : ∃ v : V3, L2.atI [PV.str [97], .str [98], .str [99]] j = some (.str (lt3 v)) := by
  have : j = 0 ∨ j = 1 ∨ j = 2 := by omega
  rcases this with rfl | rfl | rfl
  · exact ⟨.a, rfl⟩
  · exact ⟨.b, rfl⟩
  · exact ⟨.c, rfl⟩
theorem SvB {X : List Nat} {st s : Sto} (h : SB 0 st s) (h0 : 0 ∈ X) : Sv X st s := ⟨by rw [h.1]; exact Nat.le_refl _, fun i _ hx => h.2 i fun e => hx (e ▸ h0)⟩
section
variable {n : Nat} {st : Sto} {Q : PV → Sto → Prop} {E : Exn → Sto → Prop} {nc hc : Nat} {W : Bool} {s : S4} {K : Int}
theorem whole_spec (H : HV st nc hc W (some s) K) (hK : K < 90000) (hq : ∀ D st', HV st' nc hc W (eff D s) (K + 10) → Sv [0, hc] st st' → Q (enc W D) st') : Z (F__law_whole n [.loc 0, .loc nc, .loc hc] st) Q E := by
  rw [z__law_whole, b__law_whole]
  simp
  refine draw_spec H.fd fun i s1 i0 i1 B1 s1b => ?_
  obtain ⟨v, hv⟩ := abc i0 i1
  simp [hv]
  refine draw_spec B1 fun j s2 j0 j1 B2 s2b => ?_
  obtain ⟨w, hw⟩ := abc j0 j1
  have H2 := H.sb (s1b.trans s2b) B2
  have hh : s2[hc]? = some (.dct (haveP s (rowP s.d))) := H2.hh
  have hlen : (haveP s (rowP s.d)).length < 16777216 := by simp [haveP]
  have hn' : (s2.set hc (.dct (haveP (s.set (s.get w) v) (rowP s.d))))[nc]? = some (.dct (namesP W)) := (List.getElem?_set_ne H.nh.symm).trans H2.hn
  simp [hw, hh, hl, hlen, hp, hn', nl]
  have H3 := H2.set (s' := s.set (s.get w) v) (getN hh)
  rw [set_d] at H3
  exact hq (.whole v w) _ ⟨H3.fd.mono (by omega), H3.hn, by have := H3.hh; simp only [eff, HD, set_d] at this ⊢; exact this, H3.n0, H3.h0, H3.nh⟩ ((SvB (s1b.trans s2b) (by simp)).trans (Sv.set (by simp)))
end
section
variable {n : Nat} {st : Sto} {Q : PV → Sto → Prop} {E : Exn → Sto → Prop}
theorem lw1 {r : Rc} {k : Int} (hq : Q (Rc.pv { r with i := k }) st) : Z (F__law_with n 4 [r.pv, .tup [.int 0], .int k] st) Q E := by
  have := lwith_spec (n := n) (st := st) (E := E) (fresh := .int k) [0] 4 (some r.pv) _ Q (by simp) withP1 hq
  simpa using this
theorem lw2 {r : Rc} {k : Int} (hq : Q (Rc.pv { r with j := k }) st) : Z (F__law_with n 4 [r.pv, .tup [.int 1, .int 0], .int k] st) Q E := by
  have := lwith_spec (n := n) (st := st) (E := E) (fresh := .int k) [1, 0] 4 (some r.pv) _ Q (by simp) withP2 hq
  simpa using this
theorem lw3 {r q : Rc} (hq : Q (Rc.pv { r with j := q.j, xs := q.xs }) st) : Z (F__law_with n 4 [r.pv, .tup [.int 1], .tup [.int q.j, .tup (q.xs.map .int)]] st) Q E := by
  have := lwith_spec (n := n) (st := st) (E := E) (fresh := .tup [.int q.j, .tup (q.xs.map .int)]) [1] 4 (some r.pv) _ Q (by simp) withP3 hq
  simpa using this
theorem lw4 {r : Rc} {xs : List Int} (hq : Q (Rc.pv { r with xs := xs }) st) : Z (F__law_with n 4 [r.pv, .tup [.int 1, .int 1], .tup (xs.map .int)] st) Q E := by
  have := lwith_spec (n := n) (st := st) (E := E) (fresh := .tup (xs.map .int)) [1, 1] 4 (some r.pv) _ Q (by simp) withP4 hq
  simpa using this
theorem lput {xs : List Int} {p k : Int} (hx : xs.length ≤ 40) (h1 : ∀ ys, putX xs p k = some ys → Q (.tup (ys.map .int)) st) (h2 : putX xs p k = none → Q .non st) : Z (F__law_put n [.tup (xs.map .int), .int p, .int k] st) Q E := by
  rw [z__law_put, b__law_put]
  by_cases h0 : 0 ≤ p
  · by_cases h3 : p < xs.length
    · have h4 : ¬ p < 0 := by omega
      have h5 : ¬ (xs.length : Int) ≤ p := by omega
      have c1 := cut_to (l := xs.map PV.int) h0 (by simp; omega)
      have c2 := cut_from (l := xs.map PV.int) (p := p + 1) (by omega) (by simp; omega)
      have e : (p + 1).toNat = p.toNat + 1 := by omega
      have h6 : p.toNat < xs.length := by omega
      have es : xs.set p.toNat k = xs.take p.toNat ++ k :: xs.drop (p.toNat + 1) := by rw [List.set_eq_take_append_cons_drop, if_pos h6]
      have := h1 (xs.set p.toNat k) (by unfold putX; rw [if_pos ⟨h0, h3⟩])
      rw [es] at this
      simp [h4, h5, c1, c2, e]
      refine ⟨by omega, by omega, ?_⟩
      simpa [List.map_take, List.map_drop] using this
    · have h4 : ¬ p < 0 := by omega
      have h5 : (xs.length : Int) ≤ p := by omega
      simp [h4, h5]
      exact h2 (by unfold putX; rw [if_neg (by omega)])
  · have h4 : p < 0 := by omega
    simp [h4]
    exact h2 (by unfold putX; rw [if_neg (by omega)])
end
section
variable {n : Nat} {st : Sto} {Q : PV → Sto → Prop} {E : Exn → Sto → Prop} {nc hc : Nat} {W : Bool} {s : S4} {K : Int}
theorem HV.fin {st' : Sto} {o : Option S4} (H : HV st' nc hc W o K) {K' : Int} (hk : K ≤ K') : HV st' nc hc W o K' := ⟨H.fd.mono hk, H.hn, H.hh, H.n0, H.h0, H.nh⟩
theorem field_spec (H : HV st nc hc W (some s) K) (hK : K < 90000) (hq : ∀ D st', HV st' nc hc W (eff D s) (K + 10) → Sv [0, hc] st st' → Q (enc W D) st') : Z (F__law_field n [.loc 0, .loc nc, .loc hc] st) Q E := by
  rw [z__law_field, b__law_field]
  simp
  refine draw_spec H.fd fun i s1 i0 i1 B1 s1b => ?_
  obtain ⟨v, hv⟩ := abc i0 i1
  simp [hv]
  refine draw_spec B1 fun w s2 w0 w1 B2 s2b => ?_
  simp
  refine number_spec B2 (fun k s3 hk B3 s3b => ?_) (by omega)
  have sb3 := (s1b.trans s2b).trans s3b
  have H3 := H.sb sb3 B3
  have hh : s3[hc]? = some (.dct (haveP s (rowP s.d))) := H3.hh
  have hlen : (haveP s (rowP s.d)).length < 16777216 := by simp [haveP]
  have fin : ∀ (r : Rc) (D : Dd) (sX : Sto) (KX : Int), HV sX nc hc W (some s) KX → KX ≤ K + 10 → Sv [0, hc] st sX → eff D s = some (s.set r v) → HV (sX.set hc (.dct (haveP (s.set r v) (rowP s.d)))) nc hc W (eff D s) (K + 10) ∧ Sv [0, hc] st (sX.set hc (.dct (haveP (s.set r v) (rowP s.d)))) ∧ (sX.set hc (.dct (haveP (s.set r v) (rowP s.d))))[nc]? = some (.dct (namesP W)) := by
    intro r D sX KX HX hKX sv e
    have hhX : sX[hc]? = some (.dct (haveP s (rowP s.d))) := HX.hh
    have H4 := HX.set (s' := s.set r v) (getN hhX)
    rw [set_d] at H4
    rw [e]
    exact ⟨H4.fin hKX, sv.trans (Sv.set (by simp)), H4.hn⟩
  have sv3 : Sv [0, hc] st s3 := SvB sb3 (by simp)
  by_cases e0 : w = 0
  · subst e0
    simp [hh, hl]
    refine lw1 ?_
    obtain ⟨f1, f2, f3⟩ := fin { s.get v with i := k } (.f0 v k) s3 _ H3 (by omega) sv3 rfl
    simp [hh, hlen, hp, f3, nl]
    exact hq (.f0 v k) _ f1 f2
  by_cases e1 : w = 1
  · subst e1
    simp [hh, hl]
    refine lw2 ?_
    obtain ⟨f1, f2, f3⟩ := fin { s.get v with j := k } (.f1 v k) s3 _ H3 (by omega) sv3 rfl
    simp [hh, hlen, hp, f3, nl]
    exact hq (.f1 v k) _ f1 f2
  by_cases e2 : w = 2
  · subst e2
    simp
    refine draw_spec B3 fun j s4 j0 j1 B4 s4b => ?_
    obtain ⟨u, hu⟩ := abc j0 j1
    have H4 := H3.sb s4b B4
    have hh4 : s4[hc]? = some (.dct (haveP s (rowP s.d))) := H4.hh
    have hpv : (s.get u).pv = .tup [.int (s.get u).i, .tup [.int (s.get u).j, .tup ((s.get u).xs.map .int)]] := rfl
    simp [hu, hh4, hl]
    rw [hpv]
    simp [L2.ixN]
    refine lw3 ?_
    obtain ⟨f1, f2, f3⟩ := fin { s.get v with j := (s.get u).j, xs := (s.get u).xs } (.f2 v u) s4 _ H4 (by omega) (SvB (sb3.trans s4b) (by simp)) rfl
    simp [hh4, hlen, hp, f3, nl]
    exact hq (.f2 v u) _ f1 f2
  · simp [e0, e1, e2, hh, hl, hld]
    refine lw4 ?_
    obtain ⟨f1, f2, f3⟩ := fin { s.get v with xs := s.d } (.f3 v) s3 _ H3 (by omega) sv3 rfl
    simp [hh, hlen, hp, f3, nl, nld]
    exact hq (.f3 v) _ f1 f2
theorem laid_spec (H : HV st nc hc W (some s) K) (ho : okS s) (hK : K < 90000) (hq : ∀ D st', HV st' nc hc W (eff D s) (K + 10) → Sv [0, hc] st st' → Q (enc W D) st') : Z (F__law_laid n [.loc 0, .loc nc, .loc hc] st) Q E := by
  rw [z__law_laid, b__law_laid]
  simp
  refine number_spec H.fd (fun k s1 hk B1 s1b => ?_) (by omega)
  simp
  refine draw_spec B1 fun p s2 p0 p1 B2 s2b => ?_
  simp
  refine draw_spec B2 fun w s3 w0 w1 B3 s3b => ?_
  have sb3 := (s1b.trans s2b).trans s3b
  have H3 := H.sb sb3 B3
  have hh : s3[hc]? = some (.dct (haveP s (rowP s.d))) := H3.hh
  have hlen : ∀ x, (haveP s x).length < 16777216 := fun x => by simp [haveP]
  have sv3 : Sv [0, hc] st s3 := SvB sb3 (by simp)
  have hset : ∀ (sX : Sto) (x : List (PV × PV)), HV sX nc hc W (some s) (K + 9) → (sX.set hc (.dct x))[nc]? = some (.dct (namesP W)) := fun sX x HX => (List.getElem?_set_ne HX.nh.symm).trans HX.hn
  have none_ : ∀ (sX : Sto) (D : Dd), HV sX nc hc W (some s) (K + 9) → Sv [0, hc] st sX → eff D s = none → HV (sX.set hc (.dct (haveP s .non))) nc hc W (eff D s) (K + 10) ∧ Sv [0, hc] st (sX.set hc (.dct (haveP s .non))) := by
    intro sX D HX sv e
    have hhX : sX[hc]? = some (.dct (haveP s (rowP s.d))) := HX.hh
    rw [e]
    exact ⟨⟨(HX.fd.setN HX.h0).mono (by omega), hset sX _ HX, ⟨s, List.getElem?_set_self (getN hhX)⟩, HX.n0, HX.h0, HX.nh⟩, sv.trans (Sv.set (by simp))⟩
  by_cases e0 : w = 0
  · subst e0
    have H3' : HV s3 nc hc W (some s) (K + 9) := H3.fin (by omega)
    simp [hh, hld, rowP]
    refine lput ho.2 (fun ys hy => ?_) fun hy => ?_
    · have e : eff (.pd (p - 1) k) s = some { s with d := ys } := by simp [eff, hy]
      have hset' := hset s3 (haveP s (.tup (ys.map .int))) H3'
      simp [hh, hlen, hpd, hset', nld]
      refine hq (.pd (p - 1) k) _ ?_ (sv3.trans (Sv.set (by simp)))
      rw [e]
      exact ⟨(H3'.fd.setN H3'.h0).mono (by omega), hset', List.getElem?_set_self (getN hh), H3'.n0, H3'.h0, H3'.nh⟩
    · have e : eff (.pd (p - 1) k) s = none := by simp [eff, hy]
      have hset' := hset s3 (haveP s .non) H3'
      obtain ⟨g1, g2⟩ := none_ s3 (.pd (p - 1) k) H3' sv3 e
      simp [hh, hlen, hpd, hset', nld]
      exact hq (.pd (p - 1) k) _ g1 g2
  · simp [e0]
    refine draw_spec B3 fun j s4 j0 j1 B4 s4b => ?_
    obtain ⟨v, hv⟩ := abc j0 j1
    have H4 : HV s4 nc hc W (some s) (K + 9) := (H3.sb s4b B4).fin (by omega)
    have hh4 : s4[hc]? = some (.dct (haveP s (rowP s.d))) := H4.hh
    have sv4 : Sv [0, hc] st s4 := SvB (sb3.trans s4b) (by simp)
    have hpv : (s.get v).pv = .tup [.int (s.get v).i, .tup [.int (s.get v).j, .tup ((s.get v).xs.map .int)]] := rfl
    simp [hv, hh4, hl]
    rw [hpv]
    simp [L2.ixN]
    refine lput (ho.1 v) (fun ys hy => ?_) fun hy => ?_
    · have e : eff (.pr v (p - 1) k) s = some (s.set { s.get v with xs := ys } v) := by simp [eff, hy]
      have hset' := hset s4 (haveP (s.set { s.get v with xs := ys } v) (rowP s.d)) H4
      simp [nonP, hh4, hl]
      refine lw4 ?_
      simp [hh4, hlen, hp, hset', nl]
      refine hq (.pr v (p - 1) k) _ ?_ (sv4.trans (Sv.set (by simp)))
      rw [e]
      have H5 := H4.set (s' := s.set { s.get v with xs := ys } v) (getN hh4)
      rw [set_d] at H5
      exact H5.fin (by omega)
    · have e : eff (.pr v (p - 1) k) s = none := by simp [eff, hy]
      have hset' := hset s4 (haveP s .non) H4
      obtain ⟨g1, g2⟩ := none_ s4 (.pr v (p - 1) k) H4 sv4 e
      simp [nonP, hh4, hlen, hpd, hset', nl]
      exact hq (.pr v (p - 1) k) _ g1 g2
end
theorem effs_snoc {D : Dd} : ∀ {ds : List Dd} {s : S4}, effs (ds ++ [D]) s = match effs ds s with
    | some s' => eff D s'
    | none => none
  | [], s => by simp [effs]; cases eff D s <;> rfl
  | A :: ds, s => by
    simp only [List.cons_append, effs]
    cases eff A s with
    | none => rfl
    | some s' => exact effs_snoc
theorem effs_ok : ∀ {ds : List Dd} {s s' : S4}, effs ds s = some s' → okS s → okS s'
  | [], s, s', h, ho => by cases h; exact ho
  | D :: ds, s, s', h, ho => by
    simp only [effs] at h
    cases e : eff D s with
    | none => rw [e] at h; cases h
    | some s1 => rw [e] at h; exact effs_ok h (eff_ok e ho)
theorem HV.app {st : Sto} {nc hc : Nat} {W : Bool} {o : Option S4} {K : Int} (a : HV st nc hc W o K) (t : Sto) : HV (st ++ t) nc hc W o K :=
  ⟨a.fd.app t, by rw [List.getElem?_append_left (getN a.hn)]; exact a.hn, by cases o with
    | some s4 => have e : st[hc]? = _ := a.hh; exact (List.getElem?_append_left (getN e)).trans e
    | none => obtain ⟨s4, e⟩ := a.hh; exact ⟨s4, (List.getElem?_append_left (getN e)).trans e⟩, a.n0, a.h0, a.nh⟩
theorem HV.other {st : Sto} {nc hc m : Nat} {W : Bool} {o : Option S4} {K : Int} {c : Cell} (a : HV st nc hc W o K) (h1 : m ≠ 0) (h2 : m ≠ nc) (h3 : m ≠ hc) : HV (st.set m c) nc hc W o K :=
  ⟨a.fd.setN h1, (List.getElem?_set_ne h2).trans a.hn, by cases o with
    | some s4 => have e : st[hc]? = _ := a.hh; exact (List.getElem?_set_ne h3).trans e
    | none => obtain ⟨s4, e⟩ := a.hh; exact ⟨s4, (List.getElem?_set_ne h3).trans e⟩, a.n0, a.h0, a.nh⟩
theorem deeds_go {n nc hc tc : Nat} {W : Bool} {s0 : S4} (ho : okS s0) (t0 : tc ≠ 0) (t1 : tc ≠ nc) (t2 : tc ≠ hc) {QF : Fl → Sto → Prop} {E : Exn → Sto → Prop} {KB : Int} (hKB : KB < 80000)
    (hr : ∀ st' (ds : List Dd), HV st' nc hc W (effs ds s0) KB → st'[tc]? = some (.lst (ds.map (enc W))) → ds.length ≤ 12 → QF (.ret (.loc tc)) st')
    (hq : ∀ st' (ds : List Dd) a4 a5, HV st' nc hc W (effs ds s0) KB → st'[tc]? = some (.lst (ds.map (enc W))) → ds.length ≤ 12 → QF (.next [some (.loc 0), some (.loc nc), some (.loc hc), some (.loc tc), a4, a5]) st') :
    ∀ (ls : List PV) (ds : List Dd) (K : Int) (st : Sto) (a4 a5 : Option PV), HV st nc hc W (effs ds s0) K → st[tc]? = some (.lst (ds.map (enc W))) → ds.length + ls.length ≤ 11 → K + 20 * (ls.length + 1) ≤ KB →
    Z (forL (gN 4) (L0__law_deeds n) ls [some (.loc 0), some (.loc nc), some (.loc hc), some (.loc tc), a4, a5] st) QF E
  | [], ds, K, st, a4, a5, H, ht, hl, hK => by rw [Z_forL_nil]; exact hq st ds _ _ (H.fin (by simp at hK; omega)) ht (by simp at hl; omega)
  | p :: ls, ds, K, st, a4, a5, H, ht, hl, hK => by
    simp at hl hK
    rw [Z_forL]
    simp
    rw [zL0__law_deeds]
    simp
    refine draw_spec H.fd fun w s1 w0 w1 B1 s1b => ?_
    have H1 := H.sb s1b B1
    have ht1 := s1b.at ht t0
    cases e : effs ds s0 with
    | none =>
      rw [e] at H1
      obtain ⟨s4, h4⟩ := H1.hh
      simp [h4, hld, nonP]
      exact hr s1 ds (by rw [e]; exact H1.fin (by omega)) ht1 (by omega)
    | some s =>
      rw [e] at H1
      have hos := effs_ok e ho
      have hh : s1[hc]? = some (.dct (haveP s (rowP s.d))) := H1.hh
      have hdl : ds.length < 16777216 := by omega
      have step : ∀ (D : Dd) (st' : Sto), HV st' nc hc W (eff D s) (K + 1 + 10) → Sv [0, hc] s1 st' → st'[tc]? = some (.lst (ds.map (enc W))) ∧ ∀ a4 a5, Z (forL (gN 4) (L0__law_deeds n) ls [some (.loc 0), some (.loc nc), some (.loc hc), some (.loc tc), a4, a5] (st'.set tc (.lst (ds.map (enc W) ++ [enc W D])))) QF E := by
        intro D st' H' sv
        have ht' := sv.at ht1 (by simp; exact ⟨t0, t2⟩)
        refine ⟨ht', fun a4 a5 => ?_⟩
        refine deeds_go ho t0 t1 t2 hKB hr hq ls (ds ++ [D]) (K + 11) _ _ _ ?_ ?_ (by simp; omega) (by omega)
        · rw [effs_snoc, e]
          exact (H'.other t0 t1 t2).fin (by omega)
        · rw [List.getElem?_set_self (getN ht')]; simp
      by_cases e0 : w = 0
      · subst e0
        simp [hh, hld, nonP, rowP, ht1]
        refine whole_spec H1 (by omega) fun D st' H' sv => ?_
        obtain ⟨ht', go⟩ := step D st' H' sv
        simp [ht', hdl]
        exact go _ _
      · by_cases e1 : w = 1
        · subst e1
          simp [hh, hld, nonP, rowP, ht1]
          refine field_spec H1 (by omega) fun D st' H' sv => ?_
          obtain ⟨ht', go⟩ := step D st' H' sv
          simp [ht', hdl]
          exact go _ _
        · simp [e0, e1, hh, hld, nonP, rowP, ht1]
          refine laid_spec H1 hos (by omega) fun D st' H' sv => ?_
          obtain ⟨ht', go⟩ := step D st' H' sv
          simp [ht', hdl]
          exact go _ _
theorem deeds_spec {n nc hc : Nat} {W : Bool} {s0 : S4} {K : Int} {st : Sto} {Q : PV → Sto → Prop} {E : Exn → Sto → Prop} (ho : okS s0) (H : HV st nc hc W (some s0) K) (hK : K < 10000) (hq : ∀ st' (ds : List Dd), HV st' nc hc W (effs ds s0) (K + 500) → st'[st.length]? = some (.lst (ds.map (enc W))) → ds.length ≤ 12 → Q (.loc st.length) st') :
    Z (F__law_deeds n [.loc 0, .loc nc, .loc hc] st) Q E := by
  have l0 := H.fd.bl
  have ln := getN H.hn
  have hh : st[hc]? = some (.dct (haveP s0 (rowP s0.d))) := H.hh
  have lh := getN hh
  have H1 := H.app [.lst []]
  rw [z__law_deeds, b__law_deeds]
  simp
  refine draw_spec H1.fd (fun d s1 d0 d1 B1 s1b => ?_) (hk := by omega)
  have H2 := H1.sb s1b B1
  have ht : s1[st.length]? = some (.lst (([] : List Dd).map (enc W))) := s1b.at (by simp) (by omega)
  have hr : rangeOk (2 + d) := ⟨by omega, by omega⟩
  simp [Z_range1 hr]
  refine deeds_go ho (tc := st.length) (by omega) (by omega) (by omega) (KB := K + 500) (by omega) (fun st' ds h1 h2 h3 => ?_) (fun st' ds a4 a5 h1 h2 h3 => ?_) _ [] (K + 1) s1 _ _ H2 ht (by simp; omega) (by simp; omega)
  · simp
    exact hq st' ds h1 h2 h3
  · simp
    exact hq st' ds h1 h2 h3
def endL (n : Nat) : Rho → M Fl :=
  (sSeq (sSet 10 (eBin ixM (eCall mkLst (aCons (eC (.str [97])) (aCons (eC (.str [98])) (aCons (eC (.str [99])) (aCons (eC (.str [100])) aNil))))) (eCall (F__law_draw n) (aCons (eVar 1) (aCons (eC (.int 4)) aNil)))))
  (sSeq (sSet 11 (eBin ixM (eCall mkLst (aCons (eC (.str [120])) (aCons (eC (.str [114, 111, 119])) aNil))) (eCall intM (aCons (eBin eqM (eVar 10) (eC (.str [100]))) aNil))))
  (sSeq (sDrop (eMeth "list" appendM (eVar 9) (aCons (eCall mkTup (aCons (eC (.str [103, 105, 118, 101])) (aCons (eCall mkTup (aCons (eC (.str [111, 102])) (aCons (eCall mkTup (aCons (eBin ixM (eVar 3) (eVar 10)) aNil)) aNil))) aNil))) aNil)))
  (sSeq (sSet 12 (eCall mkTup (aCons (eCall mkTup (aCons (eBin ixM (eVar 3) (eC (.str [97]))) (aCons (eC (.str [120])) aNil))) (aCons (eCall mkTup (aCons (eBin ixM (eVar 3) (eC (.str [100]))) (aCons (eC (.str [114, 111, 119])) aNil))) (aCons (eCall mkTup (aCons (eBin ixM (eVar 3) (eC (.str [98]))) (aCons (eC (.str [120])) aNil))) aNil)))))
  (sSeq (sSet 13 (eCall mkTup (aCons (eCall mkTup (aCons (eVar 4) (aCons (eVar 5) aNil))) (aCons (eCall mkTup (aCons (eCall mkTup (aCons (eC (.str [120])) (aCons (eVar 11) (aCons (eVar 12) (aCons (eCall tupleM (aCons (eVar 9) aNil)) aNil))))) aNil)) aNil))))
  (sSeq (sSet 14 (eCall mkTup (aCons (eC (.str [102, 97, 117, 108, 116])) (aCons (eC (.str [114, 97, 110, 103, 101])) aNil))))
  (sSeq (sIf (eB (eBin notN (eBin ixM (eVar 8) (eC (.str [100]))) (eC .non))) (sSet 14 (eCall mkTup (aCons (eC (.str [98, 97, 99, 107])) (aCons (eBin ixM (eVar 8) (eVar 10)) aNil)))) sNext)
  (sRet (eCall (F__law_same n 5) (aCons (eCall (F_run_source n) (aCons (eVar 13) (aCons (eC (.str [120])) (aCons (eCall mkTup (aCons (eBin ixM (eVar 6) (eC (.int 0))) (aCons (eVar 7) (aCons (eBin ixM (eVar 6) (eC (.int 1))) aNil)))) (aCons (eC (.int 0)) aNil))))) (aCons (eVar 14) aNil)))))))))))
def midL (n : Nat) : Rho → M Fl :=
  (sSeq (sSet 8 (eDct [((eC (.str [97])), (eBin ixM (eVar 6) (eC (.int 0)))), ((eC (.str [98])), (eBin ixM (eVar 6) (eC (.int 1)))), ((eC (.str [99])), (eBin ixM (eVar 6) (eC (.int 1)))), ((eC (.str [100])), (eVar 7))]))
  (sSeq (sSet 9 (eBin addN (eCall mkLst (aCons (eCall mkTup (aCons (eC (.str [108, 101, 116])) (aCons (eBin ixM (eVar 3) (eC (.str [99]))) (aCons (eCall mkTup (aCons (eC (.str [111, 102])) (aCons (eCall mkTup (aCons (eBin ixM (eVar 3) (eC (.str [98]))) aNil)) aNil))) aNil)))) aNil)) (eCall (F__law_deeds n) (aCons (eVar 1) (aCons (eVar 3) (aCons (eVar 8) aNil))))))
  (endL n)))
theorem b_eq (n : Nat) : b_law n = (sSeq (sSet 1 (eCall (F__law_feed n) (aCons (eVar 0) aNil)))
  (sSeq (sSet 2 (eBin ixM (eCall mkLst (aCons (eCall mkLst (aCons (eC (.str [120])) (aCons (eC (.str [120, 120])) (aCons (eC (.str [120, 120, 120])) (aCons (eC (.str [122])) aNil))))) (aCons (eCall mkLst (aCons (eC (.str [106, 111])) (aCons (eC (.str [106])) (aCons (eC (.str [113])) (aCons (eC (.str [120])) aNil))))) aNil))) (eCall (F__law_draw n) (aCons (eVar 1) (aCons (eC (.int 2)) aNil)))))
  (sSeq (sSet 3 (eDct [((eC (.str [97])), (eBin ixM (eVar 2) (eC (.int 0)))), ((eC (.str [98])), (eBin ixM (eVar 2) (eC (.int 1)))), ((eC (.str [99])), (eBin ixM (eVar 2) (eC (.int 2)))), ((eC (.str [100])), (eBin ixM (eVar 2) (eC (.int 3))))]))
  (sSeq (sSet 4 (eCall mkTup (aCons (eC (.str [105, 110])) (aCons (eCall mkTup (aCons (eCall mkTup (aCons (eC (.str [122])) (aCons (eC (.str [110, 117, 109])) aNil))) (aCons (eCall mkTup (aCons (eC (.str [113])) (aCons (eC (.str [114, 111, 119])) aNil))) aNil))) aNil))))
  (sSeq (sSet 5 (eCall mkTup (aCons (eC (.str [120])) (aCons (eCall mkTup (aCons (eCall mkTup (aCons (eC (.str [122])) (aCons (eC (.str [110, 117, 109])) aNil))) (aCons (eCall mkTup (aCons (eC (.str [120])) (aCons (eC (.str [105, 110])) aNil))) aNil))) aNil))))
  (sSeq (sSet 6 (eLc lcV (iCall range1 (aCons (eC (.int 2)) aNil)) (gN 15) tYesM (eCall mkTup (aCons (eCall (F__law_number n) (aCons (eVar 1) aNil)) (aCons (eCall mkTup (aCons (eCall (F__law_number n) (aCons (eVar 1) aNil)) (aCons (eCall (F__law_row n) (aCons (eVar 1) aNil)) aNil))) aNil))) [15]))
  (sSeq (sSet 7 (eCall (F__law_row n) (aCons (eVar 1) aNil)))
  (midL n)))))))) := by unfold b_law midL endL; rfl

def lt4 : V4 → List Nat
  | .r v => lt3 v
  | .d => [100]
theorem nl4 {W : Bool} {v : V4} : lookP (namesP W) (.str (lt4 v)) = some (.str (nm4 W v)) := by
  cases v with
  | r v => exact nl
  | d => exact nld
theorem hl4 {s : S4} {v : V4} : lookP (haveP s (rowP s.d)) (.str (lt4 v)) = some (s.val v) := by
  cases v with
  | r v => exact hl
  | d => exact hld
def kd4 : V4 → PV
  | .r _ => kx
  | .d => krow
@[irreducible] def RunZ (n : Nat) (st : Sto) (tr nm vs : PV) (b : Int) (Q : PV → Sto → Prop) (E : Exn → Sto → Prop) : Prop := Z (F_run_source n [tr, nm, vs, .int b] st) Q E
theorem runZ {n : Nat} {st : Sto} {Q : PV → Sto → Prop} {E : Exn → Sto → Prop} {tr nm vs : PV} {b : Int} : Z (F_run_source n [tr, nm, vs, .int b] st) Q E = RunZ n st tr nm vs b Q E := by unfold RunZ; rfl
@[irreducible] def SameZ (n : Nat) (st : Sto) (x y : PV) (Q : PV → Sto → Prop) (E : Exn → Sto → Prop) : Prop := Z (F__law_same n 5 [x, y] st) Q E
theorem sameZ {n : Nat} {st : Sto} {Q : PV → Sto → Prop} {E : Exn → Sto → Prop} {x y : PV} : Z (F__law_same n 5 [x, y] st) Q E = SameZ n st x y Q E := by unfold SameZ; rfl
theorem same5 {n : Nat} {st : Sto} {Q : PV → Sto → Prop} {E : Exn → Sto → Prop} {x : PV} (h : SV 5 x) (hq : Q (.bl true) st) : SameZ n st x x Q E := by
  unfold SameZ
  have := @same_refl n st 5 x h
  exact this Q E hq
theorem val_sv {s : S4} {v : V4} (ho : okS s) : SV 4 (s.val v) := by
  cases v with
  | r v =>
    have := ho.1 v
    refine .tup (fun x hx => ?_) (by simp)
    simp at hx
    rcases hx with rfl | rfl
    · exact .int
    · refine .tup (fun y hy => ?_) (by simp)
      simp at hy
      rcases hy with rfl | rfl
      · exact .int
      · exact .tup (fun z hz => by simp at hz; obtain ⟨i, _, rfl⟩ := hz; exact .int) (by simp; omega)
  | d => exact sv_ints (by have := ho.2; omega)
theorem runX {n : Nat} {st : Sto} {Q : PV → Sto → Prop} {E : Exn → Sto → Prop} {W : Bool} {k tr vs : PV} {v : V4} {ds : List Dd} {A B : Rc} {D : List Int} (htr : tr = treeP W k v ds) (hvs : vs = .tup [A.pv, rowP D, B.pv]) (hl : ds.length ≤ 20) (ho : okS ⟨A, B, B, D⟩) (hn : 1000 ≤ n) (hq : ∀ st', Sv [] st st' → Q (outX v (effs ds ⟨A, B, B, D⟩)) st') :
    RunZ n st tr (.str [120]) vs 0 Q E := by
  subst htr hvs
  unfold RunZ
  have h := @ran n st Q E W k v ds A B D hl ho hn hq
  exact h
section
variable {n : Nat} {st : Sto} {E : Exn → Sto → Prop}
theorem end_spec {nc hc bc : Nat} {W : Bool} {A B : Rc} {D : List Int} {ds : List Dd} {K : Int} {a0 a2 : Option PV} {a10 a11 a12 a13 a14 a15 : Option PV} {QF : Fl → Sto → Prop} (ho : okS ⟨A, B, B, D⟩) (H : HV st nc hc W (effs ds ⟨A, B, B, D⟩) K) (hb : st[bc]? = some (.lst (.tup [.str [108, 101, 116], .str (nmC W), tOf (nmB W)] :: ds.map (enc W)))) (b0 : bc ≠ 0) (b1 : bc ≠ nc) (b2 : bc ≠ hc) (hl : ds.length ≤ 12) (hK : K < 50000) (hn : 1000 ≤ n) (hq : ∀ st', QF (.ret (.bl true)) st') :
    Z (endL n [a0, some (.loc 0), a2, some (.loc nc), some (.tup [.str [105, 110], .tup [.tup [.str [122], knum], .tup [.str [113], krow]]]), some (.tup [.str [120], .tup [.tup [.str [122], knum], .tup [.str [120], .str [105, 110]]]]), some (.lst [A.pv, B.pv]), some (rowP D), some (.loc hc), some (.loc bc), a10, a11, a12, a13, a14, a15] st) QF E := by
  unfold endL
  simp
  refine draw_spec H.fd fun j s1 j0 j1 B1 s1b => ?_
  obtain ⟨v, hv⟩ : ∃ v : V4, L2.atI [PV.str [97], .str [98], .str [99], .str [100]] j = some (.str (lt4 v)) := by
    have : j = 0 ∨ j = 1 ∨ j = 2 ∨ j = 3 := by omega
    rcases this with rfl | rfl | rfl | rfl
    · exact ⟨.r .a, rfl⟩
    · exact ⟨.r .b, rfl⟩
    · exact ⟨.r .c, rfl⟩
    · exact ⟨.d, rfl⟩
  have H1 := H.sb s1b B1
  have hb1 := s1b.at hb b0
  have H2 := H1.other (c := .lst (.tup [.str [108, 101, 116], .str (nmC W), tOf (nmB W)] :: (ds.map (enc W) ++ [.tup [.str [103, 105, 118, 101], tOf (nm4 W v)]]))) b0 b1 b2
  have hb2 : (s1.set bc (.lst (.tup [.str [108, 101, 116], .str (nmC W), tOf (nmB W)] :: (ds.map (enc W) ++ [.tup [.str [103, 105, 118, 101], tOf (nm4 W v)]]))))[bc]? = some (.lst (.tup [.str [108, 101, 116], .str (nmC W), tOf (nmB W)] :: (ds.map (enc W) ++ [.tup [.str [103, 105, 118, 101], tOf (nm4 W v)]]))) := List.getElem?_set_self (getN hb1)
  have hkd : L2.atI [kx, krow] (if lt4 v = [100] then 1 else 0) = some (kd4 v) := by
    cases v with
    | r v => cases v <;> rfl
    | d => rfl
  have hlen : ds.length + 1 < 16777216 := by omega
  have na : lookP (namesP W) (.str [97]) = some (.str (nmA W)) := nl (v := .a)
  have nb : lookP (namesP W) (.str [98]) = some (.str (nmB W)) := nl (v := .b)
  have hs2 := seqOf_loc hb2
  have hn2 := H2.hn
  have htr : PV.tup [.tup [.tup [.str [105, 110], .tup [.tup [.str [122], knum], .tup [.str [113], krow]]], .tup [.str [120], .tup [.tup [.str [122], knum], .tup [.str [120], .str [105, 110]]]]], .tup [.tup [.str [120], kd4 v, .tup [.tup [.str (nmA W), kx], .tup [.str (nmD W), krow], .tup [.str (nmB W), kx]], .tup (.tup [.str [108, 101, 116], .str (nmC W), tOf (nmB W)] :: (ds.map (enc W) ++ [.tup [.str [103, 105, 118, 101], tOf (nm4 W v)]]))]]] = treeP W (kd4 v) v ds := rfl
  cases e : effs ds ⟨A, B, B, D⟩ with
  | none =>
    rw [e] at H2
    obtain ⟨s4, h4⟩ := H2.hh
    simp [hv, hb1, H1.hn, nl4, Z_intB, hkd, hlen, hn2, na, nb, nld, hs2, h4, hld, nonP, L2.ixN]
    rw [runZ]
    refine runX htr rfl (by omega) ho hn fun st2 _ => ?_
    rw [e]
    simp [outX]
    rw [sameZ]
    refine same5 (.tup (fun x hx => by simp at hx; rcases hx with rfl | rfl <;> exact .str) (by simp)) ?_
    simp [hq]
  | some s =>
    rw [e] at H2
    have h4 : _ = some (Cell.dct (haveP s (rowP s.d))) := H2.hh
    have hnn : nonP (rowP s.d) = false := rfl
    simp [hv, hb1, H1.hn, nl4, Z_intB, hkd, hlen, hn2, na, nb, nld, hs2, h4, hld, hl4, hnn, L2.ixN]
    rw [runZ]
    refine runX htr rfl (by omega) ho hn fun st2 _ => ?_
    rw [e]
    simp [outX]
    rw [sameZ]
    refine same5 (.tup (fun x hx => by simp at hx; rcases hx with rfl | rfl; exact .str; exact val_sv (effs_ok e ho)) (by simp)) ?_
    simp [hq]
end
section
variable {n : Nat} {st : Sto} {E : Exn → Sto → Prop}
theorem mid_spec {nc : Nat} {W : Bool} {A B : Rc} {D : List Int} {K : Int} {a0 a2 : Option PV} {a8 a9 a10 a11 a12 a13 a14 a15 : Option PV} {QF : Fl → Sto → Prop} (ho : okS ⟨A, B, B, D⟩) (F : FD st 0 K) (hnc : st[nc]? = some (.dct (namesP W))) (n0 : nc ≠ 0) (hK : K < 9000) (hn : 1000 ≤ n) (hq : ∀ st', QF (.ret (.bl true)) st') :
    Z (midL n [a0, some (.loc 0), a2, some (.loc nc), some (.tup [.str [105, 110], .tup [.tup [.str [122], knum], .tup [.str [113], krow]]]), some (.tup [.str [120], .tup [.tup [.str [122], knum], .tup [.str [120], .str [105, 110]]]]), some (.lst [A.pv, B.pv]), some (rowP D), a8, a9, a10, a11, a12, a13, a14, a15] st) QF E := by
  unfold midL
  have l0 := F.bl
  have ln := getN hnc
  have nc' : lookP (namesP W) (.str [99]) = some (.str (nmC W)) := nl (v := .c)
  have nb : lookP (namesP W) (.str [98]) = some (.str (nmB W)) := nl (v := .b)
  have hnc1 : ∀ t : Sto, (st ++ t)[nc]? = some (.dct (namesP W)) := fun t => by rw [List.getElem?_append_left ln, hnc]
  simp [L2.ixN, hnc1, nc', nb]
  have hm : mergeP [] [(PV.str [97], A.pv), (PV.str [98], B.pv), (PV.str [99], B.pv), (PV.str [100], rowP D)] = haveP ⟨A, B, B, D⟩ (rowP D) := by simp [mergeP, putP, haveP]
  rw [hm]
  refine ⟨by simp [keysOk, MP.keyOf], ?_⟩
  have H : HV (st ++ [.dct (haveP ⟨A, B, B, D⟩ (rowP D))]) nc st.length W (some ⟨A, B, B, D⟩) K := ⟨F.app _, hnc1 _, by show _ = _; simp, n0, by omega, by omega⟩
  refine deeds_spec ho H (by omega) fun st2 ds H2 ht hl => ?_
  have hls : MP.listOf (.loc (st ++ [Cell.dct (haveP ⟨A, B, B, D⟩ (rowP D))]).length) st2 = some (ds.map (enc W)) := by unfold MP.listOf; dsimp only; rw [ht]
  have hl1 : ∀ x : PV, MP.listOf (.lst [x]) st2 = some [x] := fun x => by unfold MP.listOf; rfl
  have lt := getN ht
  have l2 := H2.fd.bl
  simp at lt
  rw [List.length_append, List.length_singleton] at hls ht
  simp [Z_addN (hl1 _) hls (by simp; omega)]
  exact end_spec ho (H2.app _) (by simp) (by omega) (by omega) (by omega) hl (by omega) hn hq
theorem law_spec {ns : List Int} (hn : 1000 ≤ n) : Z (F_law n [.frz (ns.map .int)] []) (fun v _ => v = .bl true) E0 := by
  rw [z_law, b_eq]
  simp
  refine feed_spec fun s B0 hs1 => ?_
  simp
  refine draw_spec B0 fun d s1 d0 d1 B1 s1b => ?_
  obtain ⟨W, hW⟩ : ∃ W : Bool, L2.atI [PV.lst [.str [120], .str [120, 120], .str [120, 120, 120], .str [122]], .lst [.str [106, 111], .str [106], .str [113], .str [120]]] d = some (.lst [.str (nmA W), .str (nmB W), .str (nmC W), .str (nmD W)]) := by
    have : d = 0 ∨ d = 1 := by omega
    rcases this with rfl | rfl
    · exact ⟨false, rfl⟩
    · exact ⟨true, rfl⟩
  have hm : mergeP [] [(PV.str [97], .str (nmA W)), (PV.str [98], .str (nmB W)), (PV.str [99], .str (nmC W)), (PV.str [100], .str (nmD W))] = namesP W := by simp [mergeP, putP, namesP]
  have hk : keysOk [(PV.str [97], .str (nmA W)), (PV.str [98], .str (nmB W)), (PV.str [99], .str (nmC W)), (PV.str [100], .str (nmD W))] = true := by simp [keysOk, MP.keyOf]
  have l1 := B1.bl
  simp [hW, L2.ixN, hm, hk, List.range, List.range.loop, lc_cons, lc_nil]
  refine number_spec (B1.app _) (fun i1 t1 _ C1 q1 => ?_) (by omega)
  simp
  refine number_spec C1 (fun i2 t2 _ C2 q2 => ?_) (by omega)
  simp
  refine row_spec C2 (fun x1 t3 h1 C3 q3 => ?_) (by omega)
  simp
  refine number_spec C3 (fun i3 t4 _ C4 q4 => ?_) (by omega)
  simp
  refine number_spec C4 (fun i4 t5 _ C5 q5 => ?_) (by omega)
  simp
  refine row_spec C5 (fun x2 t6 h2 C6 q6 => ?_) (by omega)
  simp
  refine row_spec C6 (fun x3 t7 h3 C7 q7 => ?_) (by omega)
  have hnc : t7[s1.length]? = some (.dct (namesP W)) := (((((((q1.trans q2).trans q3).trans q4).trans q5).trans q6).trans q7).at (by simp) (by omega))
  refine mid_spec (A := ⟨i1, i2, x1⟩) (B := ⟨i3, i4, x2⟩) (D := x3) (nc := s1.length) (W := W) ?_ C7 hnc (by omega) (by omega) hn fun st' => ?_
  · refine ⟨fun v => ?_, h3⟩
    cases v
    · exact h1
    · exact h2
    · exact h2
  · simp
end
theorem pure_law (ns : List Int) (_ : ns.length ≤ 63) : ∃ n st, F_law n [.frz (ns.map .int)] [] = .ok (.bl true) st := by
  have h := law_spec (n := 10000) (ns := ns) (by omega)
  cases q : F_law 10000 [.frz (ns.map .int)] [] with
  | ok v st => rw [q] at h; exact ⟨10000, st, by rw [q]; rw [show v = .bl true from h]⟩
  | err x st => rw [q] at h; exact h.elim
  | bad => rw [q] at h; exact h.elim
end K21

set_option maxRecDepth 100000
open PySem PySem.W PyProof.Rows
set_option maxRecDepth 100000 in
set_option maxHeartbeats 0 in
theorem PySem.Challenge.cw_samepaper_k21_variables_holds : PySem.Challenge.rw_samepaper_k21_variables.Holds := by
  w_on; o_law; k_head; (case hw => w_witness2)
  k_fill
  refine K21.walk (l := PySem.Challenge.rw_samepaper_k21_variables) rfl rfl (fun w h Y => PySem.W.kIn_of Y) K21.pure_law ?F
  case F =>
    intro w mg fa h KX G hmg
    refine' K21.all_mk KX G hmg ?a_Steps ?a_Walk ?a_taken_in ?l_taken_in ?c_taken_in ?k_taken_in ?a_kinds_of ?l_kinds_of ?c_kinds_of ?k_kinds_of ?a_divided ?l_divided ?c_divided ?k_divided ?a_done_sum ?l_done_sum ?c_done_sum ?k_done_sum ?a_put_at ?l_put_at ?c_put_at ?k_put_at ?a_done_row ?l_done_row ?c_done_row ?k_done_row ?a_done ?l_done ?c_done ?k_done ?a_found_in ?l_found_in ?c_found_in ?k_found_in ?a_path_kind ?l_path_kind ?c_path_kind ?k_path_kind ?a_kind_of_expr ?l_kind_of_expr ?c_kind_of_expr ?k_kind_of_expr ?a_fault_of ?l_fault_of ?c_fault_of ?k_fault_of ?a_fields_of ?l_fields_of ?c_fields_of ?k_fields_of ?a_places_of ?l_places_of ?c_places_of ?k_places_of ?a_value_at ?l_value_at ?c_value_at ?k_value_at ?a_with_field ?l_with_field ?c_with_field ?k_with_field ?a_Steps____init__ ?i_Steps____init__ ?l_Steps____init__ ?c_Steps____init__ ?k_Steps____init__ ?a_Steps__lay ?i_Steps__lay ?l_Steps__lay ?c_Steps__lay ?k_Steps__lay ?a_Steps__here ?i_Steps__here ?l_Steps__here ?c_Steps__here ?k_Steps__here ?a_Steps__lay_either ?i_Steps__lay_either ?l_Steps__lay_either ?c_Steps__lay_either ?k_Steps__lay_either ?a_Steps__lay_expr ?i_Steps__lay_expr ?l_Steps__lay_expr ?c_Steps__lay_expr ?k_Steps__lay_expr ?a_Steps__lay_while ?i_Steps__lay_while ?l_Steps__lay_while ?c_Steps__lay_while ?k_Steps__lay_while ?a_Steps__lay_if ?i_Steps__lay_if ?l_Steps__lay_if ?c_Steps__lay_if ?k_Steps__lay_if ?a_Steps__lay_statement ?i_Steps__lay_statement ?l_Steps__lay_statement ?c_Steps__lay_statement ?k_Steps__lay_statement ?a_Steps__lay_body ?i_Steps__lay_body ?l_Steps__lay_body ?c_Steps__lay_body ?k_Steps__lay_body ?a_Walk____init__ ?i_Walk____init__ ?l_Walk____init__ ?c_Walk____init__ ?k_Walk____init__ ?a_Walk__enter ?i_Walk__enter ?l_Walk__enter ?c_Walk__enter ?k_Walk__enter ?a_Walk__tick ?i_Walk__tick ?l_Walk__tick ?c_Walk__tick ?k_Walk__tick ?a_Walk__taken ?i_Walk__taken ?l_Walk__taken ?c_Walk__taken ?k_Walk__taken ?a_Walk__give ?i_Walk__give ?l_Walk__give ?c_Walk__give ?k_Walk__give ?a_Walk__reckon ?i_Walk__reckon ?l_Walk__reckon ?c_Walk__reckon ?k_Walk__reckon ?a_Walk__turn_step ?i_Walk__turn_step ?l_Walk__turn_step ?c_Walk__turn_step ?k_Walk__turn_step ?a_Walk__reckon_step ?i_Walk__reckon_step ?l_Walk__reckon_step ?c_Walk__reckon_step ?k_Walk__reckon_step ?a_Walk__walked ?i_Walk__walked ?l_Walk__walked ?c_Walk__walked ?k_Walk__walked ?a_run_source ?l_run_source ?c_run_source ?k_run_source ?a__law_feed ?l__law_feed ?c__law_feed ?k__law_feed ?a__law_draw ?l__law_draw ?c__law_draw ?k__law_draw ?a__law_number ?l__law_number ?c__law_number ?k__law_number ?a__law_row ?l__law_row ?c__law_row ?k__law_row ?a__law_same ?l__law_same ?c__law_same ?k__law_same ?a__law_with ?l__law_with ?c__law_with ?k__law_with ?a__law_put ?l__law_put ?c__law_put ?k__law_put ?a__law_whole ?l__law_whole ?c__law_whole ?k__law_whole ?a__law_field ?l__law_field ?c__law_field ?k__law_field ?a__law_laid ?l__law_laid ?c__law_laid ?k__law_laid ?a__law_deeds ?l__law_deeds ?c__law_deeds ?k__law_deeds ?a_law ?l_law ?c_law ?k_law ?pg_Steps ?hd_Steps ?po_Steps ?sa_Steps ?mk_Steps ?kc_Steps ?na_Steps_laid_steps ?na_Steps_own_tree ?na_Steps_seen ?pg_Walk ?hd_Walk ?po_Walk ?sa_Walk ?mk_Walk ?kc_Walk ?na_Walk_outcome ?na_Walk_stack ?na_Walk_ticks_left ?na_Walk_told_steps ?z_int ?z_len ?z_max ?z_min ?z_tuple ?z_isinstance ?z_zip ?z_list ?z_range ?z_all ?z_bool ?g_COUNTED ?gl_COUNTED ?g_KIND_OF ?gl_KIND_OF ?g_LEAST ?g_LONGEST ?g_OPERATIONS ?gl_OPERATIONS ?g_TURN ?tb_COUNTED ?tb_KIND_OF ?tb_OPERATIONS
    (case a_Steps => k_is)
    (case a_Walk => k_is)
    (case a_taken_in => k_is)
    (case l_taken_in => k_is)
    (case c_taken_in => k_is)
    (case k_taken_in => k_is)
    (case a_kinds_of => k_is)
    (case l_kinds_of => k_is)
    (case c_kinds_of => k_is)
    (case k_kinds_of => k_is)
    (case a_divided => k_is)
    (case l_divided => k_is)
    (case c_divided => k_is)
    (case k_divided => k_is)
    (case a_done_sum => k_is)
    (case l_done_sum => k_is)
    (case c_done_sum => k_is)
    (case k_done_sum => k_is)
    (case a_put_at => k_is)
    (case l_put_at => k_is)
    (case c_put_at => k_is)
    (case k_put_at => k_is)
    (case a_done_row => k_is)
    (case l_done_row => k_is)
    (case c_done_row => k_is)
    (case k_done_row => k_is)
    (case a_done => k_is)
    (case l_done => k_is)
    (case c_done => k_is)
    (case k_done => k_is)
    (case a_found_in => k_is)
    (case l_found_in => k_is)
    (case c_found_in => k_is)
    (case k_found_in => k_is)
    (case a_path_kind => k_is)
    (case l_path_kind => k_is)
    (case c_path_kind => k_is)
    (case k_path_kind => k_is)
    (case a_kind_of_expr => k_is)
    (case l_kind_of_expr => k_is)
    (case c_kind_of_expr => k_is)
    (case k_kind_of_expr => k_is)
    (case a_fault_of => k_is)
    (case l_fault_of => k_is)
    (case c_fault_of => k_is)
    (case k_fault_of => k_is)
    (case a_fields_of => k_is)
    (case l_fields_of => k_is)
    (case c_fields_of => k_is)
    (case k_fields_of => k_is)
    (case a_places_of => k_is)
    (case l_places_of => k_is)
    (case c_places_of => k_is)
    (case k_places_of => k_is)
    (case a_value_at => k_is)
    (case l_value_at => k_is)
    (case c_value_at => k_is)
    (case k_value_at => k_is)
    (case a_with_field => k_is)
    (case l_with_field => k_is)
    (case c_with_field => k_is)
    (case k_with_field => k_is)
    (case a_Steps____init__ => k_is)
    (case i_Steps____init__ => k_is)
    (case l_Steps____init__ => k_is)
    (case c_Steps____init__ => k_is)
    (case k_Steps____init__ => k_is)
    (case a_Steps__lay => k_is)
    (case i_Steps__lay => k_is)
    (case l_Steps__lay => k_is)
    (case c_Steps__lay => k_is)
    (case k_Steps__lay => k_is)
    (case a_Steps__here => k_is)
    (case i_Steps__here => k_is)
    (case l_Steps__here => k_is)
    (case c_Steps__here => k_is)
    (case k_Steps__here => k_is)
    (case a_Steps__lay_either => k_is)
    (case i_Steps__lay_either => k_is)
    (case l_Steps__lay_either => k_is)
    (case c_Steps__lay_either => k_is)
    (case k_Steps__lay_either => k_is)
    (case a_Steps__lay_expr => k_is)
    (case i_Steps__lay_expr => k_is)
    (case l_Steps__lay_expr => k_is)
    (case c_Steps__lay_expr => k_is)
    (case k_Steps__lay_expr => k_is)
    (case a_Steps__lay_while => k_is)
    (case i_Steps__lay_while => k_is)
    (case l_Steps__lay_while => k_is)
    (case c_Steps__lay_while => k_is)
    (case k_Steps__lay_while => k_is)
    (case a_Steps__lay_if => k_is)
    (case i_Steps__lay_if => k_is)
    (case l_Steps__lay_if => k_is)
    (case c_Steps__lay_if => k_is)
    (case k_Steps__lay_if => k_is)
    (case a_Steps__lay_statement => k_is)
    (case i_Steps__lay_statement => k_is)
    (case l_Steps__lay_statement => k_is)
    (case c_Steps__lay_statement => k_is)
    (case k_Steps__lay_statement => k_is)
    (case a_Steps__lay_body => k_is)
    (case i_Steps__lay_body => k_is)
    (case l_Steps__lay_body => k_is)
    (case c_Steps__lay_body => k_is)
    (case k_Steps__lay_body => k_is)
    (case a_Walk____init__ => k_is)
    (case i_Walk____init__ => k_is)
    (case l_Walk____init__ => k_is)
    (case c_Walk____init__ => k_is)
    (case k_Walk____init__ => k_is)
    (case a_Walk__enter => k_is)
    (case i_Walk__enter => k_is)
    (case l_Walk__enter => k_is)
    (case c_Walk__enter => k_is)
    (case k_Walk__enter => k_is)
    (case a_Walk__tick => k_is)
    (case i_Walk__tick => k_is)
    (case l_Walk__tick => k_is)
    (case c_Walk__tick => k_is)
    (case k_Walk__tick => k_is)
    (case a_Walk__taken => k_is)
    (case i_Walk__taken => k_is)
    (case l_Walk__taken => k_is)
    (case c_Walk__taken => k_is)
    (case k_Walk__taken => k_is)
    (case a_Walk__give => k_is)
    (case i_Walk__give => k_is)
    (case l_Walk__give => k_is)
    (case c_Walk__give => k_is)
    (case k_Walk__give => k_is)
    (case a_Walk__reckon => k_is)
    (case i_Walk__reckon => k_is)
    (case l_Walk__reckon => k_is)
    (case c_Walk__reckon => k_is)
    (case k_Walk__reckon => k_is)
    (case a_Walk__turn_step => k_is)
    (case i_Walk__turn_step => k_is)
    (case l_Walk__turn_step => k_is)
    (case c_Walk__turn_step => k_is)
    (case k_Walk__turn_step => k_is)
    (case a_Walk__reckon_step => k_is)
    (case i_Walk__reckon_step => k_is)
    (case l_Walk__reckon_step => k_is)
    (case c_Walk__reckon_step => k_is)
    (case k_Walk__reckon_step => k_is)
    (case a_Walk__walked => k_is)
    (case i_Walk__walked => k_is)
    (case l_Walk__walked => k_is)
    (case c_Walk__walked => k_is)
    (case k_Walk__walked => k_is)
    (case a_run_source => k_is)
    (case l_run_source => k_is)
    (case c_run_source => k_is)
    (case k_run_source => k_is)
    (case a__law_feed => k_is)
    (case l__law_feed => k_is)
    (case c__law_feed => k_is)
    (case k__law_feed => k_is)
    (case a__law_draw => k_is)
    (case l__law_draw => k_is)
    (case c__law_draw => k_is)
    (case k__law_draw => k_is)
    (case a__law_number => k_is)
    (case l__law_number => k_is)
    (case c__law_number => k_is)
    (case k__law_number => k_is)
    (case a__law_row => k_is)
    (case l__law_row => k_is)
    (case c__law_row => k_is)
    (case k__law_row => k_is)
    (case a__law_same => k_is)
    (case l__law_same => k_is)
    (case c__law_same => k_is)
    (case k__law_same => k_is)
    (case a__law_with => k_is)
    (case l__law_with => k_is)
    (case c__law_with => k_is)
    (case k__law_with => k_is)
    (case a__law_put => k_is)
    (case l__law_put => k_is)
    (case c__law_put => k_is)
    (case k__law_put => k_is)
    (case a__law_whole => k_is)
    (case l__law_whole => k_is)
    (case c__law_whole => k_is)
    (case k__law_whole => k_is)
    (case a__law_field => k_is)
    (case l__law_field => k_is)
    (case c__law_field => k_is)
    (case k__law_field => k_is)
    (case a__law_laid => k_is)
    (case l__law_laid => k_is)
    (case c__law_laid => k_is)
    (case k__law_laid => k_is)
    (case a__law_deeds => k_is)
    (case l__law_deeds => k_is)
    (case c__law_deeds => k_is)
    (case k__law_deeds => k_is)
    (case a_law => k_is)
    (case l_law => k_is)
    (case c_law => k_is)
    (case k_law => k_is)
    (case pg_Steps => k_is)
    (case hd_Steps => k_is)
    (case po_Steps => k_is)
    (case sa_Steps => k_is)
    (case mk_Steps => k_is)
    (case kc_Steps => k_is)
    (case na_Steps_laid_steps => k_is)
    (case na_Steps_own_tree => k_is)
    (case na_Steps_seen => k_is)
    (case pg_Walk => k_is)
    (case hd_Walk => k_is)
    (case po_Walk => k_is)
    (case sa_Walk => k_is)
    (case mk_Walk => k_is)
    (case kc_Walk => k_is)
    (case na_Walk_outcome => k_is)
    (case na_Walk_stack => k_is)
    (case na_Walk_ticks_left => k_is)
    (case na_Walk_told_steps => k_is)
    (case z_int => k_is)
    (case z_len => k_is)
    (case z_max => k_is)
    (case z_min => k_is)
    (case z_tuple => k_is)
    (case z_isinstance => k_is)
    (case z_zip => k_is)
    (case z_list => k_is)
    (case z_range => k_is)
    (case z_all => k_is)
    (case z_bool => k_is)
    (case g_COUNTED => k_is)
    (case gl_COUNTED => k_is)
    (case g_KIND_OF => k_is)
    (case gl_KIND_OF => k_is)
    (case g_LEAST => k_is)
    (case g_LONGEST => k_is)
    (case g_OPERATIONS => k_is)
    (case gl_OPERATIONS => k_is)
    (case g_TURN => k_is)
    (case tb_COUNTED => refine' MP.TabIn.of ?l ?k ?s ?r; (case l => k_is); (case k => k_keys); (case s => decide); (case r => refine' MP.RowsT.row ?e1 ?x1 ?r1; (case e1 => decide +kernel); (case x1 => exact MP.KV1.int); (case r1 => refine' MP.RowsT.row ?e2 ?x2 ?r2; (case e2 => decide +kernel); (case x2 => exact MP.KV1.int); (case r2 => refine' MP.RowsT.row ?e3 ?x3 ?r3; (case e3 => decide +kernel); (case x3 => exact MP.KV1.int); (case r3 => refine' MP.RowsT.row ?e4 ?x4 ?r4; (case e4 => decide +kernel); (case x4 => exact MP.KV1.int); (case r4 => refine' MP.RowsT.row ?e5 ?x5 ?r5; (case e5 => decide +kernel); (case x5 => exact MP.KV1.int); (case r5 => refine' MP.RowsT.row ?e6 ?x6 ?r6; (case e6 => decide +kernel); (case x6 => exact MP.KV1.int); (case r6 => refine' MP.RowsT.row ?e7 ?x7 ?r7; (case e7 => decide +kernel); (case x7 => exact MP.KV1.int); (case r7 => refine' MP.RowsT.row ?e8 ?x8 ?r8; (case e8 => decide +kernel); (case x8 => exact MP.KV1.int); (case r8 => refine' MP.RowsT.row ?e9 ?x9 ?r9; (case e9 => decide +kernel); (case x9 => exact MP.KV1.int); (case r9 => refine' MP.RowsT.row ?e10 ?x10 ?r10; (case e10 => decide +kernel); (case x10 => exact MP.KV1.int); (case r10 => refine' MP.RowsT.row ?e11 ?x11 ?r11; (case e11 => decide +kernel); (case x11 => exact MP.KV1.int); (case r11 => refine' MP.RowsT.row ?e12 ?x12 ?r12; (case e12 => decide +kernel); (case x12 => exact MP.KV1.int); (case r12 => refine' MP.RowsT.row ?e13 ?x13 ?r13; (case e13 => decide +kernel); (case x13 => exact MP.KV1.int); (case r13 => exact MP.RowsT.nil)))))))))))))))
    (case tb_KIND_OF => refine' MP.TabIn.of ?l ?k ?s ?r; (case l => k_is); (case k => k_keys); (case s => decide); (case r => refine' MP.RowsT.row ?e14 ?x14 ?r14; (case e14 => decide +kernel); (case x14 => exact MP.KV1.str (by decide +kernel)); (case r14 => refine' MP.RowsT.row ?e15 ?x15 ?r15; (case e15 => decide +kernel); (case x15 => exact MP.KV1.str (by decide +kernel)); (case r15 => exact MP.RowsT.nil))))
    (case tb_OPERATIONS => refine' MP.TabIn.of ?l ?k ?s ?r; (case l => k_is); (case k => k_keys); (case s => decide); (case r => refine' MP.RowsT.row ?e16 ?x16 ?r16; (case e16 => decide +kernel); (case x16 => refine MP.TupIn.val ?_; refine' MP.TupIn.of ?l17 ?n17 ?v17; (case l17 => k_is); (case n17 => decide); (case v17 => refine' MP.KVs.cons ?x18 ?r18; (case x18 => exact MP.KV1.str (by decide +kernel)); (case r18 => refine' MP.KVs.cons ?x19 ?r19; (case x19 => exact MP.KV1.str (by decide +kernel)); (case r19 => exact MP.KVs.nil)))); (case r16 => refine' MP.RowsT.row ?e20 ?x20 ?r20; (case e20 => decide +kernel); (case x20 => refine MP.TupIn.val ?_; refine' MP.TupIn.of ?l21 ?n21 ?v21; (case l21 => k_is); (case n21 => decide); (case v21 => refine' MP.KVs.cons ?x22 ?r22; (case x22 => exact MP.KV1.str (by decide +kernel)); (case r22 => refine' MP.KVs.cons ?x23 ?r23; (case x23 => exact MP.KV1.str (by decide +kernel)); (case r23 => exact MP.KVs.nil)))); (case r20 => refine' MP.RowsT.row ?e24 ?x24 ?r24; (case e24 => decide +kernel); (case x24 => refine MP.TupIn.val ?_; refine' MP.TupIn.of ?l25 ?n25 ?v25; (case l25 => k_is); (case n25 => decide); (case v25 => refine' MP.KVs.cons ?x26 ?r26; (case x26 => exact MP.KV1.str (by decide +kernel)); (case r26 => refine' MP.KVs.cons ?x27 ?r27; (case x27 => exact MP.KV1.str (by decide +kernel)); (case r27 => exact MP.KVs.nil)))); (case r24 => refine' MP.RowsT.row ?e28 ?x28 ?r28; (case e28 => decide +kernel); (case x28 => refine MP.TupIn.val ?_; refine' MP.TupIn.of ?l29 ?n29 ?v29; (case l29 => k_is); (case n29 => decide); (case v29 => refine' MP.KVs.cons ?x30 ?r30; (case x30 => exact MP.KV1.str (by decide +kernel)); (case r30 => refine' MP.KVs.cons ?x31 ?r31; (case x31 => exact MP.KV1.str (by decide +kernel)); (case r31 => exact MP.KVs.nil)))); (case r28 => refine' MP.RowsT.row ?e32 ?x32 ?r32; (case e32 => decide +kernel); (case x32 => refine MP.TupIn.val ?_; refine' MP.TupIn.of ?l33 ?n33 ?v33; (case l33 => k_is); (case n33 => decide); (case v33 => refine' MP.KVs.cons ?x34 ?r34; (case x34 => exact MP.KV1.str (by decide +kernel)); (case r34 => refine' MP.KVs.cons ?x35 ?r35; (case x35 => exact MP.KV1.str (by decide +kernel)); (case r35 => exact MP.KVs.nil)))); (case r32 => refine' MP.RowsT.row ?e36 ?x36 ?r36; (case e36 => decide +kernel); (case x36 => refine MP.TupIn.val ?_; refine' MP.TupIn.of ?l37 ?n37 ?v37; (case l37 => k_is); (case n37 => decide); (case v37 => refine' MP.KVs.cons ?x38 ?r38; (case x38 => exact MP.KV1.str (by decide +kernel)); (case r38 => refine' MP.KVs.cons ?x39 ?r39; (case x39 => exact MP.KV1.str (by decide +kernel)); (case r39 => exact MP.KVs.nil)))); (case r36 => refine' MP.RowsT.row ?e40 ?x40 ?r40; (case e40 => decide +kernel); (case x40 => refine MP.TupIn.val ?_; refine' MP.TupIn.of ?l41 ?n41 ?v41; (case l41 => k_is); (case n41 => decide); (case v41 => refine' MP.KVs.cons ?x42 ?r42; (case x42 => exact MP.KV1.str (by decide +kernel)); (case r42 => refine' MP.KVs.cons ?x43 ?r43; (case x43 => exact MP.KV1.str (by decide +kernel)); (case r43 => exact MP.KVs.nil)))); (case r40 => refine' MP.RowsT.row ?e44 ?x44 ?r44; (case e44 => decide +kernel); (case x44 => refine MP.TupIn.val ?_; refine' MP.TupIn.of ?l45 ?n45 ?v45; (case l45 => k_is); (case n45 => decide); (case v45 => refine' MP.KVs.cons ?x46 ?r46; (case x46 => exact MP.KV1.str (by decide +kernel)); (case r46 => refine' MP.KVs.cons ?x47 ?r47; (case x47 => exact MP.KV1.str (by decide +kernel)); (case r47 => exact MP.KVs.nil)))); (case r44 => refine' MP.RowsT.row ?e48 ?x48 ?r48; (case e48 => decide +kernel); (case x48 => refine MP.TupIn.val ?_; refine' MP.TupIn.of ?l49 ?n49 ?v49; (case l49 => k_is); (case n49 => decide); (case v49 => refine' MP.KVs.cons ?x50 ?r50; (case x50 => exact MP.KV1.str (by decide +kernel)); (case r50 => refine' MP.KVs.cons ?x51 ?r51; (case x51 => exact MP.KV1.str (by decide +kernel)); (case r51 => exact MP.KVs.nil)))); (case r48 => refine' MP.RowsT.row ?e52 ?x52 ?r52; (case e52 => decide +kernel); (case x52 => refine MP.TupIn.val ?_; refine' MP.TupIn.of ?l53 ?n53 ?v53; (case l53 => k_is); (case n53 => decide); (case v53 => refine' MP.KVs.cons ?x54 ?r54; (case x54 => exact MP.KV1.str (by decide +kernel)); (case r54 => refine' MP.KVs.cons ?x55 ?r55; (case x55 => exact MP.KV1.str (by decide +kernel)); (case r55 => exact MP.KVs.nil)))); (case r52 => refine' MP.RowsT.row ?e56 ?x56 ?r56; (case e56 => decide +kernel); (case x56 => refine MP.TupIn.val ?_; refine' MP.TupIn.of ?l57 ?n57 ?v57; (case l57 => k_is); (case n57 => decide); (case v57 => refine' MP.KVs.cons ?x58 ?r58; (case x58 => exact MP.KV1.str (by decide +kernel)); (case r58 => refine' MP.KVs.cons ?x59 ?r59; (case x59 => exact MP.KV1.str (by decide +kernel)); (case r59 => exact MP.KVs.nil)))); (case r56 => refine' MP.RowsT.row ?e60 ?x60 ?r60; (case e60 => decide +kernel); (case x60 => refine MP.TupIn.val ?_; refine' MP.TupIn.of ?l61 ?n61 ?v61; (case l61 => k_is); (case n61 => decide); (case v61 => refine' MP.KVs.cons ?x62 ?r62; (case x62 => exact MP.KV1.str (by decide +kernel)); (case r62 => refine' MP.KVs.cons ?x63 ?r63; (case x63 => exact MP.KV1.str (by decide +kernel)); (case r63 => exact MP.KVs.nil)))); (case r60 => refine' MP.RowsT.row ?e64 ?x64 ?r64; (case e64 => decide +kernel); (case x64 => refine MP.TupIn.val ?_; refine' MP.TupIn.of ?l65 ?n65 ?v65; (case l65 => k_is); (case n65 => decide); (case v65 => refine' MP.KVs.cons ?x66 ?r66; (case x66 => exact MP.KV1.str (by decide +kernel)); (case r66 => refine' MP.KVs.cons ?x67 ?r67; (case x67 => exact MP.KV1.str (by decide +kernel)); (case r67 => exact MP.KVs.nil)))); (case r64 => refine' MP.RowsT.row ?e68 ?x68 ?r68; (case e68 => decide +kernel); (case x68 => refine MP.TupIn.val ?_; refine' MP.TupIn.of ?l69 ?n69 ?v69; (case l69 => k_is); (case n69 => decide); (case v69 => refine' MP.KVs.cons ?x70 ?r70; (case x70 => exact MP.KV1.str (by decide +kernel)); (case r70 => refine' MP.KVs.cons ?x71 ?r71; (case x71 => exact MP.KV1.non); (case r71 => exact MP.KVs.nil)))); (case r68 => refine' MP.RowsT.row ?e72 ?x72 ?r72; (case e72 => decide +kernel); (case x72 => refine MP.TupIn.val ?_; refine' MP.TupIn.of ?l73 ?n73 ?v73; (case l73 => k_is); (case n73 => decide); (case v73 => refine' MP.KVs.cons ?x74 ?r74; (case x74 => exact MP.KV1.str (by decide +kernel)); (case r74 => refine' MP.KVs.cons ?x75 ?r75; (case x75 => exact MP.KV1.str (by decide +kernel)); (case r75 => exact MP.KVs.nil)))); (case r72 => exact MP.RowsT.nil)))))))))))))))))
