import PyProof.Rows.All
import Wide.All
import OpenK.AllK
import Wide.FinOn
import HandS.ForMost
import HandS.ForExc
import HandS.CallSlots
import HandS.Wide
import HandS.Flow
import HandS.TupAny
import HandS.TupMul
import HandS.IsInst
import HandS.EndBits
import HandS.Zip
import HandS.NoneIn
import HandS.TupLe
import KE.KDictKeyed
import KE.KDictCopyH
import PyProof.ListMulRoad
import PyProof.FactsAll.tuple_2
import PyProof.EqAt
import PyProof.NeKinds
import HandS.Text
import HandS.Codes
import HandS.More
import HandS.Replace
import HandS.RaiseMore
import KE.GoesZip
import PyProof.Rows.SetFrom
import HandS.SetKeys
import HandS.SortInts
import PyProof.StrOps2
import KE.KEqDict
import KE.KDictList
import KE.KAssignIn
import KE.KDictZip
import PyProof.StrWalks
import PyProof.CollectWalk
import KE.KDictPairs
import PyProof.Draws
import PySem.Challenge.RW_samepaper_k80_deep_calls
set_option Elab.async false
set_option linter.all false
set_option maxRecDepth 100000
namespace MP
open PySem L2

structure KW where
  w : World
  K : PySem.W.Frag
instance : Coe KW PySem.W.Frag := ⟨KW.K⟩
abbrev kw (X : Cx) : KW := ⟨X.w, X.K⟩

inductive PV where
  | non
  | bl (b : Bool)
  | int (i : Int)
  | str (x : List Nat)
  | ty (n : String)
  | gl (a : Addr)
  | tup (xs : List PV)
  | lst (xs : List PV)
  | frz (xs : List PV)
  | loc (n : Nat)
mutual
def PV.beq : PV → PV → Bool
  | .non, .non => true
  | .bl a, .bl b => a == b
  | .int a, .int b => a == b
  | .str a, .str b => a == b
  | .ty a, .ty b => a == b
  | .gl a, .gl b => a == b
  | .tup a, .tup b => PV.beqs a b
  | .lst a, .lst b => PV.beqs a b
  | .frz a, .frz b => PV.beqs a b
  | .loc a, .loc b => a == b
  | _, _ => false
def PV.beqs : List PV → List PV → Bool
  | [], [] => true
  | a :: r, b :: t => PV.beq a b && PV.beqs r t
  | _, _ => false
end
mutual
theorem PV.beq_iff : ∀ (a b : PV), PV.beq a b = true ↔ a = b
  | .non, b => by cases b <;> simp [PV.beq]
  | .bl x, b => by cases b <;> simp [PV.beq]
  | .int x, b => by cases b <;> simp [PV.beq]
  | .str x, b => by cases b <;> simp [PV.beq]
  | .ty x, b => by cases b <;> simp [PV.beq]
  | .gl x, b => by cases b <;> simp [PV.beq]
  | .tup x, b => by cases b <;> simp [PV.beq, PV.beqs_iff x]
  | .lst x, b => by cases b <;> simp [PV.beq, PV.beqs_iff x]
  | .frz x, b => by cases b <;> simp [PV.beq, PV.beqs_iff x]
  | .loc x, b => by cases b <;> simp [PV.beq]
theorem PV.beqs_iff : ∀ (a b : List PV), PV.beqs a b = true ↔ a = b
  | [], b => by cases b <;> simp [PV.beqs]
  | x :: r, b => by
    cases b with
    | nil => simp [PV.beqs]
    | cons y t => simp [PV.beqs, PV.beq_iff x y, PV.beqs_iff r t]
end
instance : DecidableEq PV := fun a b => decidable_of_iff (PV.beq a b = true) (PV.beq_iff a b)
instance : Inhabited PV := ⟨.non⟩

inductive Cell where
  | lst (xs : List PV)
  | dct (kvs : List (PV × PV))
  | ins (C : String) (fs : List (String × PV))
  | dcl (kvs : List (PV × PV))
  | dcn (kvs : List (PV × PV))
  | lck (kvs : List (PV × PV))
abbrev Sto := List Cell
structure Exn where
  C : String
  fs : List (String × PV)
inductive Res (α : Type) where
  | ok (a : α) (st : Sto)
  | err (x : Exn) (st : Sto)
  | bad
abbrev M (α : Type) : Type := Sto → Res α
namespace M
variable {α β : Type}
def ret (a : α) : M α := fun st => .ok a st
def bind (m : M α) (f : α → M β) : M β := fun st => match m st with
  | .ok a st' => f a st'
  | .err x st' => .err x st'
  | .bad => .bad
def fail : M α := fun _ => .bad
def calm (m : M α) : M α := fun st => match m st with
  | .err _ _ => .bad
  | r => r
end M
theorem M.bind_ok {α β : Type} {m : M α} {f : α → M β} {st st' : Sto} {a : α} (h : m st = .ok a st') : M.bind m f st = f a st' := by
  unfold M.bind
  rw [h]
abbrev Rho := List (Option PV)
inductive Fl where
  | next (ρ : Rho)
  | ret (v : PV)
  | brk (ρ : Rho)
  | cont (ρ : Rho)
  | exc (x : Exn) (ρ : Rho)

structure Mu where
  l : List Addr
  b : List Addr
instance : Membership Addr Mu := ⟨fun μ a => a ∈ μ.l ∨ a ∈ μ.b⟩
theorem Mu.mem {μ : Mu} {a : Addr} : a ∈ μ ↔ a ∈ μ.l ∨ a ∈ μ.b := Iff.rfl
def Mu.add (μ : Mu) (p : Addr) : Mu := ⟨μ.l ++ [p], μ.b⟩
def KT (K : PySem.W.Frag) (a : Addr) (xs : List V) : Prop :=
  ∃ (o : Obj) (its : Array Value) (n : Nat), K.lookup a = some o ∧ o.cls = .type "tuple" ∧ o.data = .seq its n ∧ its.size ≤ sizeLine ∧ Vals xs its.toList
def KL (K : PySem.W.Frag) (a : Addr) (xs : List V) : Prop :=
  ∃ (o : Obj) (its : Array Value) (n : Nat), K.lookup a = some o ∧ o.cls = .type "list" ∧ o.dict = none ∧ o.data = .seq its n ∧ its.size ≤ sizeLine ∧ Vals xs its.toList
def TupAt (K : PySem.W.Frag) (H : Hp) (μ : Mu) (a : Addr) (vs : List V) : Prop := (H a = some (.tup vs) ∧ a ∉ μ) ∨ KT K a vs
def LstAt (H : Hp) (μ : Mu) (a : Addr) (vs : List V) : Prop := H a = some (.lst vs) ∧ a ∉ μ
def FrzAt (K : PySem.W.Frag) (H : Hp) (μ : Mu) (a : Addr) (vs : List V) : Prop := (Rd H a (.lst vs) ∧ a ∉ μ) ∨ KL K a vs
theorem TupAt.sq {K : PySem.W.Frag} {H : Hp} {μ : Mu} {a : Addr} {vs : List V} (h : TupAt K H μ a vs) : SqT K H a vs := by
  rcases h with ⟨h, _⟩ | h
  · exact .inl (.inl h)
  · exact .inr h
theorem LstAt.sq {K : PySem.W.Frag} {H : Hp} {μ : Mu} {a : Addr} {vs : List V} (h : LstAt H μ a vs) : SqL K H a vs := .inl (.inl h.1)
theorem FrzAt.sq {K : PySem.W.Frag} {H : Hp} {μ : Mu} {a : Addr} {vs : List V} (h : FrzAt K H μ a vs) : SqL K H a vs := by
  rcases h with ⟨h, _⟩ | h
  · exact .inl h
  · exact .inr h
mutual
def VR (K : PySem.W.Frag) (H : Hp) (μ : Mu) : PV → V → Prop
  | .non, v => v = .non
  | .bl b, v => v = .bl b
  | .int i, v => v = .int i
  | .str x, v => v = .str ⟨x.toArray⟩
  | .ty n, v => v = .ty n
  | .gl a, v => v = .ref a
  | .tup ps, v => ∃ a vs, v = .ref a ∧ TupAt K H μ a vs ∧ VRs K H μ ps vs
  | .lst ps, v => ∃ a vs, v = .ref a ∧ LstAt H μ a vs ∧ VRs K H μ ps vs
  | .frz ps, v => ∃ a vs, v = .ref a ∧ FrzAt K H μ a vs ∧ VRs K H μ ps vs
  | .loc n, v => ∃ a, v = .ref a ∧ μ.l[n]? = some a
def VRs (K : PySem.W.Frag) (H : Hp) (μ : Mu) : List PV → List V → Prop
  | [], vs => vs = []
  | p :: ps, vs => ∃ v r, vs = v :: r ∧ VR K H μ p v ∧ VRs K H μ ps r
end
structure Gr (μ : Mu) (H : Hp) (μ' : Mu) (H' : Hp) : Prop where
  pre : ∃ t, μ'.l = μ.l ++ t
  ban : ∀ a, a ∈ μ.b → a ∈ μ'.b
  bnew : ∀ a, a ∈ μ'.b → a ∈ μ.b ∨ H a = none
  new : ∀ a, a ∈ μ'.l → a ∈ μ.l ∨ H a = none
  keep : ∀ a o, H a = some o → a ∉ μ.l → H' a = some o
  fz : ∀ a o u, H a = some (.frz o u) → H' a = some (.frz o u)
theorem Gr.refl (μ : Mu) (H : Hp) : Gr μ H μ H := ⟨⟨[], by simp⟩, fun _ h => h, fun _ h => .inl h, fun _ h => .inl h, fun _ _ h _ => h, fun _ _ _ h => h⟩
theorem Gr.outl {μ μ' : Mu} {H H' : Hp} (g : Gr μ H μ' H') {a : Addr} {o : HO} (h : H a = some o) (n : a ∉ μ.l) : a ∉ μ'.l := fun m => by
  rcases g.new a m with z | z
  · exact n z
  · rw [h] at z; cases z
theorem Gr.out {μ μ' : Mu} {H H' : Hp} (g : Gr μ H μ' H') {a : Addr} {o : HO} (h : H a = some o) (n : a ∉ μ) : a ∉ μ' := fun m => by
  rcases m with m | m
  · exact g.outl h (fun z => n (.inl z)) m
  · rcases g.bnew a m with z | z
    · exact n (.inr z)
    · rw [h] at z; cases z
theorem Gr.back {μ μ' : Mu} {H H' : Hp} (g : Gr μ H μ' H') {a : Addr} (h : H' a = none) : a ∈ μ.l ∨ H a = none := by
  cases q : H a with
  | none => exact .inr rfl
  | some o =>
    by_cases n : a ∈ μ.l
    · exact .inl n
    · rw [g.keep a o q n] at h; cases h
theorem Gr.trans {μ μ1 μ2 : Mu} {H H1 H2 : Hp} (g : Gr μ H μ1 H1) (g' : Gr μ1 H1 μ2 H2) (hb : ∀ a, a ∈ μ2.b → a ∉ μ2.l) : Gr μ H μ2 H2 := by
  have sub : ∀ a, a ∈ μ.l → a ∈ μ2.l := fun a m => by
    obtain ⟨t, e⟩ := g.pre
    obtain ⟨u, e'⟩ := g'.pre
    rw [e', e]
    exact List.mem_append_left _ (List.mem_append_left _ m)
  refine ⟨?_, fun a m => g'.ban a (g.ban a m), fun a m => ?_, fun a m => ?_, fun a o h n => g'.keep a o (g.keep a o h n) (g.outl h n), fun a o u h => g'.fz a o u (g.fz a o u h)⟩
  · obtain ⟨t, e⟩ := g.pre
    obtain ⟨u, e'⟩ := g'.pre
    exact ⟨t ++ u, by rw [e', e, List.append_assoc]⟩
  · rcases g'.bnew a m with z | z
    · exact g.bnew a z
    · rcases g.back z with z | z
      · exact absurd (sub a z) (hb a m)
      · exact .inr z
  · rcases g'.new a m with z | z
    · exact g.new a z
    · exact g.back z
theorem Gr.get {μ μ' : Mu} {H H' : Hp} (g : Gr μ H μ' H') {n : Nat} {a : Addr} (h : μ.l[n]? = some a) : μ'.l[n]? = some a := by
  obtain ⟨t, e⟩ := g.pre
  rw [e]
  exact (List.getElem?_append_left (List.getElem?_eq_some_iff.mp h).1).trans h
def seqO : HO → Bool
  | .tup _ => true
  | .lst _ => true
  | .frz _ _ => true
  | _ => false
structure Gv (μ : Mu) (H : Hp) (μ' : Mu) (H' : Hp) : Prop where
  pre : ∃ t, μ'.l = μ.l ++ t
  keep : ∀ a o, H a = some o → seqO o = true → a ∉ μ → H' a = some o ∧ a ∉ μ'
theorem Gr.v {μ μ' : Mu} {H H' : Hp} (g : Gr μ H μ' H') : Gv μ H μ' H' := ⟨g.pre, fun a o h _ n => ⟨g.keep a o h (fun z => n (.inl z)), g.out h n⟩⟩
theorem Gv.get {μ μ' : Mu} {H H' : Hp} (g : Gv μ H μ' H') {n : Nat} {a : Addr} (h : μ.l[n]? = some a) : μ'.l[n]? = some a := by
  obtain ⟨t, e⟩ := g.pre
  rw [e]
  exact (List.getElem?_append_left (List.getElem?_eq_some_iff.mp h).1).trans h
mutual
theorem VR.monov {K : PySem.W.Frag} {H H' : Hp} {μ μ' : Mu} (g : Gv μ H μ' H') : ∀ (p : PV) (v : V), VR K H μ p v → VR K H' μ' p v
  | .non, _, h => h
  | .bl _, _, h => h
  | .int _, _, h => h
  | .str _, _, h => h
  | .ty _, _, h => h
  | .gl _, _, h => h
  | .tup ps, v, h => by
    obtain ⟨a, vs, e, t, r⟩ := (show ∃ a vs, v = .ref a ∧ TupAt K H μ a vs ∧ VRs K H μ ps vs from h)
    refine (show ∃ a vs, v = .ref a ∧ TupAt K H' μ' a vs ∧ VRs K H' μ' ps vs from ⟨a, vs, e, ?_, VRs.monov g ps vs r⟩)
    rcases t with ⟨t, n⟩ | t
    · exact .inl (g.keep a _ t rfl n)
    · exact .inr t
  | .lst ps, v, h => by
    obtain ⟨a, vs, e, t, r⟩ := (show ∃ a vs, v = .ref a ∧ LstAt H μ a vs ∧ VRs K H μ ps vs from h)
    exact (show ∃ a vs, v = .ref a ∧ LstAt H' μ' a vs ∧ VRs K H' μ' ps vs from ⟨a, vs, e, g.keep a _ t.1 rfl t.2, VRs.monov g ps vs r⟩)
  | .frz ps, v, h => by
    obtain ⟨a, vs, e, t, r⟩ := (show ∃ a vs, v = .ref a ∧ FrzAt K H μ a vs ∧ VRs K H μ ps vs from h)
    refine (show ∃ a vs, v = .ref a ∧ FrzAt K H' μ' a vs ∧ VRs K H' μ' ps vs from ⟨a, vs, e, ?_, VRs.monov g ps vs r⟩)
    rcases t with ⟨t | ⟨o, t⟩, n⟩ | t
    · exact .inl ⟨.inl (g.keep a _ t rfl n).1, (g.keep a _ t rfl n).2⟩
    · exact .inl ⟨.inr ⟨o, (g.keep a _ t rfl n).1⟩, (g.keep a _ t rfl n).2⟩
    · exact .inr t
  | .loc n, v, h => by
    obtain ⟨a, e, t⟩ := (show ∃ a, v = .ref a ∧ μ.l[n]? = some a from h)
    exact (show ∃ a, v = .ref a ∧ μ'.l[n]? = some a from ⟨a, e, g.get t⟩)
theorem VRs.monov {K : PySem.W.Frag} {H H' : Hp} {μ μ' : Mu} (g : Gv μ H μ' H') : ∀ (ps : List PV) (vs : List V), VRs K H μ ps vs → VRs K H' μ' ps vs
  | [], _, h => h
  | p :: ps, vs, h => by
    obtain ⟨v, r, e, h1, h2⟩ := (show ∃ v r, vs = v :: r ∧ VR K H μ p v ∧ VRs K H μ ps r from h)
    exact (show ∃ v r, vs = v :: r ∧ VR K H' μ' p v ∧ VRs K H' μ' ps r from ⟨v, r, e, VR.monov g p v h1, VRs.monov g ps r h2⟩)
end
theorem VR.mono {K : PySem.W.Frag} {H H' : Hp} {μ μ' : Mu} (g : Gr μ H μ' H') (p : PV) (v : V) (h : VR K H μ p v) : VR K H' μ' p v := VR.monov g.v p v h
theorem VRs.mono {K : PySem.W.Frag} {H H' : Hp} {μ μ' : Mu} (g : Gr μ H μ' H') (p : List PV) (v : List V) (h : VRs K H μ p v) : VRs K H' μ' p v := VRs.monov g.v p v h
section
variable {K : PySem.W.Frag} {H : Hp} {μ : Mu}
theorem VRs.length : ∀ {ps : List PV} {vs : List V}, VRs K H μ ps vs → ps.length = vs.length
  | [], vs, h => by have e : vs = [] := h; rw [e]; rfl
  | p :: ps, vs, h => by
    obtain ⟨v, r, e, _, h2⟩ := (show ∃ v r, vs = v :: r ∧ VR K H μ p v ∧ VRs K H μ ps r from h)
    rw [e, List.length_cons, List.length_cons, VRs.length h2]
theorem VRs.cons {p : PV} {ps : List PV} {v : V} {vs : List V} (h : VR K H μ p v) (t : VRs K H μ ps vs) : VRs K H μ (p :: ps) (v :: vs) :=
  (show ∃ w r, v :: vs = w :: r ∧ VR K H μ p w ∧ VRs K H μ ps r from ⟨v, vs, rfl, h, t⟩)
theorem VRs.nil : VRs K H μ [] [] := rfl
theorem VRs.append : ∀ {ps qs : List PV} {vs ws : List V}, VRs K H μ ps vs → VRs K H μ qs ws → VRs K H μ (ps ++ qs) (vs ++ ws)
  | [], _, vs, _, h, t => by have e : vs = [] := h; rw [e]; exact t
  | p :: ps, qs, vs, ws, h, t => by
    obtain ⟨v, r, e, h1, h2⟩ := (show ∃ v r, vs = v :: r ∧ VR K H μ p v ∧ VRs K H μ ps r from h)
    rw [e]
    exact VRs.cons h1 (VRs.append h2 t)
theorem VRs.get : ∀ {ps : List PV} {vs : List V} {i : Nat} {p : PV}, VRs K H μ ps vs → ps[i]? = some p → ∃ v, vs[i]? = some v ∧ VR K H μ p v
  | [], _, _, _, _, e => by simp at e
  | q :: ps, vs, 0, p, h, e => by
    obtain ⟨v, r, ev, h1, _⟩ := (show ∃ v r, vs = v :: r ∧ VR K H μ q v ∧ VRs K H μ ps r from h)
    simp at e
    subst e
    exact ⟨v, by rw [ev]; rfl, h1⟩
  | q :: ps, vs, i + 1, p, h, e => by
    obtain ⟨v, r, ev, _, h2⟩ := (show ∃ v r, vs = v :: r ∧ VR K H μ q v ∧ VRs K H μ ps r from h)
    obtain ⟨w, e1, e2⟩ := VRs.get (i := i) (p := p) h2 (by simpa using e)
    exact ⟨w, by rw [ev]; simpa using e1, e2⟩
theorem VRs.set {p : PV} {v : V} (r : VR K H μ p v) : ∀ {ps : List PV} {vs : List V} (i : Nat), VRs K H μ ps vs → VRs K H μ (ps.set i p) (vs.set i v)
  | [], vs, _, h => by have e : vs = [] := h; rw [e]; exact rfl
  | q :: ps, vs, 0, h => by
    obtain ⟨w, t, ev, _, h2⟩ := (show ∃ v r, vs = v :: r ∧ VR K H μ q v ∧ VRs K H μ ps r from h)
    rw [ev]
    exact VRs.cons r h2
  | q :: ps, vs, i + 1, h => by
    obtain ⟨w, t, ev, h1, h2⟩ := (show ∃ v r, vs = v :: r ∧ VR K H μ q v ∧ VRs K H μ ps r from h)
    rw [ev]
    exact VRs.cons h1 (VRs.set r i h2)
theorem VRs.take : ∀ {ps : List PV} {vs : List V} (n : Nat), VRs K H μ ps vs → VRs K H μ (ps.take n) (vs.take n)
  | _, _, 0, _ => rfl
  | [], vs, n + 1, h => by have e : vs = [] := h; rw [e]; exact rfl
  | q :: ps, vs, n + 1, h => by
    obtain ⟨w, t, ev, h1, h2⟩ := (show ∃ v r, vs = v :: r ∧ VR K H μ q v ∧ VRs K H μ ps r from h)
    rw [ev]
    exact VRs.cons h1 (VRs.take n h2)
theorem VRs.drop : ∀ {ps : List PV} {vs : List V} (n : Nat), VRs K H μ ps vs → VRs K H μ (ps.drop n) (vs.drop n)
  | _, _, 0, h => h
  | [], vs, n + 1, h => by have e : vs = [] := h; rw [e]; exact rfl
  | q :: ps, vs, n + 1, h => by
    obtain ⟨w, t, ev, h1, h2⟩ := (show ∃ v r, vs = v :: r ∧ VR K H μ q v ∧ VRs K H μ ps r from h)
    rw [ev]
    exact VRs.drop n h2
theorem VRs.nil_iff {ps : List PV} {vs : List V} (h : VRs K H μ ps vs) : vs = [] ↔ ps = [] := by
  have e := VRs.length h
  constructor
  · intro z; rw [z] at e; exact List.eq_nil_of_length_eq_zero e
  · intro z; rw [z] at e; exact List.eq_nil_of_length_eq_zero e.symm
theorem VRs.ints : ∀ {ns : List Int}, VRs K H μ (ns.map PV.int) (ns.map V.int)
  | [] => rfl
  | n :: ns => VRs.cons rfl (VRs.ints (ns := ns))
end

def keyOf : PV → Option Key
  | .int i => some (.inl i)
  | .str x => some (.inr ⟨x.toArray⟩)
  | _ => none
theorem keyOf_inj {p q : PV} {k : Key} (h : keyOf p = some k) (h' : keyOf q = some k) : p = q := by
  cases p <;> cases q <;> simp [keyOf] at h h' <;> subst h <;> simp_all
def KRs (K : PySem.W.Frag) (H : Hp) (μ : Mu) : List (PV × PV) → List (Key × V) → Prop
  | [], kv => kv = []
  | p :: r, kv => ∃ k v t, kv = (k, v) :: t ∧ keyOf p.1 = some k ∧ VR K H μ p.2 v ∧ KRs K H μ r t
def ClsIn (K : PySem.W.Frag) (c : String) (C : Addr) : Prop := PySem.W.nsIn K mainGlobals (Str.ofString c) = some (some (.ref C))
theorem ClsIn.one {K : PySem.W.Frag} {c : String} {C C' : Addr} (h : ClsIn K c C) (h' : ClsIn K c C') : C = C' := by
  have e := h.symm.trans h'
  injection e with e; injection e with e; injection e
def FRs (K : PySem.W.Frag) (H : Hp) (μ : Mu) : List (String × PV) → List (Str × V) → Prop
  | [], fv => fv = []
  | p :: r, fv => ∃ v t, fv = (Str.ofString p.1, v) :: t ∧ VR K H μ p.2 v ∧ FRs K H μ r t
def lfOf : PV → Option Leaf
  | .non => some .none
  | .int i => some (.num i)
  | .str x => some (.text ⟨x.toArray⟩)
  | _ => none
theorem lfOf_inj {p q : PV} {k : Leaf} (h : lfOf p = some k) (h' : lfOf q = some k) : p = q := by
  cases p <;> cases q <;> simp [lfOf] at h h' <;> subst h <;> simp_all
mutual
def nkOf : PV → Option NestedKey
  | .non => some .none
  | .int i => some (.num i)
  | .str x => some (.text ⟨x.toArray⟩)
  | .tup xs => match nksOf xs with
    | some ks => some (.tup ks)
    | none => none
  | .bl _ => none
  | .ty _ => none
  | .gl _ => none
  | .lst _ => none
  | .frz _ => none
  | .loc _ => none
def nksOf : List PV → Option (List NestedKey)
  | [] => some []
  | x :: r => match nkOf x with
    | some k => match nksOf r with
      | some ks => some (k :: ks)
      | none => none
    | none => none
end
theorem nkOf_tup {xs : List PV} {k : NestedKey} (h : nkOf (.tup xs) = some k) : ∃ ks, nksOf xs = some ks ∧ k = .tup ks := by
  rw [nkOf] at h
  cases q : nksOf xs with
  | none => rw [q] at h; cases h
  | some ks => rw [q] at h; cases h; exact ⟨ks, rfl, rfl⟩
theorem nksOf_cons {x : PV} {r : List PV} {ks : List NestedKey} (h : nksOf (x :: r) = some ks) : ∃ k t, nkOf x = some k ∧ nksOf r = some t ∧ ks = k :: t := by
  rw [nksOf] at h
  cases q : nkOf x with
  | none => rw [q] at h; cases h
  | some k =>
    rw [q] at h
    cases q' : nksOf r with
    | none => rw [q'] at h; cases h
    | some t => rw [q'] at h; cases h; exact ⟨k, t, rfl, rfl, rfl⟩
mutual
theorem nkOf_inj : ∀ (p q : PV) (k : NestedKey), nkOf p = some k → nkOf q = some k → p = q
  | .non, q, k, h, h' => by
    cases (show some NestedKey.none = some k by rw [← h]; rfl)
    cases q with
    | non => rfl
    | tup xs => obtain ⟨_, _, e⟩ := nkOf_tup h'; cases e
    | int i => cases h'
    | str i => cases h'
    | _ => cases h'
  | .int i, q, k, h, h' => by
    cases (show some (NestedKey.num i) = some k by rw [← h]; rfl)
    cases q with
    | non => cases h'
    | tup xs => obtain ⟨_, _, e⟩ := nkOf_tup h'; cases e
    | int j => cases h'; rfl
    | str i => cases h'
    | _ => cases h'
  | .str x, q, k, h, h' => by
    cases (show some (NestedKey.text ⟨x.toArray⟩) = some k by rw [← h]; rfl)
    cases q with
    | non => cases h'
    | tup xs => obtain ⟨_, _, e⟩ := nkOf_tup h'; cases e
    | int j => cases h'
    | str y =>
      have e : (some (NestedKey.text ⟨y.toArray⟩)) = some (NestedKey.text ⟨x.toArray⟩) := by rw [← h']; rfl
      injection e with e; injection e with e; injection e with e; injection e with e
      rw [e]
    | _ => cases h'
  | .tup xs, q, k, h, h' => by
    obtain ⟨ks, e1, e2⟩ := nkOf_tup h
    subst e2
    cases q with
    | non => cases h'
    | tup ys =>
      obtain ⟨ks', e3, e4⟩ := nkOf_tup h'
      cases e4
      rw [nksOf_inj xs ys ks e1 e3]
    | int j => cases h'
    | str y => cases h'
    | _ => cases h'
  | .bl _, _, _, h, _ => by cases h
  | .ty _, _, _, h, _ => by cases h
  | .gl _, _, _, h, _ => by cases h
  | .lst _, _, _, h, _ => by cases h
  | .frz _, _, _, h, _ => by cases h
  | .loc _, _, _, h, _ => by cases h
theorem nksOf_inj : ∀ (p q : List PV) (k : List NestedKey), nksOf p = some k → nksOf q = some k → p = q
  | [], q, k, h, h' => by
    cases (show some ([] : List NestedKey) = some k by rw [← h]; rfl)
    cases q with
    | nil => rfl
    | cons y t => obtain ⟨_, _, _, _, e⟩ := nksOf_cons h'; cases e
  | x :: r, q, k, h, h' => by
    obtain ⟨k1, t1, e1, e2, e3⟩ := nksOf_cons h
    subst e3
    cases q with
    | nil => cases (show some ([] : List NestedKey) = some _ by rw [← h']; rfl)
    | cons y t =>
      obtain ⟨k2, t2, e4, e5, e6⟩ := nksOf_cons h'
      cases e6
      rw [nkOf_inj x y k1 e1 e4, nksOf_inj r t t1 e2 e5]
end
def nkT : PV → Option NestedKey
  | .tup xs => match nksOf xs with
    | some ks => if NestedKey.depthAll ks + 1 ≤ 8 then some (.tup ks) else none
    | none => none
  | _ => none
theorem nkT_of {p : PV} {k : NestedKey} (h : nkT p = some k) : nkOf p = some k ∧ k.depth ≤ 8 := by
  cases p with
  | tup xs =>
    unfold nkT at h
    dsimp only at h
    cases q : nksOf xs with
    | none => rw [q] at h; cases h
    | some ks =>
      rw [q] at h
      dsimp only at h
      by_cases d : NestedKey.depthAll ks + 1 ≤ 8
      · rw [if_pos d] at h
        cases h
        exact ⟨by rw [nkOf, q], by rw [NestedKey.depth]; exact d⟩
      · rw [if_neg d] at h; cases h
  | _ => cases h
theorem nkT_inj {p q : PV} {k : NestedKey} (h : nkT p = some k) (h' : nkT q = some k) : p = q := nkOf_inj p q k (nkT_of h).1 (nkT_of h').1
def entL (w : World) (e : DictEntry) (x : Leaf × Value) : Prop := Leaf.isOf x.1 e.key = true ∧ e.hash = x.1.key.hash w ∧ e.val = x.2
def leafD (w : World) (a : Addr) (xs : List (Leaf × Value)) : HO := .ext fun h => ∃ o es ep, h.get? a = some o ∧ o.ExactDict ∧ o.data = .dict es ep ∧ Paired (entL w) es.toList xs
def entN (w : World) (x : NestedKey × Addr × Value) : DictEntry := ⟨x.1.hash w, .ref x.2.1, x.2.2⟩
def nestD (w : World) (a : Addr) (xs : List (NestedKey × Addr × Value)) : HO := .ext fun h => ∃ o es ep, h.get? a = some o ∧ o.ExactDict ∧ o.data = .dict es ep ∧ es.toList = xs.map (entN w)
def LRs (K : PySem.W.Frag) (H : Hp) (μ : Mu) : List (PV × PV) → List (Leaf × Value) → Prop := Paired fun (p : PV × PV) (x : Leaf × Value) => lfOf p.1 = some x.1 ∧ ∃ v, VR K H μ p.2 v ∧ RelV v x.2
def NRs (K : PySem.W.Frag) (H : Hp) (μ : Mu) : List (PV × PV) → List (NestedKey × Addr × Value) → Prop := Paired fun (p : PV × PV) (x : NestedKey × Addr × Value) => nkT p.1 = some x.1 ∧ VR K H μ p.1 (.ref x.2.1) ∧ ∃ v, VR K H μ p.2 v ∧ RelV v x.2.2
theorem LRs.mono {K : PySem.W.Frag} {H H' : Hp} {μ μ' : Mu} (g : Gv μ H μ' H') {ps : List (PV × PV)} {xs : List (Leaf × Value)} (r : LRs K H μ ps xs) : LRs K H' μ' ps xs :=
  Paired.mapP r fun _ _ ⟨h1, v, h2, h3⟩ => ⟨h1, v, VR.monov g _ _ h2, h3⟩
theorem NRs.mono {K : PySem.W.Frag} {H H' : Hp} {μ μ' : Mu} (g : Gv μ H μ' H') {ps : List (PV × PV)} {xs : List (NestedKey × Addr × Value)} (r : NRs K H μ ps xs) : NRs K H' μ' ps xs :=
  Paired.mapP r fun _ _ ⟨h1, h0, v, h2, h3⟩ => ⟨h1, VR.monov g _ _ h0, v, VR.monov g _ _ h2, h3⟩
def CR (K : KW) (H : Hp) (μ : Mu) (a : Addr) : Cell → Prop
  | .lst xs => ∃ vs, H a = some (.lst vs) ∧ VRs K H μ xs vs
  | .dct kvs => ∃ kv, H a = some (.dK kv) ∧ KRs K H μ kvs kv
  | .ins c fs => ∃ C dx fv, ClsIn K c C ∧ H a = some (.ins C dx fv) ∧ FRs K H μ fs fv
  | .dcl kvs => ∃ xs, H a = some (leafD K.w a xs) ∧ (a == sysModules) = false ∧ kvs.length ≤ sizeLine ∧ LRs K H μ kvs xs ∧ (xs.map (·.1)).Nodup
  | .dcn kvs => ∃ xs, H a = some (nestD K.w a xs) ∧ (a == sysModules) = false ∧ kvs.length ≤ sizeLine ∧ NRs K H μ kvs xs ∧ (xs.map (·.1)).Nodup
  | .lck kvs => ∃ o kv, H a = some (.frz o (.dK kv)) ∧ KRs K H μ kvs kv
structure SR (K : KW) (μ : Mu) (st : Sto) (H : Hp) : Prop where
  len : μ.l.length = st.length
  nd : μ.l.Nodup
  ban : ∀ a, a ∈ μ.b → a ∉ μ.l ∧ ∃ o, H a = some o
  cell : ∀ (n : Nat) (c : Cell) (a : Addr), st[n]? = some c → μ.l[n]? = some a → CR K H μ a c
theorem KRs.mono {K : PySem.W.Frag} {H H' : Hp} {μ μ' : Mu} (g : Gv μ H μ' H') : ∀ (ps : List (PV × PV)) (kv : List (Key × V)), KRs K H μ ps kv → KRs K H' μ' ps kv
  | [], _, h => h
  | p :: ps, kv, h => by
    obtain ⟨k, v, t, e, hk, h1, h2⟩ := h
    exact ⟨k, v, t, e, hk, VR.monov g _ _ h1, KRs.mono g ps t h2⟩
theorem FRs.mono {K : PySem.W.Frag} {H H' : Hp} {μ μ' : Mu} (g : Gv μ H μ' H') : ∀ (ps : List (String × PV)) (fv : List (Str × V)), FRs K H μ ps fv → FRs K H' μ' ps fv
  | [], _, h => h
  | p :: ps, fv, h => by
    obtain ⟨v, t, e, h1, h2⟩ := h
    exact ⟨v, t, e, VR.monov g _ _ h1, FRs.mono g ps t h2⟩
theorem CR.monov {K : KW} {H H' : Hp} {μ μ' : Mu} (g : Gv μ H μ' H') {a : Addr} (ha : H' a = H a) : ∀ {c : Cell}, CR K H μ a c → CR K H' μ' a c
  | .lst xs, h => by
    obtain ⟨vs, e, r⟩ := h
    exact ⟨vs, by rw [ha]; exact e, VRs.monov g _ _ r⟩
  | .dct kvs, h => by
    obtain ⟨kv, e, r⟩ := h
    exact ⟨kv, by rw [ha]; exact e, KRs.mono g _ _ r⟩
  | .ins c fs, h => by
    obtain ⟨C, dx, fv, hc, e, r⟩ := h
    exact ⟨C, dx, fv, hc, by rw [ha]; exact e, FRs.mono g _ _ r⟩
  | .dcl kvs, h => by
    obtain ⟨xs, e, hs, hz, r, nd⟩ := h
    exact ⟨xs, by rw [ha]; exact e, hs, hz, r.mono g, nd⟩
  | .dcn kvs, h => by
    obtain ⟨xs, e, hs, hz, r, nd⟩ := h
    exact ⟨xs, by rw [ha]; exact e, hs, hz, r.mono g, nd⟩
  | .lck kvs, h => by
    obtain ⟨o, kv, e, r⟩ := h
    exact ⟨o, kv, by rw [ha]; exact e, KRs.mono g _ _ r⟩
theorem CR.mono {K : KW} {H H' : Hp} {μ μ' : Mu} (g : Gr μ H μ' H') {a : Addr} (ha : H' a = H a) {c : Cell} (h : CR K H μ a c) : CR K H' μ' a c := CR.monov g.v ha h
theorem CR.has {K : KW} {H : Hp} {μ : Mu} {a : Addr} : ∀ {c : Cell}, CR K H μ a c → ∃ o, H a = some o
  | .lst xs, ⟨vs, e, _⟩ => ⟨_, e⟩
  | .dct kvs, ⟨kv, e, _⟩ => ⟨_, e⟩
  | .ins c fs, ⟨C, dx, fv, _, e, _⟩ => ⟨_, e⟩
  | .dcl kvs, ⟨xs, e, _⟩ => ⟨_, e⟩
  | .dcn kvs, ⟨xs, e, _⟩ => ⟨_, e⟩
  | .lck kvs, ⟨_, _, e, _⟩ => ⟨_, e⟩
section
variable {K : KW} {H : Hp} {μ : Mu} {st : Sto}
theorem SR.has (s : SR K μ st H) {a : Addr} (h : a ∈ μ.l) : ∃ o, H a = some o := by
  obtain ⟨n, hn, e⟩ := List.getElem_of_mem h
  have h1 : μ.l[n]? = some a := List.getElem?_eq_some_iff.mpr ⟨hn, e⟩
  have h2 : n < st.length := by rw [← s.len]; exact hn
  exact (s.cell n st[n] a (List.getElem?_eq_some_iff.mpr ⟨h2, rfl⟩) h1).has
theorem SR.free (s : SR K μ st H) {p : Addr} (h : H p = none) : p ∉ μ := fun m => by
  rcases m with m | m
  · obtain ⟨o, e⟩ := s.has m
    rw [h] at e; cases e
  · obtain ⟨o, e⟩ := (s.ban p m).2
    rw [h] at e; cases e
theorem gr_new {p : Addr} {o : HO} (h : H p = none) : Gr μ H μ (upd H p o) := ⟨⟨[], by simp⟩, fun _ m => m, fun _ m => .inl m, fun _ m => .inl m, fun a u e _ => by rw [upd_ne (ne_of_none e h)]; exact e, fun a o' u e => by rw [upd_ne (ne_of_none e h)]; exact e⟩
theorem SR.new (s : SR K μ st H) {p : Addr} {o : HO} (h : H p = none) : SR K μ st (upd H p o) :=
  ⟨s.len, s.nd, fun a m => ⟨(s.ban a m).1, let ⟨u, e⟩ := (s.ban a m).2; ⟨u, by rw [upd_ne (ne_of_none e h)]; exact e⟩⟩, fun n c a e1 e2 => (s.cell n c a e1 e2).mono (gr_new h) (upd_ne (fun z => by
    obtain ⟨u, e⟩ := (s.cell n c a e1 e2).has
    rw [z, h] at e; cases e))⟩
theorem gr_alloc {p : Addr} {o : HO} (h : H p = none) : Gr μ H (μ.add p) (upd H p o) := ⟨⟨[p], rfl⟩, fun _ m => m, fun _ m => .inl m, fun a m => by
    rcases List.mem_append.mp m with z | z
    · exact .inl z
    · rw [List.mem_singleton.mp z]; exact .inr h, fun a u e _ => by rw [upd_ne (ne_of_none e h)]; exact e, fun a o' u e => by rw [upd_ne (ne_of_none e h)]; exact e⟩
theorem gv_alloc {p : Addr} {o : HO} (h : ∀ u, H p = some u → seqO u = false) : Gv μ H (μ.add p) (upd H p o) := ⟨⟨[p], rfl⟩, fun a u e hu n => by
  have ne : a ≠ p := fun z => by
    subst z
    rw [h u e] at hu
    cases hu
  refine ⟨by rw [upd_ne ne]; exact e, fun m => ?_⟩
  rcases m with m | m
  · rcases List.mem_append.mp m with z | z
    · exact n (.inl z)
    · exact ne (List.mem_singleton.mp z)
  · exact n (.inr m)⟩
theorem SR.track (s : SR K μ st H) {p : Addr} {o : HO} {c : Cell} (np : p ∉ μ) (h : ∀ u, H p = some u → seqO u = false) (hc : CR K (upd H p o) (μ.add p) p c) : SR K (μ.add p) (st ++ [c]) (upd H p o) := by
  refine ⟨by simp [Mu.add, s.len], ?_, fun a m => ?_, fun n d a e1 e2 => ?_⟩
  · refine List.nodup_append.mpr ⟨s.nd, by simp, fun a ha b hb => ?_⟩
    rw [List.mem_singleton.mp hb]
    rintro rfl
    exact np (.inl ha)
  · have ne : a ≠ p := fun z => np (.inr (by rw [← z]; exact m))
    obtain ⟨n1, u, e⟩ := s.ban a m
    refine ⟨fun z => ?_, u, by rw [upd_ne ne]; exact e⟩
    rcases List.mem_append.mp z with z | z
    · exact n1 z
    · exact ne (List.mem_singleton.mp z)
  · have e2 : (μ.l ++ [p])[n]? = some a := e2
    by_cases hn : n < st.length
    · rw [List.getElem?_append_left hn] at e1
      rw [List.getElem?_append_left (by rw [s.len]; exact hn)] at e2
      exact (s.cell n d a e1 e2).monov (gv_alloc h) (upd_ne (fun z => by
        rw [z] at e2
        exact np (.inl (List.mem_of_getElem? e2))))
    · rw [List.getElem?_append_right (by omega)] at e1
      rw [List.getElem?_append_right (by rw [s.len]; omega), s.len] at e2
      have e0 : n - st.length = 0 := by
        have := (List.getElem?_eq_some_iff.mp e1).1
        simp at this
        omega
      rw [e0] at e1 e2
      simp at e1 e2
      subst e1 e2
      exact hc
theorem SR.alloc (s : SR K μ st H) {p : Addr} {o : HO} {c : Cell} (h : H p = none) (hc : CR K (upd H p o) (μ.add p) p c) : SR K (μ.add p) (st ++ [c]) (upd H p o) :=
  s.track (s.free h) (fun u e => by rw [h] at e; cases e) hc
theorem SR.addr (s : SR K μ st H) {n : Nat} {c : Cell} (h : st[n]? = some c) : ∃ a, μ.l[n]? = some a ∧ CR K H μ a c := by
  have hn : n < μ.l.length := by rw [s.len]; exact (List.getElem?_eq_some_iff.mp h).1
  exact ⟨μ.l[n], List.getElem?_eq_some_iff.mpr ⟨hn, rfl⟩, s.cell n c _ h (List.getElem?_eq_some_iff.mpr ⟨hn, rfl⟩)⟩
def nofz : HO → Bool
  | .frz _ _ => false
  | _ => true
theorem gr_put {a : Addr} {o : HO} {n : Nat} (h : μ.l[n]? = some a) {u0 : HO} (h0 : H a = some u0) (nf : nofz u0 = true) : Gr μ H μ (upd H a o) := ⟨⟨[], by simp⟩, fun _ m => m, fun _ m => .inl m, fun _ m => .inl m, fun b u e nb => by
  rw [upd_ne (fun z => nb (by rw [z]; exact List.mem_of_getElem? h))]; exact e, fun b o' u e => by
  rw [upd_ne (fun z => by rw [z, h0] at e; cases e; cases nf)]; exact e⟩
theorem gv_put {a : Addr} {o : HO} {n : Nat} (h : μ.l[n]? = some a) : Gv μ H μ (upd H a o) := ⟨⟨[], by simp⟩, fun b u e _ nb => ⟨by
  rw [upd_ne (fun z => nb (.inl (by rw [z]; exact List.mem_of_getElem? h)))]; exact e, nb⟩⟩
theorem SR.put (s : SR K μ st H) {a : Addr} {o : HO} {n : Nat} {c : Cell} (h : μ.l[n]? = some a) (hc : CR K (upd H a o) μ a c) : SR K μ (st.set n c) (upd H a o) := by
  refine ⟨by simp [s.len], s.nd, fun b m => ?_, fun m d b e1 e2 => ?_⟩
  · obtain ⟨n1, u, e⟩ := s.ban b m
    exact ⟨n1, u, by rw [upd_ne (fun z => n1 (by rw [z]; exact List.mem_of_getElem? h))]; exact e⟩
  · by_cases hm : n = m
    · subst hm
      rw [h] at e2
      cases e2
      have hn : n < st.length := by rw [← s.len]; exact (List.getElem?_eq_some_iff.mp h).1
      rw [List.getElem?_set_self hn] at e1
      cases e1
      exact hc
    · rw [List.getElem?_set_ne hm] at e1
      refine (s.cell m d b e1 e2).monov (gv_put h) (upd_ne fun z => hm ?_)
      subst z
      obtain ⟨h1, e1'⟩ := List.getElem?_eq_some_iff.mp h
      obtain ⟨h2, e2'⟩ := List.getElem?_eq_some_iff.mp e2
      exact (List.getElem_inj s.nd).mp (e1'.trans e2'.symm)
end

def XR (K : PySem.W.Frag) (H : Hp) (μ : Mu) (x : Exn) (d : Addr) : Prop := ∃ fv, H d = some (.xd fv) ∧ FRs K H μ x.fs fv
def PostG {α β : Type} (K : KW) (E : XK) (R : Hp → Mu → α → β → Prop) (Q : β → Hp → Prop) (μ : Mu) (H : Hp) : Res α → Prop
  | .ok a st => ∀ μ' H' b, Gr μ H μ' H' → SR K μ' st H' → R H' μ' a b → Q b H'
  | .err x st => ∀ μ' H' d, Gr μ H μ' H' → SR K μ' st H' → XR K H' μ' x d → ∀ C, ClsIn K x.C C → E (.ref C) (some d) H'
  | .bad => False
section
variable {K : KW} {E : XK} {α β γ δ : Type} {R : Hp → Mu → α → β → Prop} {R' : Hp → Mu → γ → δ → Prop} {Q Q' : β → Hp → Prop} {μ μ' : Mu} {H H' : Hp} {st : Sto}
theorem PostG.mono {r : Res α} (h : PostG K E R Q μ H r) (i : ∀ b H', Q b H' → Q' b H') : PostG K E R Q' μ H r := by
  cases r with
  | ok a st => exact fun μ' H' b g s x => i _ _ (h μ' H' b g s x)
  | err x st => exact h
  | bad => exact h
theorem PostG.grow {r : Res α} (h : PostG K E R Q μ H r) (g : Gr μ H μ' H') : PostG K E R Q μ' H' r := by
  cases r with
  | ok a st => exact fun μ2 H2 b g2 s x => h μ2 H2 b (g.trans g2 fun a m => (s.ban a m).1) s x
  | err x st => exact fun μ2 H2 d g2 s x => h μ2 H2 d (g.trans g2 fun a m => (s.ban a m).1) s x
  | bad => exact h
theorem PostG.bind {m : M γ} {f : γ → M α} (h : PostG K E R Q μ H (M.bind m f st)) :
    PostG K E R' (fun b H' => ∃ μ' st' a, Gr μ H μ' H' ∧ SR K μ' st' H' ∧ R' H' μ' a b ∧ PostG K E R Q μ' H' (f a st')) μ H (m st) := by
  unfold M.bind at h
  cases e : m st with
  | ok a st' =>
    rw [e] at h
    exact fun μ' H' b g s r => ⟨μ', st', a, g, s, r, h.grow g⟩
  | err x st' =>
    rw [e] at h
    exact h
  | bad =>
    rw [e] at h
    exact h.elim
theorem PostG.bindAt {m : M γ} {f : γ → M α} (h : PostG K E R Q μ H (M.bind m f st)) (g0 : Gr μ H μ' H') :
    PostG K E R' (fun b H2 => ∃ μ2 st' a, Gr μ' H' μ2 H2 ∧ SR K μ2 st' H2 ∧ R' H2 μ2 a b ∧ PostG K E R Q μ H (f a st')) μ' H' (m st) := by
  unfold M.bind at h
  cases e : m st with
  | ok a st' =>
    rw [e] at h
    exact fun μ2 H2 b g s r => ⟨μ2, st', a, g, s, r, h⟩
  | err x st' =>
    rw [e] at h
    exact PostG.grow (r := .err x st') h g0
  | bad =>
    rw [e] at h
    exact h.elim
theorem PostG.calm {m : M α} (h : PostG K E R Q μ H (M.calm m st)) {E' : XK} : PostG K E' R Q μ H (m st) := by
  unfold M.calm at h
  cases e : m st with
  | ok a st' => rw [e] at h; exact h
  | err x st' => rw [e] at h; exact h.elim
  | bad => rw [e] at h; exact h.elim
end
structure ER (K : PySem.W.Frag) (H : Hp) (μ : Mu) (ρ : Rho) (σ : St) : Prop where
  len : ρ.length = σ.length
  get : ∀ (i : Nat) (p : PV), ρ[i]? = some (some p) → ∃ v, σ[i]? = some (some v) ∧ VR K H μ p v
theorem ER.mono {K : PySem.W.Frag} {H H' : Hp} {μ μ' : Mu} {ρ : Rho} {σ : St} (g : Gr μ H μ' H') (e : ER K H μ ρ σ) : ER K H' μ' ρ σ :=
  ⟨e.len, fun i p h => let ⟨v, h1, h2⟩ := e.get i p h; ⟨v, h1, VR.mono g p v h2⟩⟩
theorem ER.set {K : PySem.W.Frag} {H : Hp} {μ : Mu} {ρ : Rho} {σ : St} (e : ER K H μ ρ σ) {p : PV} {v : V} (r : VR K H μ p v) (i : Nat) : ER K H μ (ρ.set i (some p)) (σ.set i (some v)) := by
  refine ⟨by simp [e.len], fun j q h => ?_⟩
  by_cases hj : i = j
  · subst hj
    by_cases hi : i < ρ.length
    · rw [List.getElem?_set_self hi] at h
      cases h
      exact ⟨v, List.getElem?_set_self (by rw [← e.len]; exact hi), r⟩
    · rw [List.getElem?_eq_none (by simpa using hi)] at h
      cases h
  · rw [List.getElem?_set_ne hj] at h
    obtain ⟨w, h1, h2⟩ := e.get j q h
    exact ⟨w, by rw [List.getElem?_set_ne hj]; exact h1, h2⟩
theorem ER.unset {K : PySem.W.Frag} {H : Hp} {μ : Mu} {ρ : Rho} {σ : St} (e : ER K H μ ρ σ) (i : Nat) : ER K H μ (ρ.set i none) (σ.set i none) := by
  refine ⟨by simp [e.len], fun j q h => ?_⟩
  by_cases hj : i = j
  · subst hj
    by_cases hi : i < ρ.length
    · rw [List.getElem?_set_self hi] at h
      cases h
    · rw [List.getElem?_eq_none (by simpa using hi)] at h
      cases h
  · rw [List.getElem?_set_ne hj] at h
    obtain ⟨w, h1, h2⟩ := e.get j q h
    exact ⟨w, by rw [List.getElem?_set_ne hj]; exact h1, h2⟩
def PostS (K : KW) (W : WX) (D : Ends) (μ : Mu) (H : Hp) : Res Fl → Prop
  | .ok (.next ρ) st => ∀ μ' H' σ', Gr μ H μ' H' → SR K μ' st H' → ER K H' μ' ρ σ' → D.nx σ' H'
  | .ok (.ret p) st => ∀ μ' H' v, Gr μ H μ' H' → SR K μ' st H' → VR K H' μ' p v → D.rt v H'
  | .ok (.brk ρ) st => ∀ μ' H' σ', Gr μ H μ' H' → SR K μ' st H' → ER K H' μ' ρ σ' → D.bk σ' H'
  | .ok (.cont ρ) st => ∀ μ' H' σ', Gr μ H μ' H' → SR K μ' st H' → ER K H' μ' ρ σ' → D.ct σ' H'
  | .ok (.exc x ρ) st => ∀ μ' H' σ' d, Gr μ H μ' H' → SR K μ' st H' → ER K H' μ' ρ σ' → XR K H' μ' x d → ∀ C, ClsIn K x.C C → W (.ref C) (some d) σ' H'
  | .err _ _ => False
  | .bad => False
theorem PostS.grow {K : KW} {W : WX} {D : Ends} {μ μ' : Mu} {H H' : Hp} {r : Res Fl} (h : PostS K W D μ H r) (g : Gr μ H μ' H') : PostS K W D μ' H' r := by
  cases r with
  | ok f st =>
    cases f with
    | next ρ => exact fun μ2 H2 σ g2 s e => h μ2 H2 σ (g.trans g2 fun a m => (s.ban a m).1) s e
    | ret p => exact fun μ2 H2 v g2 s e => h μ2 H2 v (g.trans g2 fun a m => (s.ban a m).1) s e
    | brk ρ => exact fun μ2 H2 σ g2 s e => h μ2 H2 σ (g.trans g2 fun a m => (s.ban a m).1) s e
    | cont ρ => exact fun μ2 H2 σ g2 s e => h μ2 H2 σ (g.trans g2 fun a m => (s.ban a m).1) s e
    | exc x ρ => exact fun μ2 H2 σ d g2 s e z => h μ2 H2 σ d (g.trans g2 fun a m => (s.ban a m).1) s e z
  | err x st => exact h
  | bad => exact h

def tM (K : KW) (W : WX) (m : Rho → M PV) : TE := fun σ H Q => ∃ μ st ρ, ER K H μ ρ σ ∧ SR K μ st H ∧ PostG K (fun c d H' => W c d σ H') (VR K) Q μ H (m ρ st)
def tMT (K : KW) (W : WX) (m : Rho → M Bool) : TT := fun σ H Q => ∃ μ st ρ, ER K H μ ρ σ ∧ SR K μ st H ∧ PostG K (fun c d H' => W c d σ H') (fun _ _ a b => a = b) Q μ H (m ρ st)
def tMA (K : KW) (W : WX) (m : Rho → M (List PV)) : TA := fun σ H Q => ∃ μ st ρ, ER K H μ ρ σ ∧ SR K μ st H ∧ PostG K (fun c d H' => W c d σ H') (VRs K) Q μ H (m ρ st)
def RF (K : PySem.W.Frag) (H : Hp) (μ : Mu) (ps : List PV) (v : V) : Prop := VR K H μ (.lst ps) v
def tMS (K : KW) (W : WX) (m : Rho → M Fl) : TS := fun D σ H => ∃ μ st ρ, ER K H μ ρ σ ∧ SR K μ st H ∧ PostS K W D μ H (m ρ st)
def ME (X : Cx) (W : WX) (e : Expr) (m : Rho → M PV) : Prop := PE X e (tM (kw X) W m)
def MT (X : Cx) (W : WX) (e : Expr) (m : Rho → M Bool) : Prop := PT X e (tMT (kw X) W m)
def MW (X : Cx) (W : WX) (e : Expr) (m : Rho → M Bool) : Prop := PW X e (tMT (kw X) W m)
def MA (X : Cx) (W : WX) (es : List Expr) (m : Rho → M (List PV)) : Prop := PA X es (tMA (kw X) W m)
def MS (X : Cx) (W : WX) (s : Stmt) (m : Rho → M Fl) : Prop := PS X s (tMS (kw X) W m)
def MSs (X : Cx) (W : WX) (s : List Stmt) (m : Rho → M Fl) : Prop := PSs X s (tMS (kw X) W m)
section
variable {X : Cx}
theorem PE.imp {e : Expr} {t t' : TE} (h : PE X e t) (i : ∀ σ H Q, t' σ H Q → t σ H Q) : PE X e t' := ⟨fun pins s σ H Q I q => h.run pins s σ H Q I (i σ H Q q)⟩
theorem PT.imp {e : Expr} {t t' : TT} (h : PT X e t) (i : ∀ σ H Q, t' σ H Q → t σ H Q) : PT X e t' := ⟨fun pins s σ H Q I q => h.run pins s σ H Q I (i σ H Q q)⟩
theorem PW.imp {e : Expr} {t t' : TT} (h : PW X e t) (i : ∀ σ H Q, t' σ H Q → t σ H Q) : PW X e t' := ⟨fun wh pins s σ H Q I q => h.run wh pins s σ H Q I (i σ H Q q)⟩
theorem PA.imp {es : List Expr} {t t' : TA} (h : PA X es t) (i : ∀ σ H Q, t' σ H Q → t σ H Q) : PA X es t' := ⟨fun pos pins s σ H Q I q => h.run pos pins s σ H Q I (i σ H Q q)⟩
theorem PS.imp {st : Stmt} {t t' : TS} (h : PS X st t) (i : ∀ D σ H, t' D σ H → t D σ H) : PS X st t' := ⟨fun pins s σ H D I q => h.run pins s σ H D I (i D σ H q)⟩
theorem PSs.imp {st : List Stmt} {t t' : TS} (h : PSs X st t) (i : ∀ D σ H, t' D σ H → t D σ H) : PSs X st t' := ⟨fun pins s σ H D I q => h.run pins s σ H D I (i D σ H q)⟩
end
end MP

set_option maxRecDepth 100000
namespace MP
open PySem L2
section
variable {K : KW} {W : WX} {α β : Type}
def onErr (ρ : Rho) (m : M α) (k : α → M Fl) : M Fl := fun st => match m st with
  | .ok a st' => k a st'
  | .err x st' => .ok (.exc x ρ) st'
  | .bad => .bad
theorem PostS.onErr {R : Hp → Mu → α → β → Prop} {D : Ends} {μ : Mu} {H : Hp} {ρ : Rho} {σ : St} {m : M α} {k : α → M Fl} {st : Sto} (h : PostS K W D μ H (onErr ρ m k st)) (er : ER K H μ ρ σ) :
    PostG K (fun c d H' => W c d σ H') R (fun b H' => ∃ μ' st' a, Gr μ H μ' H' ∧ SR K μ' st' H' ∧ R H' μ' a b ∧ PostS K W D μ' H' (k a st')) μ H (m st) := by
  unfold MP.onErr at h
  cases e : m st with
  | ok a st' =>
    rw [e] at h
    exact fun μ' H' b g s r => ⟨μ', st', a, g, s, r, h.grow g⟩
  | err x st' =>
    rw [e] at h
    exact fun μ' H' d g s r => h μ' H' σ d g s (er.mono g) r
  | bad =>
    rw [e] at h
    exact h.elim
end

section
variable {X : Cx} {W : WX} {e a b : Expr} {pos : Pos}
theorem gl_of {x : Str} (h : X.env.kindOf x = some .globalImplicit) : Gl X x := h
def eVar (i : Nat) : Rho → M PV := fun ρ => match ρ[i]? with
  | some (some p) => M.ret p
  | _ => M.fail
def eC (p : PV) : Rho → M PV := fun _ => M.ret p
theorem me_var (i : Nat) {x : Str} (hN : X.N[i]? = some x := by kernel_rfl) (hv : Vis X.env.scope x := by first | exact Or.inl rfl | exact Or.inr (Or.inl rfl) | exact Or.inr (Or.inr rfl)) (hd : (x == ("__debug__" : Str)) = false := by kernel_rfl)
    (hcd : (x == ("__classdict__" : Str)) = false := by kernel_rfl) : ME X W (.Name x pos) (eVar i) := PE.imp (pv (X := X) (pos := pos) i hN hv hd hcd) fun σ H Q ⟨μ, st, ρ, er, sr, h⟩ => by
  unfold eVar at h
  cases e : ρ[i]? with
  | none => rw [e] at h; exact h.elim
  | some o =>
    rw [e] at h
    cases o with
    | none => exact h.elim
    | some p =>
      obtain ⟨v, h1, h2⟩ := er.get i p e
      exact ⟨v, h1, h μ H v (Gr.refl _ _) sr h2⟩
theorem me_c {p : PV} {v : V} (h : PE X e (tC v)) (r : ∀ H μ, VR X.K H μ p v) : ME X W e (eC p) := PE.imp h fun σ H Q ⟨μ, st, ρ, er, sr, q⟩ => q μ H v (Gr.refl _ _) sr (r H μ)
theorem me_int {i : Int} {j : Nat} : ME X W (.Constant (.int i) j pos) (eC (.int i)) := me_c pe_int fun _ _ => rfl
theorem me_bl {b : Bool} {j : Nat} : ME X W (.Constant (.bool b) j pos) (eC (.bl b)) := me_c pe_bl fun _ _ => rfl
theorem me_non {j : Nat} : ME X W (.Constant .none j pos) (eC .non) := me_c pe_non fun _ _ => rfl
theorem me_str {x : Str} {j : Nat} (l : List Nat) (h : x = ⟨l.toArray⟩) : ME X W (.Constant (.str x) j pos) (eC (.str l)) := me_c pe_str fun _ _ => by rw [h]; exact rfl
theorem me_globI {x : Str} {i : Int} {t : Tok} (hg : Gl X x) (hm : X.mg x = some (.int i t)) (hd : (x == ("__debug__" : Str)) = false := by kernel_rfl) : ME X W (.Name x pos) (eC (.int i)) :=
  me_c (pe_glob (v := .int i) hg hm ⟨t, rfl⟩ hd) fun _ _ => rfl
theorem me_globS {x : Str} {l : List Nat} {t : Tok} (hg : Gl X x) (hm : X.mg x = some (.str ⟨l.toArray⟩ t)) (hd : (x == ("__debug__" : Str)) = false := by kernel_rfl) : ME X W (.Name x pos) (eC (.str l)) :=
  me_c (pe_glob (v := .str ⟨l.toArray⟩) hg hm ⟨t, rfl⟩ hd) fun _ _ => rfl
theorem me_globR {x : Str} {a : Addr} (hg : Gl X x) (hm : X.mg x = some (.ref a)) (hd : (x == ("__debug__" : Str)) = false := by kernel_rfl) : ME X W (.Name x pos) (eC (.gl a)) :=
  me_c (pe_glob (v := .ref a) hg hm rfl hd) fun _ _ => rfl
theorem me_globT {x : Str} {a : Addr} {ps : List PV} {vs : List V} (hg : Gl X x) (hm : X.mg x = some (.ref a)) (hk : KT X.K a vs) (r : ∀ H μ, VRs X.K H μ ps vs) (hd : (x == ("__debug__" : Str)) = false := by kernel_rfl) : ME X W (.Name x pos) (eC (.tup ps)) :=
  me_c (pe_glob (v := .ref a) hg hm rfl hd) fun H μ => (show ∃ a' vs', V.ref a = .ref a' ∧ TupAt X.K H μ a' vs' ∧ VRs X.K H μ ps vs' from ⟨a, vs, rfl, .inr hk, r H μ⟩)
theorem me_ty {x : Str} {T : String} (hg : Gl X x) (hm : X.mg x = none) (hv : bootBuiltins x = some (.type T)) (hn : x ≠ "__name__" := by decide +kernel) (hd : (x == ("__debug__" : Str)) = false := by kernel_rfl) : ME X W (.Name x pos) (eC (.ty T)) :=
  me_c (pe_bltn (v := .ty T) hg hm hv rfl hn hd) fun _ _ => rfl

def T2 (K : KW) (r : R2) (g : PV → PV → M PV) : Prop :=
  ∀ (μ : Mu) (st : Sto) (H : Hp) (x y : PV) (u v : V) (E : XK) (Q : VK), SR K μ st H → VR K H μ x u → VR K H μ y v → PostG K E (VR K) Q μ H (g x y st) → r u v H Q
def T1 (K : KW) (r : V → Hp → VK → Prop) (g : PV → M PV) : Prop :=
  ∀ (μ : Mu) (st : Sto) (H : Hp) (x : PV) (u : V) (E : XK) (Q : VK), SR K μ st H → VR K H μ x u → PostG K E (VR K) Q μ H (g x st) → r u H Q
def TL (K : KW) (r : List V → Hp → VK → Prop) (g : List PV → M PV) : Prop :=
  ∀ (μ : Mu) (st : Sto) (H : Hp) (xs : List PV) (us : List V) (E : XK) (Q : VK), SR K μ st H → VRs K H μ xs us → PostG K E (VR K) Q μ H (g xs st) → r us H Q
def eBin (g : PV → PV → M PV) (ma mb : Rho → M PV) : Rho → M PV := fun ρ => M.bind (ma ρ) fun x => M.bind (mb ρ) fun y => g x y
def eUn (g : PV → M PV) (ma : Rho → M PV) : Rho → M PV := fun ρ => M.bind (ma ρ) g
theorem two_imp {ma mb : Rho → M PV} {g : PV → PV → M PV} {r : R2} (t : T2 (kw X) r g) : ∀ σ H Q, tM (kw X) W (eBin g ma mb) σ H Q → tOp r (tM (kw X) W ma) (tM (kw X) W mb) σ H Q := fun σ H Q ⟨μ, st, ρ, er, sr, h⟩ =>
  ⟨μ, st, ρ, er, sr, (PostG.bind h).mono fun u H1 ⟨μ1, st1, x, g1, s1, rx, h1⟩ => ⟨μ1, st1, ρ, er.mono g1, s1, (PostG.bind h1).mono fun v H2 ⟨μ2, st2, y, g2, s2, ry, h2⟩ => t μ2 st2 H2 x y u v _ Q s2 (VR.mono g2 x u rx) ry h2⟩⟩
theorem me_bin {op : Operator} {r : R2} {g : PV → PV → M PV} {ma mb : Rho → M PV} (ho : OpR X (binaryOp op) r) (t : T2 (kw X) r g) (ha : ME X W a ma) (hb : ME X W b mb) : ME X W (.BinOp a op b pos) (eBin g ma mb) :=
  PE.imp (pe_op ho ha hb) (two_imp t)
theorem me_cmp {op : CmpOp} {r : R2} {g : PV → PV → M PV} {ma mb : Rho → M PV} (ho : OpR X (compareOp op) r) (t : T2 (kw X) r g) (ha : ME X W a ma) (hb : ME X W b mb) (hm : behindInMarks op b = false) : ME X W (.Compare a [op] [b] pos) (eBin g ma mb) :=
  PE.imp (pe_cmpR ho ha hb hm) (two_imp t)
theorem me_un {op : UnaryOp} {r : V → Hp → VK → Prop} {g : PV → M PV} {ma : Rho → M PV} (ho : UnR X (unaryOp op) r) (t : T1 (kw X) r g) (ha : ME X W a ma) : ME X W (.UnaryOp op a pos) (eUn g ma) :=
  PE.imp (pe_un ho ha) fun σ H Q ⟨μ, st, ρ, er, sr, h⟩ => ⟨μ, st, ρ, er, sr, (PostG.bind h).mono fun u H1 ⟨μ1, st1, x, g1, s1, rx, h1⟩ => t μ1 st1 H1 x u _ Q s1 rx h1⟩
theorem me_ix {r : R2} {g : PV → PV → M PV} {ma mb : Rho → M PV} (ho : IxR X r) (t : T2 (kw X) r g) (ha : ME X W a ma) (hb : ME X W b mb) (hs : PlainIx b) : ME X W (.Subscript a b pos) (eBin g ma mb) :=
  PE.imp (pe_ix ho ha hb hs) (two_imp t)

def asB : PV → M Bool
  | .bl b => M.ret b
  | _ => M.fail
def eB (m : Rho → M PV) : Rho → M Bool := fun ρ => M.bind (m ρ) asB
theorem asB_post {K : KW} {E : XK} {Q : Bool → Hp → Prop} {μ : Mu} {H : Hp} {st : Sto} {p : PV} {v : V} (sr : SR K μ st H) (r : VR K H μ p v) (h : PostG K E (fun _ _ (a : Bool) b => a = b) Q μ H (asB p st)) : ∃ k, v = .bl k ∧ Q k H := by
  cases p with
  | bl b => exact ⟨b, r, h μ H b (Gr.refl _ _) sr rfl⟩
  | _ => exact h.elim
theorem test_imp {m : Rho → M PV} : ∀ σ H Q, tMT (kw X) W (eB m) σ H Q → tTest (tM (kw X) W m) σ H Q := fun σ H Q ⟨μ, st, ρ, er, sr, h⟩ =>
  ⟨μ, st, ρ, er, sr, (PostG.bind h).mono fun u H1 ⟨μ1, st1, x, g1, s1, rx, h1⟩ => asB_post s1 rx h1⟩
theorem mt_cmp {op : CmpOp} {r : R2} {g : PV → PV → M PV} {ma mb : Rho → M PV} (ho : OpR X (compareOp op) r) (t : T2 (kw X) r g) (ha : ME X W a ma) (hb : ME X W b mb) (hm : behindInMarks op b = false) : MT X W (.Compare a [op] [b] pos) (eB (eBin g ma mb)) :=
  PT.imp (pt_cmpR ho ha hb hm) fun σ H Q h => by
    have q := test_imp (X := X) (W := W) (m := eBin g ma mb) σ H Q h
    exact two_imp t σ H _ q
theorem mt_val {m : Rho → M PV} (h : ME X W e m) (he : ∀ whole, isTrue e X.env whole = (do let v ← whole; standAt e.pos; holding [v] (truthy v)) := by intro _; rfl) : MT X W e (eB m) :=
  PT.imp (pt_val h he) fun σ H Q h => test_imp (X := X) (W := W) (m := m) σ H Q h
variable {tA tB' : Rho → M Bool} {rest : List Expr}
def tAndM (t u : Rho → M Bool) : Rho → M Bool := fun ρ => M.bind (t ρ) fun c => if c = true then u ρ else M.ret false
def tOrM (t u : Rho → M Bool) : Rho → M Bool := fun ρ => M.bind (t ρ) fun c => if c = true then M.ret true else u ρ
def tNotM (t : Rho → M Bool) : Rho → M Bool := fun ρ => M.bind (t ρ) fun c => M.ret (!c)
theorem mw_and1 (ha : MT X W a tA) : MW X W (.BoolOp .And [a] pos) tA := pw_and1 ha
theorem mw_or1 (ha : MT X W a tA) : MW X W (.BoolOp .Or [a] pos) tA := pw_or1 ha
theorem mw_and (ha : MT X W a tA) (hb : MW X W (.BoolOp .And (b :: rest) pos) tB') : MW X W (.BoolOp .And (a :: b :: rest) pos) (tAndM tA tB') :=
  PW.imp (pw_and ha hb) fun σ H Q ⟨μ, st, ρ, er, sr, h⟩ => ⟨μ, st, ρ, er, sr, (PostG.bind h).mono fun c H1 ⟨μ1, st1, c', g1, s1, ec, h1⟩ => by
    subst ec
    cases c' with
    | true => rw [if_pos rfl] at h1 ⊢; exact ⟨μ1, st1, ρ, er.mono g1, s1, h1⟩
    | false => rw [if_neg Bool.false_ne_true] at h1 ⊢; exact h1 μ1 H1 false (Gr.refl _ _) s1 rfl⟩
theorem mw_or (ha : MT X W a tA) (hb : MW X W (.BoolOp .Or (b :: rest) pos) tB') : MW X W (.BoolOp .Or (a :: b :: rest) pos) (tOrM tA tB') :=
  PW.imp (pw_or ha hb) fun σ H Q ⟨μ, st, ρ, er, sr, h⟩ => ⟨μ, st, ρ, er, sr, (PostG.bind h).mono fun c H1 ⟨μ1, st1, c', g1, s1, ec, h1⟩ => by
    subst ec
    cases c' with
    | true => rw [if_pos rfl] at h1 ⊢; exact h1 μ1 H1 true (Gr.refl _ _) s1 rfl
    | false => rw [if_neg Bool.false_ne_true] at h1 ⊢; exact ⟨μ1, st1, ρ, er.mono g1, s1, h1⟩⟩
theorem mt_of (h : MW X W e tA) : MT X W e tA := PW.pt h
theorem mt_not (ha : MT X W a tA) : MT X W (.UnaryOp .Not a pos) (tNotM tA) :=
  PT.imp (pt_not ha) fun σ H Q ⟨μ, st, ρ, er, sr, h⟩ => ⟨μ, st, ρ, er, sr, (PostG.bind h).mono fun c H1 ⟨μ1, st1, c', g1, s1, ec, h1⟩ => by
    subst ec
    exact h1 μ1 H1 _ (Gr.refl _ _) s1 rfl⟩
def eAndV (ma mb : Rho → M PV) : Rho → M PV := fun ρ => M.bind (ma ρ) fun x => M.bind (asB x) fun c => if c = true then mb ρ else M.ret (.bl false)
def eOrV (ma mb : Rho → M PV) : Rho → M PV := fun ρ => M.bind (ma ρ) fun x => M.bind (asB x) fun c => if c = true then M.ret (.bl true) else mb ρ
def eNotV (ma : Rho → M PV) : Rho → M PV := fun ρ => M.bind (ma ρ) fun x => M.bind (asB x) fun c => M.ret (.bl (!c))
theorem asB_bind {α β : Type} {K : KW} {E : XK} {R : Hp → Mu → α → β → Prop} {Q : β → Hp → Prop} {μ : Mu} {H : Hp} {st : Sto} {p : PV} {v : V} {f : Bool → M α} (r : VR K H μ p v) (h : PostG K E R Q μ H (M.bind (asB p) f st)) :
    ∃ k, v = .bl k ∧ PostG K E R Q μ H (f k st) := by
  cases p with
  | bl b => exact ⟨b, r, h⟩
  | _ => exact h.elim
theorem me_one {op : BoolOp} {m : Rho → M PV} (h : ME X W a m) : ME X W (.BoolOp op [a] pos) m := pe_one h
theorem me_and {ma mb : Rho → M PV} (ha : ME X W a ma) (hb : ME X W (.BoolOp .And (b :: rest) pos) mb) : ME X W (.BoolOp .And (a :: b :: rest) pos) (eAndV ma mb) :=
  PE.imp (pe_and ha hb) fun σ H Q ⟨μ, st, ρ, er, sr, h⟩ => ⟨μ, st, ρ, er, sr, (PostG.bind h).mono fun u H1 ⟨μ1, st1, x, g1, s1, rx, h1⟩ => by
    obtain ⟨k, e, h2⟩ := asB_bind rx h1
    refine ⟨k, e, ?_⟩
    cases k with
    | true => rw [if_pos rfl] at h2 ⊢; exact ⟨μ1, st1, ρ, er.mono g1, s1, h2⟩
    | false => rw [if_neg Bool.false_ne_true] at h2 ⊢; exact h2 μ1 H1 _ (Gr.refl _ _) s1 rfl⟩
theorem me_or {ma mb : Rho → M PV} (ha : ME X W a ma) (hb : ME X W (.BoolOp .Or (b :: rest) pos) mb) : ME X W (.BoolOp .Or (a :: b :: rest) pos) (eOrV ma mb) :=
  PE.imp (pe_or ha hb) fun σ H Q ⟨μ, st, ρ, er, sr, h⟩ => ⟨μ, st, ρ, er, sr, (PostG.bind h).mono fun u H1 ⟨μ1, st1, x, g1, s1, rx, h1⟩ => by
    obtain ⟨k, e, h2⟩ := asB_bind rx h1
    refine ⟨k, e, ?_⟩
    cases k with
    | true => rw [if_pos rfl] at h2 ⊢; exact h2 μ1 H1 _ (Gr.refl _ _) s1 rfl
    | false => rw [if_neg Bool.false_ne_true] at h2 ⊢; exact ⟨μ1, st1, ρ, er.mono g1, s1, h2⟩⟩
theorem me_not {ma : Rho → M PV} (ha : ME X W a ma) : ME X W (.UnaryOp .Not a pos) (eNotV ma) :=
  PE.imp (pe_not ha) fun σ H Q ⟨μ, st, ρ, er, sr, h⟩ => ⟨μ, st, ρ, er, sr, (PostG.bind h).mono fun u H1 ⟨μ1, st1, x, g1, s1, rx, h1⟩ => by
    obtain ⟨k, e, h2⟩ := asB_bind rx h1
    exact ⟨k, e, h2 μ1 H1 _ (Gr.refl _ _) s1 rfl⟩⟩
def eIf (t : Rho → M Bool) (ma mb : Rho → M PV) : Rho → M PV := fun ρ => M.bind (t ρ) fun c => if c = true then ma ρ else mb ρ
theorem me_ifExp {c : Expr} {t : Rho → M Bool} {ma mb : Rho → M PV} (hc : MT X W c t) (ha : ME X W a ma) (hb : ME X W b mb) : ME X W (.IfExp c a b pos) (eIf t ma mb) :=
  PE.imp (pe_ifExp hc ha hb) fun σ H Q ⟨μ, st, ρ, er, sr, h⟩ => ⟨μ, st, ρ, er, sr, (PostG.bind h).mono fun c H1 ⟨μ1, st1, c', g1, s1, ec, h1⟩ => by
    subst ec
    cases c' with
    | true => rw [if_pos rfl] at h1 ⊢; exact ⟨μ1, st1, ρ, er.mono g1, s1, h1⟩
    | false => rw [if_neg Bool.false_ne_true] at h1 ⊢; exact ⟨μ1, st1, ρ, er.mono g1, s1, h1⟩⟩

def aNil : Rho → M (List PV) := fun _ => M.ret []
def aCons (m : Rho → M PV) (r : Rho → M (List PV)) : Rho → M (List PV) := fun ρ => M.bind (m ρ) fun x => M.bind (r ρ) fun xs => M.ret (x :: xs)
theorem ma_nil : MA X W [] aNil := PA.imp pa_nil fun σ H Q ⟨μ, st, ρ, er, sr, h⟩ => h μ H [] (Gr.refl _ _) sr rfl
theorem ma_cons {es : List Expr} {m : Rho → M PV} {r : Rho → M (List PV)} (ha : ME X W e m) (hr : MA X W es r) (hs : starEach (e :: es) X.env = (false, eval e X.env) :: starEach es X.env := by kernel_rfl) : MA X W (e :: es) (aCons m r) :=
  PA.imp (pa_cons ha hr hs) fun σ H Q ⟨μ, st, ρ, er, sr, h⟩ => ⟨μ, st, ρ, er, sr, (PostG.bind h).mono fun u H1 ⟨μ1, st1, x, g1, s1, rx, h1⟩ =>
    ⟨μ1, st1, ρ, er.mono g1, s1, (PostG.bind h1).mono fun us H2 ⟨μ2, st2, xs, g2, s2, rxs, h2⟩ => h2 μ2 H2 _ (Gr.refl _ _) s2 (VRs.cons (VR.mono g2 x u rx) rxs)⟩⟩
def spM (K : KW) (m : List PV → M PV) (n : Nat) : Sp := fun vs H Q E => ∃ μ st ps, SR K μ st H ∧ VRs K H μ ps vs ∧ ps.length = n ∧ PostG K E (VR K) Q μ H (m ps st)
def eCall (f : List PV → M PV) (m : Rho → M (List PV)) : Rho → M PV := fun ρ => M.bind (m ρ) f
def aLen (n : Nat) (m : Rho → M (List PV)) : Prop := ∀ ρ st xs st', m ρ st = .ok xs st' → xs.length = n
theorem aLen_nil : aLen 0 aNil := fun ρ st xs st' h => by cases h; rfl
theorem aLen_cons {n : Nat} {m : Rho → M PV} {r : Rho → M (List PV)} (h : aLen n r) : aLen (n + 1) (aCons m r) := fun ρ st xs st' e => by
  unfold aCons M.bind at e
  cases e1 : m ρ st with
  | ok a s1 =>
    rw [e1] at e
    dsimp only at e
    cases e2 : r ρ s1 with
    | ok b s2 =>
      rw [e2] at e
      cases e
      rw [List.length_cons, h ρ s1 b _ e2]
    | err x s2 => rw [e2] at e; cases e
    | bad => rw [e2] at e; cases e
  | err x s1 => rw [e1] at e; cases e
  | bad => rw [e1] at e; cases e
theorem PostG.lens {K : KW} {E : XK} {Q : List V → Hp → Prop} {μ : Mu} {H : Hp} {n : Nat} {m : Rho → M (List PV)} {ρ : Rho} {st : Sto} (hl : aLen n m) (h : PostG K E (fun H μ (ps : List PV) vs => VRs K H μ ps vs ∧ ps.length = n) Q μ H (m ρ st)) :
    PostG K E (VRs K) Q μ H (m ρ st) := by
  cases e : m ρ st with
  | ok a s' => rw [e] at h; exact fun μ' H' b g s r => h μ' H' b g s ⟨r, hl ρ st a s' e⟩
  | err x s' => rw [e] at h; exact h
  | bad => rw [e] at h; exact h
theorem me_call {x : Str} {f : Addr} {fd : FuncData} {ps : List Str} {k n : Nat} {p : Pos} {es : List Expr} {ma : Rho → M (List PV)} {mf : List PV → M PV} (F : FnOk X.prog X.w X.K X.mg X.base (L2.CX X.prog X.w) k f fd ps (spM (kw X) mf n)) (hr : Room k X.A) (hg : Gl X x) (hm : X.mg x = some (.ref f))
    (hk : PySem.W.keepIn X.K (.ref f) = true) (hb : Binds X.K fd ps []) (tk : Takes X W) (ha : MA X W (e :: es) ma) (hl : aLen n ma) (hdb : (x == ("__debug__" : Str)) = false := by kernel_rfl)
    (he : starEach (e :: es) X.env = (false, eval e X.env) :: starEach es X.env := by kernel_rfl) (hpl : (backTo pos (starEach es X.env)).any (·.1) = false := by kernel_rfl) :
    ME X W (.Call (.Name x p) (e :: es) [] pos) (eCall mf ma) :=
  PE.imp (pe_callSD (dvs := []) (ds := []) (E := WE W) F hr hg hm hk hb .nil (fun σ => passAt tk σ) ha hdb he hpl) fun σ H Q ⟨μ, st, ρ, er, sr, h⟩ =>
    ⟨μ, st, ρ, er, sr, PostG.lens hl ((PostG.bind h).mono fun us H1 ⟨μ1, st1, xs, g1, s1, ⟨rxs, hn⟩, h1⟩ => ⟨μ1, st1, xs, s1, by rw [List.append_nil]; exact rxs, hn, h1⟩)⟩
theorem me_callB {x : Str} {id : String} {r : List V → Hp → VK → Prop} {g : List PV → M PV} {p : Pos} {es : List Expr} {ma : Rho → M (List PV)} (hc : CallR X (.builtin id) r) (t : TL (kw X) r g) (hg : Gl X x) (hm : X.mg x = none) (hv : bootBuiltins x = some (.builtin id)) (ha : MA X W (e :: es) ma)
    (hn : x ≠ "__name__" := by decide +kernel) (hdb : (x == ("__debug__" : Str)) = false := by kernel_rfl) (he : starEach (e :: es) X.env = (false, eval e X.env) :: starEach es X.env := by kernel_rfl) (hpl : (backTo pos (starEach es X.env)).any (·.1) = false := by kernel_rfl) :
    ME X W (.Call (.Name x p) (e :: es) [] pos) (eCall g ma) :=
  PE.imp (pe_callB hc hg hm hv ha hn hdb he hpl) fun σ H Q ⟨μ, st, ρ, er, sr, h⟩ =>
    ⟨μ, st, ρ, er, sr, (PostG.bind h).mono fun us H1 ⟨μ1, st1, xs, g1, s1, rxs, h1⟩ => t μ1 st1 H1 xs us _ Q s1 rxs h1⟩
theorem me_callTy {x : Str} {T : String} {r : List V → Hp → VK → Prop} {g : List PV → M PV} {p : Pos} {es : List Expr} {ma : Rho → M (List PV)} (hc : CallR X (.type T) r) (t : TL (kw X) r g) (hg : Gl X x) (hm : X.mg x = none) (hv : bootBuiltins x = some (.type T)) (ha : MA X W (e :: es) ma)
    (hn : x ≠ "__name__" := by decide +kernel) (hdb : (x == ("__debug__" : Str)) = false := by kernel_rfl) (he : starEach (e :: es) X.env = (false, eval e X.env) :: starEach es X.env := by kernel_rfl) (hpl : (backTo pos (starEach es X.env)).any (·.1) = false := by kernel_rfl) :
    ME X W (.Call (.Name x p) (e :: es) [] pos) (eCall g ma) :=
  PE.imp (pe_callTy hc hg hm hv ha hn hdb he hpl) fun σ H Q ⟨μ, st, ρ, er, sr, h⟩ =>
    ⟨μ, st, ρ, er, sr, (PostG.bind h).mono fun us H1 ⟨μ1, st1, xs, g1, s1, rxs, h1⟩ => t μ1 st1 H1 xs us _ Q s1 rxs h1⟩
end

section
variable {X : Cx} {W : WX} {e a b : Expr} {pos : Pos} {s : Stmt} {rest : List Stmt} {m m' : Rho → M Fl} {me : Rho → M PV}
def sNext : Rho → M Fl := fun ρ => M.ret (.next ρ)
def sSeq (m m' : Rho → M Fl) : Rho → M Fl := fun ρ st => match m ρ st with
  | .ok (.next ρ') st' => m' ρ' st'
  | r => r
theorem mss_nil : MSs X W [] sNext := PSs.imp pss_nil fun D σ H ⟨μ, st, ρ, er, sr, h⟩ => h μ H σ (Gr.refl _ _) sr er
theorem mss_cons (h1 : MS X W s m) (h2 : MSs X W rest m') : MSs X W (s :: rest) (sSeq m m') :=
  PSs.imp (pss_cons h1 h2) fun D σ H ⟨μ, st, ρ, er, sr, h⟩ => ⟨μ, st, ρ, er, sr, by
    unfold sSeq at h
    cases q : m ρ st with
    | ok f st' =>
      rw [q] at h
      cases f with
      | next ρ' => exact fun μ' H' σ' g s' e' => ⟨μ', st', ρ', e', s', PostS.grow h g⟩
      | ret p => exact h
      | brk ρ' => exact h
      | cont ρ' => exact h
      | exc x ρ' => exact h
    | err x st' => rw [q] at h; exact h
    | bad => rw [q] at h; exact h⟩
theorem mss_one (h1 : MS X W s m) : MSs X W [s] m := PSs.imp (pss_one h1) fun _ _ _ h => h
def sPass : Rho → M Fl := fun ρ => M.ret (.next ρ)
def sBreak : Rho → M Fl := fun ρ => M.ret (.brk ρ)
def sCont : Rho → M Fl := fun ρ => M.ret (.cont ρ)
theorem ms_pass : MS X W (.Pass pos) sPass := PS.imp ps_pass fun D σ H ⟨μ, st, ρ, er, sr, h⟩ => h μ H σ (Gr.refl _ _) sr er
theorem ms_break : MS X W (.Break pos) sBreak := PS.imp ps_break fun D σ H ⟨μ, st, ρ, er, sr, h⟩ => h μ H σ (Gr.refl _ _) sr er
theorem ms_continue : MS X W (.Continue pos) sCont := PS.imp ps_continue fun D σ H ⟨μ, st, ρ, er, sr, h⟩ => h μ H σ (Gr.refl _ _) sr er
def sDrop (me : Rho → M PV) : Rho → M Fl := fun ρ => onErr ρ (me ρ) fun _ => M.ret (.next ρ)
theorem ms_expr (he : ME X W e me) (hs : swapsWith e none pos.line X.env = pure false := by kernel_rfl) : MS X W (.Expr e pos) (sDrop me) :=
  PS.imp (ps_expr he hs) fun D σ H ⟨μ, st, ρ, er, sr, h⟩ => ⟨μ, st, ρ, er, sr, (PostS.onErr h er).mono fun u H1 ⟨μ1, st1, x, g1, s1, rx, h1⟩ => h1 μ1 H1 σ (Gr.refl _ _) s1 (er.mono g1)⟩
def sRet (me : Rho → M PV) : Rho → M Fl := fun ρ => onErr ρ (me ρ) fun v => M.ret (.ret v)
theorem ms_ret (he : ME X W e me) : MS X W (.Return (some e) pos) (sRet me) :=
  PS.imp (ps_ret he) fun D σ H ⟨μ, st, ρ, er, sr, h⟩ => ⟨μ, st, ρ, er, sr, (PostS.onErr h er).mono fun u H1 ⟨μ1, st1, x, g1, s1, rx, h1⟩ => h1 μ1 H1 u (Gr.refl _ _) s1 rx⟩
def sRetN : Rho → M Fl := fun _ => M.ret (.ret .non)
theorem ms_retN : MS X W (.Return none pos) sRetN := PS.imp ps_retN fun D σ H ⟨μ, st, ρ, er, sr, h⟩ => h μ H .non (Gr.refl _ _) sr rfl
def sIf (t : Rho → M Bool) (m m' : Rho → M Fl) : Rho → M Fl := fun ρ => onErr ρ (t ρ) fun c => if c = true then m ρ else m' ρ
theorem ms_if {c : Expr} {sa sb : List Stmt} {t : Rho → M Bool} (hc : MT X W c t) (ha : MSs X W sa m) (hb : MSs X W sb m') : MS X W (.If c sa sb pos) (sIf t m m') :=
  PS.imp (ps_if hc ha hb) fun D σ H ⟨μ, st, ρ, er, sr, h⟩ => ⟨μ, st, ρ, er, sr, (PostS.onErr h er).mono fun c H1 ⟨μ1, st1, c', g1, s1, ec, h1⟩ => by
    subst ec
    cases c' with
    | true => rw [if_pos rfl] at h1 ⊢; exact ⟨μ1, st1, ρ, er.mono g1, s1, h1⟩
    | false => rw [if_neg Bool.false_ne_true] at h1 ⊢; exact ⟨μ1, st1, ρ, er.mono g1, s1, h1⟩⟩
abbrev GM := PV → Rho → M Rho
def tMG (K : KW) (W : WX) (g : GM) : TG := fun v σ H Q => ∃ μ st ρ p, ER K H μ ρ σ ∧ SR K μ st H ∧ VR K H μ p v ∧ PostG K (fun c d H' => W c d σ H') (ER K) Q μ H (g p ρ st)
def MG (X : Cx) (W : WX) (tg : Expr) (g : GM) : Prop := PG X tg (tMG (kw X) W g)
theorem PG.imp {tg : Expr} {t t' : TG} (h : PG X tg t) (i : ∀ v σ H Q, t' v σ H Q → t v σ H Q) : PG X tg t' := ⟨fun pins s σ H v u Q I r q => h.run pins s σ H v u Q I r (i v σ H Q q)⟩
def gN (i : Nat) : GM := fun p ρ => M.ret (ρ.set i (some p))
theorem mg_name {i : Nat} {x : Str} (hN : X.N.Nodup) (hi : X.N[i]? = some x) (hx : Loc X.env.scope x) (hf : X.fn x = true ∨ X.env.scope.names.lookup x = some .local := by first | exact .inl rfl | exact .inr rfl | assumption) : MG X W (.Name x pos) (gN i) :=
  PG.imp (pg_name hN hi hx hf) fun v σ H Q ⟨μ, st, ρ, p, er, sr, rv, h⟩ => h μ H _ (Gr.refl _ _) sr (er.set rv i)
abbrev GsM := List PV → Rho → M Rho
def tMGs (K : KW) (W : WX) (g : GsM) : TGs := fun vs σ H Q => ∃ μ st ρ ps, ER K H μ ρ σ ∧ SR K μ st H ∧ VRs K H μ ps vs ∧ PostG K (fun c d H' => False) (ER K) Q μ H (g ps ρ st)
def MGs (X : Cx) (W : WX) (tgs : List Expr) (g : GsM) : Prop := PGs X tgs (tMGs (kw X) W g)
theorem PGs.imp {tg : List Expr} {t t' : TGs} (h : PGs X tg t) (i : ∀ v σ H Q, t' v σ H Q → t v σ H Q) : PGs X tg t' := ⟨fun pins s σ H v u Q I r q => h.run pins s σ H v u Q I r (i v σ H Q q)⟩
def gsNil : GsM := fun ps ρ => match ps with
  | [] => M.ret ρ
  | _ => M.fail
def gsCons (g : GM) (r : GsM) : GsM := fun ps ρ => match ps with
  | p :: ps => M.bind (M.calm (g p ρ)) fun ρ1 => r ps ρ1
  | [] => M.fail
theorem mgs_nil : MGs X W [] gsNil := PGs.imp pgs_nil fun vs σ H Q ⟨μ, st, ρ, ps, er, sr, rv, h⟩ => by
  cases ps with
  | nil => exact ⟨rv, h μ H σ (Gr.refl _ _) sr er⟩
  | cons p ps => exact h.elim
theorem mgs_cons {es : List Expr} {g : GM} {r : GsM} (h1 : MG X W e g) (h2 : MGs X W es r) (hs : (assignEach (e :: es) X.env).map (·.2) = assign e X.env :: (assignEach es X.env).map (·.2) := by kernel_rfl) : MGs X W (e :: es) (gsCons g r) :=
  PGs.imp (pgs_cons h1 h2 hs) fun vs σ H Q ⟨μ, st, ρ, ps, er, sr, rv, h⟩ => by
    cases ps with
    | nil => exact h.elim
    | cons p ps =>
      obtain ⟨v, t, ev, rp, rt⟩ := (show ∃ v r, vs = v :: r ∧ VR X.K H μ p v ∧ VRs X.K H μ ps r from rv)
      refine ⟨v, t, ev, μ, st, ρ, p, er, sr, rp, ?_⟩
      have q := PostG.bind (R' := ER X.K) h
      exact (PostG.calm q).mono fun σ1 H1 ⟨μ1, st1, ρ1, g1, s1, e1, h3⟩ => ⟨μ1, st1, ρ1, ps, e1, s1, VRs.mono g1 ps t rt, h3⟩
def gT (n : Nat) (r : GsM) : GM := fun p ρ => match p with
  | .tup xs => if xs.length = n then M.calm (r xs ρ) else M.fail
  | _ => M.fail
theorem mg_tup {es : List Expr} {k n : Nat} {r : GsM} (hc : X.calm = true) (h : MGs X W es r) (hn : (assignEach es X.env).length = n := by kernel_rfl) (hst : (assignEach es X.env).findIdx? (·.1) = none := by kernel_rfl) : MG X W (.Tuple es k pos) (gT n r) :=
  PG.imp (pg_tup hc h hn hst) fun v σ H Q ⟨μ, st, ρ, p, er, sr, rv, h⟩ => by
    cases p with
    | tup xs =>
      obtain ⟨a, vs, ev, ta, rs⟩ := (show ∃ a vs, v = .ref a ∧ TupAt X.K H μ a vs ∧ VRs X.K H μ xs vs from rv)
      have h' : PostG (kw X) (fun c d H' => W c d σ H') (ER X.K) Q μ H ((if xs.length = n then M.calm (r xs ρ) else M.fail) st) := h
      by_cases hx : xs.length = n
      · rw [if_pos hx] at h'
        exact ⟨a, vs, ev, ta.sq, by rw [← VRs.length rs]; exact hx, μ, st, ρ, xs, er, sr, rs, PostG.calm h'⟩
      · rw [if_neg hx] at h'
        exact h'.elim
    | _ => exact h.elim
def gTL (n : Nat) (r : GsM) : GM := fun p ρ => match p with
  | .tup xs => if xs.length = n then M.calm (r xs ρ) else M.fail
  | .lst xs => if xs.length = n then M.calm (r xs ρ) else M.fail
  | _ => M.fail
theorem PG.or {tg : Expr} {t t' : TG} (h : PG X tg t) (h' : PG X tg t') : PG X tg (fun v σ H Q => t v σ H Q ∨ t' v σ H Q) := ⟨fun pins s σ H v u Q I r q => by
  rcases q with q | q
  · exact h.run pins s σ H v u Q I r q
  · exact h'.run pins s σ H v u Q I r q⟩
theorem mg_tupL {es : List Expr} {k n : Nat} {r : GsM} (hc : X.calm = true) (h : MGs X W es r) (hn : (assignEach es X.env).length = n := by kernel_rfl) (hst : (assignEach es X.env).findIdx? (·.1) = none := by kernel_rfl) : MG X W (.Tuple es k pos) (gTL n r) :=
  PG.imp (PG.or (pg_tup hc h hn hst) (pg_unl hc h hn hst)) fun v σ H Q ⟨μ, st, ρ, p, er, sr, rv, h⟩ => by
    cases p with
    | tup xs =>
      obtain ⟨a, vs, ev, ta, rs⟩ := (show ∃ a vs, v = .ref a ∧ TupAt X.K H μ a vs ∧ VRs X.K H μ xs vs from rv)
      have h' : PostG (kw X) (fun c d H' => W c d σ H') (ER X.K) Q μ H ((if xs.length = n then M.calm (r xs ρ) else M.fail) st) := h
      by_cases hx : xs.length = n
      · rw [if_pos hx] at h'
        exact .inl ⟨a, vs, ev, ta.sq, by rw [← VRs.length rs]; exact hx, μ, st, ρ, xs, er, sr, rs, PostG.calm h'⟩
      · rw [if_neg hx] at h'
        exact h'.elim
    | lst xs =>
      obtain ⟨a, vs, ev, ta, rs⟩ := (show ∃ a vs, v = .ref a ∧ LstAt H μ a vs ∧ VRs X.K H μ xs vs from rv)
      have h' : PostG (kw X) (fun c d H' => W c d σ H') (ER X.K) Q μ H ((if xs.length = n then M.calm (r xs ρ) else M.fail) st) := h
      by_cases hx : xs.length = n
      · rw [if_pos hx] at h'
        exact .inr ⟨a, vs, ev, ta.sq, by rw [← VRs.length rs]; exact hx, μ, st, ρ, xs, er, sr, rs, PostG.calm h'⟩
      · rw [if_neg hx] at h'
        exact h'.elim
    | _ => exact h.elim
def sAsg (me : Rho → M PV) (g : GM) : Rho → M Fl := fun ρ => onErr ρ (me ρ) fun v => onErr ρ (g v ρ) fun ρ' => M.ret (.next ρ')
theorem asg_imp {g : GM} {me : Rho → M PV} : ∀ D σ H, tMS (kw X) W (sAsg me g) D σ H → tAsg (tM (kw X) W me) (tMG (kw X) W g) D σ H := fun D σ H ⟨μ, st, ρ, er, sr, h⟩ =>
  ⟨μ, st, ρ, er, sr, (PostS.onErr h er).mono fun u H1 ⟨μ1, st1, x, g1, s1, rx, h1⟩ => ⟨μ1, st1, ρ, x, er.mono g1, s1, rx, (PostS.onErr h1 (er.mono g1)).mono fun σ2 H2 ⟨μ2, st2, ρ2, g2, s2, e2, h2⟩ => h2 μ2 H2 σ2 (Gr.refl _ _) s2 e2⟩⟩
theorem ms_asg {tg : Expr} {g : GM} (he : ME X W e me) (hg : MG X W tg g) (hs : swapsWithSole [tg] e pos.line X.env = pure false := by kernel_rfl) (hw : swappedStores [tg] e X.env = pure none := by kernel_rfl)
    (h1 : (assignEach [tg] X.env).map (·.2) = [assign tg X.env] := by kernel_rfl) : MS X W (.Assign [tg] e pos) (sAsg me g) := PS.imp (ps_asg he hg hs hw h1) asg_imp
def sSet (i : Nat) (me : Rho → M PV) : Rho → M Fl := fun ρ => onErr ρ (me ρ) fun v => M.ret (.next (ρ.set i (some v)))
theorem ms_set {i : Nat} {x : Str} {pos' : Pos} (hN : X.N.Nodup) (hi : X.N[i]? = some x) (hx : Loc X.env.scope x) (he : ME X W e me) (hs : swapsWith e (some (.Name x pos')) pos.line X.env = pure false := by kernel_rfl)
    (hf : X.fn x = true ∨ X.env.scope.names.lookup x = some .local := by first | exact .inl rfl | exact .inr rfl | assumption) : MS X W (.Assign [.Name x pos'] e pos) (sSet i me) :=
  PS.imp (ps_set hN hi hx he hs hf) fun D σ H ⟨μ, st, ρ, er, sr, h⟩ => ⟨μ, st, ρ, er, sr, (PostS.onErr h er).mono fun u H1 ⟨μ1, st1, x, g1, s1, rx, h1⟩ => h1 μ1 H1 _ (Gr.refl _ _) s1 ((er.mono g1).set rx i)⟩

def turnL (k : Rho → M Fl) (m : M Fl) : M Fl := fun st => match m st with
  | .ok (.next ρ') st' => k ρ' st'
  | .ok (.cont ρ') st' => k ρ' st'
  | .ok (.brk ρ') st' => .ok (.next ρ') st'
  | r => r
def forL (g : GM) (b : Rho → M Fl) : List PV → Rho → M Fl
  | [], ρ => M.ret (.next ρ)
  | p :: ps, ρ => onErr ρ (g p ρ) fun ρ1 => turnL (forL g b ps) (b ρ1)
def Sup (K : KW) (J : It) (ps : List PV) (μ0 : Mu) (H0 : Hp) : Prop :=
  ∀ μ H st, Gr μ0 H0 μ H → SR K μ st H → (∀ (i : Nat) (p : PV), ps[i]? = some p → J.go i H ∧ ∀ x H', J.yld i H x H' → Gr μ H μ H' ∧ SR K μ st H' ∧ VR K H' μ p x) ∧ J.stop ps.length H
theorem for_imp {K : KW} {W : WX} {D : Ends} {J : It} {ps : List PV} {g : GM} {b : Rho → M Fl} {μ : Mu} {H : Hp} {σ : St} {ρ : Rho} {st : Sto} (su : Sup K J ps μ H) (er : ER K H μ ρ σ) (sr : SR K μ st H) (h : PostS K W D μ H (forL g b ps ρ st)) :
    ∃ V : Nat → Nat → St → Hp → Prop, (∃ m, V 0 m σ H) ∧ ∀ i m σ H, V i m σ H →
      (J.stop i H ∧ D.nx σ H) ∨ (J.go i H ∧ ∃ N : St → Hp → Prop, (∀ σ' H', N σ' H' → ∃ m', m' < m ∧ V (i + 1) m' σ' H') ∧ ∀ x H', J.yld i H x H' → tMG K W g x σ H' fun σ2 H2 => tMS K W b { D with nx := N, ct := N, bk := D.nx } σ2 H2) := by
  refine ⟨fun i m σ' H' => m = ps.length - i ∧ i ≤ ps.length ∧ ∃ μ' st' ρ', Gr μ H μ' H' ∧ ER K H' μ' ρ' σ' ∧ SR K μ' st' H' ∧ PostS K W D μ' H' (forL g b (ps.drop i) ρ' st'), ⟨ps.length, by simp, Nat.zero_le _, μ, st, ρ, Gr.refl _ _, er, sr, by rw [List.drop_zero]; exact h⟩, ?_⟩
  rintro i m σ1 H1 ⟨rfl, hi, μ1, st1, ρ1, g1, e1, s1, h1⟩
  by_cases hlt : i < ps.length
  · have hp : ps[i]? = some ps[i] := by simp [hlt]
    obtain ⟨go, yl⟩ := (su μ1 H1 st1 g1 s1).1 i ps[i] hp
    refine .inr ⟨go, fun σ' H' => ∃ μ' st' ρ', Gr μ H μ' H' ∧ ER K H' μ' ρ' σ' ∧ SR K μ' st' H' ∧ PostS K W D μ' H' (forL g b (ps.drop (i + 1)) ρ' st'), fun σ' H' q => ⟨ps.length - (i + 1), by omega, rfl, hlt, q⟩, fun x H' y => ?_⟩
    obtain ⟨g2, s2, rx⟩ := yl x H' y
    rw [List.drop_eq_getElem_cons hlt] at h1
    unfold forL at h1
    refine ⟨μ1, st1, ρ1, ps[i], e1.mono g2, s2, rx, (PostS.onErr (PostS.grow h1 g2) (e1.mono g2)).mono fun σ3 H3 ⟨μ3, st3, ρ3, g3, s3, e3, h3⟩ => ⟨μ3, st3, ρ3, e3, s3, ?_⟩⟩
    have gg := (g1.trans g2 fun a m => (s2.ban a m).1).trans g3 fun a m => (s3.ban a m).1
    unfold turnL at h3
    cases q : b ρ3 st3 with
    | ok f st' =>
      rw [q] at h3
      cases f with
      | next ρ' => exact fun μ' H' σ' g4 s4 e4 => ⟨μ', st', ρ', gg.trans g4 (fun a m => (s4.ban a m).1), e4, s4, PostS.grow h3 g4⟩
      | cont ρ' => exact fun μ' H' σ' g4 s4 e4 => ⟨μ', st', ρ', gg.trans g4 (fun a m => (s4.ban a m).1), e4, s4, PostS.grow h3 g4⟩
      | brk ρ' => exact h3
      | ret p => exact h3
      | exc x ρ' => exact h3
    | err x st' => rw [q] at h3; exact h3
    | bad => rw [q] at h3; exact h3
  · have e : i = ps.length := by omega
    subst e
    rw [List.drop_length] at h1
    exact .inl ⟨(su μ1 H1 st1 g1 s1).2, h1 μ1 H1 σ1 (Gr.refl _ _) s1 e1⟩
def tMI (K : KW) (W : WX) (m : Rho → M (List PV)) : TI := fun σ H R => ∃ μ st ρ, ER K H μ ρ σ ∧ SR K μ st H ∧ PostG K (fun c d H' => W c d σ H') (fun H μ ps (J : It) => Sup K J ps μ H) R μ H (m ρ st)
def MI (X : Cx) (W : WX) (tg iter : Expr) (m : Rho → M (List PV)) : Prop := PI X tg iter (tMI (kw X) W m)
theorem PI.imp {tg iter : Expr} {t t' : TI} (h : PI X tg iter t) (i : ∀ σ H R, t' σ H R → t σ H R) : PI X tg iter t' := ⟨fun pins s σ H R I q => h.run pins s σ H R I (i σ H R q)⟩
def sFor (mi : Rho → M (List PV)) (g : GM) (b : Rho → M Fl) : Rho → M Fl := fun ρ => onErr ρ (mi ρ) fun ps => forL g b ps ρ
theorem ms_for {tg iter : Expr} {body : List Stmt} {mi : Rho → M (List PV)} {g : GM} (hp : PassesOwn (model X.prog X.w) X.A X.env X.xe) (hc : X.calm = true) (hi : MI X W tg iter mi) (hg : MG X W tg g) (hb : MSs X W body m)
    (hs : ∀ x, foldedSetIterable iter X.env x = pure x := by intro _; kernel_rfl) : MS X W (.For tg iter body [] pos) (sFor mi g m) :=
  PS.imp (ps_for hp hc hi hg hb hs) fun D σ H ⟨μ, st, ρ, er, sr, h⟩ => ⟨μ, st, ρ, er, sr, (PostS.onErr h er).mono fun J H1 ⟨μ1, st1, ps, g1, s1, su, h1⟩ => for_imp su (er.mono g1) s1 h1⟩
def whileF (t : Rho → M Bool) (b : Rho → M Fl) : Nat → Rho → M Fl
  | 0, _ => M.fail
  | n + 1, ρ => onErr ρ (t ρ) fun c => if c = true then turnL (whileF t b n) (b ρ) else M.ret (.next ρ)
theorem ms_while {c : Expr} {body : List Stmt} {t : Rho → M Bool} (n : Nat) (hp : PassesOwn (model X.prog X.w) X.A X.env X.xe) (hc : MT X W c t) (hb : MSs X W body m) : MS X W (.While c body [] pos) (whileF t m n) :=
  PS.imp (ps_while hp hc hb) fun D σ H h => by
    refine ⟨fun n σ H => tMS (kw X) W (whileF t m n) D σ H, ⟨n, h⟩, ?_⟩
    rintro n σ H ⟨μ, st, ρ, er, sr, h⟩
    cases n with
    | zero => exact h.elim
    | succ n =>
      unfold whileF at h
      refine ⟨μ, st, ρ, er, sr, (PostS.onErr h er).mono fun c H1 ⟨μ1, st1, c', g1, s1, ec, h1⟩ => ?_⟩
      subst ec
      cases c' with
      | false =>
        rw [if_neg Bool.false_ne_true] at h1 ⊢
        exact h1 μ1 H1 σ (Gr.refl _ _) s1 (er.mono g1)
      | true =>
        rw [if_pos rfl] at h1 ⊢
        refine ⟨fun σ' H' => tMS (kw X) W (whileF t m n) D σ' H', fun σ' H' q => ⟨n, Nat.lt_succ_self _, q⟩, μ1, st1, ρ, er.mono g1, s1, ?_⟩
        unfold turnL at h1
        cases q : m ρ st1 with
        | ok f st' =>
          rw [q] at h1
          cases f with
          | next ρ' => exact fun μ' H' σ' g4 s4 e4 => ⟨μ', st', ρ', e4, s4, PostS.grow h1 g4⟩
          | cont ρ' => exact fun μ' H' σ' g4 s4 e4 => ⟨μ', st', ρ', e4, s4, PostS.grow h1 g4⟩
          | brk ρ' => exact h1
          | ret p => exact h1
          | exc x ρ' => exact h1
        | err x st' => rw [q] at h1; exact h1
        | bad => rw [q] at h1; exact h1
end

def runB (m : Rho → M Fl) (n : Nat) (ps : List PV) : M PV := fun st => match m (ps.map some ++ List.replicate (n - ps.length) none) st with
  | .ok (.next _) st' => .ok .non st'
  | .ok (.ret p) st' => .ok p st'
  | .ok (.exc x _) st' => .err x st'
  | _ => .bad
theorem er_start {K : PySem.W.Frag} {H : Hp} {μ : Mu} {N : List Str} {ps : List PV} {vs : List V} (r : VRs K H μ ps vs) : ER K H μ (ps.map some ++ List.replicate (N.length - ps.length) none) (L2.start N vs) := by
  have hl := VRs.length r
  refine ⟨by unfold L2.start; simp [hl], fun i p h => ?_⟩
  by_cases hi : i < ps.length
  · rw [List.getElem?_append_left (by simpa using hi), List.getElem?_map] at h
    cases q : ps[i]? with
    | none => rw [q] at h; cases h
    | some p' =>
      rw [q] at h
      cases h
      obtain ⟨v, e1, e2⟩ := VRs.get r q
      refine ⟨v, ?_, e2⟩
      unfold L2.start
      rw [List.getElem?_append_left (by simpa [← hl] using hi), List.getElem?_map, e1]
      rfl
  · rw [List.getElem?_append_right (by simpa using hi), List.getElem?_replicate] at h
    split at h <;> cases h
theorem def_ok {P : Program} {w : World} {K : PySem.W.Frag} {mg : Str → Option Value} {base : Heap} {x qual : Str} {st : Stmt} {f : Addr} {fd : FuncData} {N ps : List Str} {k : Nat} {m : Rho → M Fl} (F : Fun K x qual st f fd) (S : FnScope N ps (defScope st))
    (hb : ∀ (cdv : Value) (A : Around) (outer : List Env) (s : Shared) (H : Hp) (E : XK), Room k (A.deeper (PyProof.Rows.envOfC qual (defScope st) s.heap.objs.size f cdv)) →
      MSs (cxOf (L2.CX P w) P w K mg base N qual (defScope st) f cdv A outer s H E) (fun c d _ H => E c d H) (defBody st) m) :
    FnOk P w K mg base (L2.CX P w) (k + 1) f fd ps (spM ⟨w, K⟩ (runB m N.length) ps.length) := by
  refine F.okX S (fun vs H Q E h => ?_) (fun cdv A outer s H vs Q E hr h => ?_)
  · obtain ⟨μ, st, qs, _, r, hn, _⟩ := h
    rw [← VRs.length r, hn]
  · refine ⟨_, hb cdv A outer s H E hr, ?_⟩
    obtain ⟨μ, st, qs, sr, r, hn, h⟩ := h
    refine ⟨μ, st, _, er_start r, sr, ?_⟩
    unfold runB at h
    cases q : m (qs.map some ++ List.replicate (N.length - qs.length) none) st with
    | ok fl st' =>
      rw [q] at h
      cases fl with
      | next ρ' => exact fun μ' H' σ' g s e => h μ' H' .non g s rfl
      | ret p => exact h
      | brk ρ' => exact h.elim
      | cont ρ' => exact h.elim
      | exc x ρ' => exact fun μ' H' σ' d g s e z => h μ' H' d g s z
    | err x st' => rw [q] at h; exact h.elim
    | bad => rw [q] at h; exact h.elim
end MP

set_option maxRecDepth 100000
set_option maxHeartbeats 4000000
namespace MP
open PySem L2 PySem.Spec PyProof.Rows
theorem tuple_mul1 (l : Addr) (items : Array Value) (n : Nat) (dd : Option Addr) (sl : Array (Option Value)) (u : Tok) :
    Meets (Builtin.«tuple.__mul__» ⟨[.ref l, .int 1 u], []⟩) (fun _ R s => s.heap.get? l = some { cls := .type "tuple", dict := dd, data := .seq items n, slots := sl } ∧ R (.ok (.ret (Value.ref l))) s) :=
  .of_wp fun prog w A R s h => by
    obtain ⟨hp, g, d, tk, os⟩ := s
    obtain ⟨hl, h⟩ := h
    have f1 := AutoSeq1.idx_int
    wp_walk using wpAny_loadPart' hl
    exact ⟨_, rfl, h⟩
theorem tuple_mul0 (l : Addr) (items : Array Value) (n : Nat) (dd : Option Addr) (sl : Array (Option Value)) (x : Int) (u : Tok) (c0 : (decide (x < -(2 ^ 63)) || decide (x ≥ 2 ^ 63)) = false) (c1 : (items.isEmpty || x == 1) = false) (c2 : (decide (x ≤ 0) || items.isEmpty) = true) :
    Meets (Builtin.«tuple.__mul__» ⟨[.ref l, .int x u], []⟩) (fun _ R s => s.heap.get? l = some { cls := .type "tuple", dict := dd, data := .seq items n, slots := sl } ∧
      R (.ok (.ret (Value.ref s.heap.objs.size))) { s with heap := s.heap.push { cls := Value.type "tuple", data := Data.seq #[] }, toks := s.toks }) :=
  .of_wp fun prog w A R s h => by
    obtain ⟨hp, g, d, tk, os⟩ := s
    obtain ⟨hl, h⟩ := h
    have f1 := AutoSeq1.idx_int
    wp_walk using wpAny_loadPart' hl
    repeat (first
      | (refine wpAny_ite_false (decide_eq_false (by rw [c0]; exact Bool.false_ne_true)) ?_; wp_walk using wpAny_loadPart' hl)
      | (refine wpAny_ite_false (decide_eq_false (by rw [c1]; exact Bool.false_ne_true)) ?_; wp_walk using wpAny_loadPart' hl)
      | (refine wpAny_ite_true (decide_eq_true (by rw [c2])) ?_; wp_walk using wpAny_loadPart' hl))
    exact ⟨_, rfl, h⟩
def rRepL (K : PySem.W.Frag) : R2 := fun x y H Q => ∃ l k xs, x = .ref l ∧ y = .int k ∧ SqT K H l xs ∧ ((k = 1 ∧ Q (.ref l) H) ∨ (xs ≠ [] ∧ k ≤ 0 ∧ -1000000 ≤ k ∧ ∀ p, H p = none → Q (.ref p) (upd H p (.tup []))))
theorem op_repL {X : Cx} : OpR X (binaryOp .Mult) (rRepL X.K) := by
  intro pins s σ H x y v u Q I rx ry h
  obtain ⟨l, k, xs, rfl, rfl, hT, h⟩ := h
  cases rx
  obtain ⟨t, rfl⟩ := ry
  obtain ⟨its, r, ⟨⟨cls, dd, data, sl⟩, ho, hc, n, hd⟩, hs⟩ := I.tuple hT
  simp only at hc hd
  subst hc hd
  have hle : its.length = xs.length := r.length.symm
  rcases h with ⟨rfl, q⟩ | ⟨hne, h1, h2, q⟩
  · refine wpAny_binaryOp_repeat_ref (T := "tuple") (U := "int") (by decide) ⟨_, ho, rfl⟩ (fun s' => typeIs_int s' 1 t) noFill_tuple_mul F.fills_int_mul F.slot_int_rmul repeat_tuple F.slot_int_index.lookup
      (call_meets F.slot_int_rmul (typeIs_int s 1 t) F.entry_int_rmul (F.args_int_rmul_2 _ _) (int_rmul_tuple 1 t l its.toArray n dd sl)
        ⟨ho, rfl, ⟨_, ho, rfl⟩, call_meets F.slot_tuple_mul ⟨_, ho, rfl⟩ F.entry_tuple_mul (F.args_tuple_mul_2 _ _) (tuple_mul1 l its.toArray n dd sl t) ⟨ho, ?_⟩⟩)
    exact ⟨.ref l, H, I, rfl, q⟩
  · have hn : its ≠ [] := fun e => hne (by
      rw [e] at hle
      exact List.eq_nil_of_length_eq_zero hle.symm)
    have hi : its.toArray.isEmpty = false := by
      cases its with
      | nil => exact absurd rfl hn
      | cons a b => rfl
    have c0 : (decide (k < -(2 ^ 63)) || decide (k ≥ 2 ^ 63)) = false := by
      rw [decide_eq_false (by omega), decide_eq_false (by omega)] <;> rfl
    have c1 : (its.toArray.isEmpty || k == 1) = false := by
      rw [hi, Bool.false_or]
      exact beq_eq_false_iff_ne.mpr (by omega)
    have c2 : (decide (k ≤ 0) || its.toArray.isEmpty) = true := by
      rw [hi, Bool.or_false]
      exact decide_eq_true (by omega)
    refine wpAny_binaryOp_repeat_ref (T := "tuple") (U := "int") (by decide) ⟨_, ho, rfl⟩ (fun s' => typeIs_int s' k t) noFill_tuple_mul F.fills_int_mul F.slot_int_rmul repeat_tuple F.slot_int_index.lookup
      (call_meets F.slot_int_rmul (typeIs_int s k t) F.entry_int_rmul (F.args_int_rmul_2 _ _) (int_rmul_tuple k t l its.toArray n dd sl)
        ⟨ho, rfl, ⟨_, ho, rfl⟩, call_meets F.slot_tuple_mul ⟨_, ho, rfl⟩ F.entry_tuple_mul (F.args_tuple_mul_2 _ _) (tuple_mul0 l its.toArray n dd sl k t c0 c1 c2) ⟨ho, ?_⟩⟩)
    refine ⟨.ref s.heap.objs.size, _, I.laid (t' := s.toks) (o := .tup []) (fun b ob q => Heap.get?_push_of_some _ q) (Nat.le_refl _) ?_, rfl, q _ (I.hok.fresh (Nat.le_refl _))⟩
    exact ⟨by rw [sizeLine_eq]; simp, _, .nil, IsTup.new _ _⟩
end MP

set_option maxRecDepth 100000
set_option maxHeartbeats 1000000
namespace MP
open PySem L2
abbrev SZ : Nat := 16777216
theorem sz_eq : sizeLine = SZ := sizeLine_eq
section
variable {K : KW} {H : Hp} {μ : Mu} {st : Sto} {E : XK} {Q : VK} {x y : PV} {u v : V}
theorem post_tup {ps : List PV} {vs : List V} {p : Addr} (sr : SR K μ st H) (r : VRs K H μ ps vs) (hp : H p = none) (h : PostG K E (VR K) Q μ H (.ok (.tup ps) st)) : Q (.ref p) (upd H p (.tup vs)) :=
  h μ _ _ (gr_new hp) (sr.new hp) (show ∃ a ws, V.ref p = .ref a ∧ TupAt K (upd H p (.tup vs)) μ a ws ∧ VRs K (upd H p (.tup vs)) μ ps ws from ⟨p, vs, rfl, .inl ⟨upd_same, sr.free hp⟩, VRs.mono (gr_new hp) ps vs r⟩)
theorem post_lst {ps : List PV} {vs : List V} {p : Addr} (sr : SR K μ st H) (r : VRs K H μ ps vs) (hp : H p = none) (h : PostG K E (VR K) Q μ H (.ok (.lst ps) st)) : Q (.ref p) (upd H p (.lst vs)) :=
  h μ _ _ (gr_new hp) (sr.new hp) (show ∃ a ws, V.ref p = .ref a ∧ LstAt (upd H p (.lst vs)) μ a ws ∧ VRs K (upd H p (.lst vs)) μ ps ws from ⟨p, vs, rfl, ⟨upd_same, sr.free hp⟩, VRs.mono (gr_new hp) ps vs r⟩)
theorem post_cell {c : Cell} {o : HO} {p : Addr} (h : PostG K E (VR K) Q μ H (.ok (.loc st.length) (st ++ [c]))) (sr : SR K μ st H) (hp : H p = none) (hc : CR K (upd H p o) (μ.add p) p c) : Q (.ref p) (upd H p o) :=
  h _ _ _ (gr_alloc hp) (sr.alloc hp hc) (show ∃ a, V.ref p = .ref a ∧ (μ.add p).l[st.length]? = some a from ⟨p, rfl, by rw [← sr.len]; simp [Mu.add]⟩)
theorem post_same {p : PV} (h : PostG K E (VR K) Q μ H (.ok p st)) (sr : SR K μ st H) (r : VR K H μ p v) : Q v H := h μ H v (Gr.refl _ _) sr r
theorem lst_at {K : PySem.W.Frag} {ps : List PV} (r : VR K H μ (.lst ps) v) : ∃ a vs, v = .ref a ∧ LstAt H μ a vs ∧ VRs K H μ ps vs := r
theorem frz_at {K : PySem.W.Frag} {ps : List PV} (r : VR K H μ (.frz ps) v) : ∃ a vs, v = .ref a ∧ FrzAt K H μ a vs ∧ VRs K H μ ps vs := r
theorem tup_at {K : PySem.W.Frag} {ps : List PV} (r : VR K H μ (.tup ps) v) : ∃ a vs, v = .ref a ∧ TupAt K H μ a vs ∧ VRs K H μ ps vs := r
theorem loc_at {K : PySem.W.Frag} {n : Nat} (r : VR K H μ (.loc n) v) : ∃ a, v = .ref a ∧ μ.l[n]? = some a := r
def listOf (p : PV) (st : Sto) : Option (List PV) := match p with
  | .lst xs => some xs
  | .loc n => match st[n]? with
    | some (.lst xs) => some xs
    | _ => none
  | _ => none
theorem listOf_at {ps : List PV} (sr : SR K μ st H) (r : VR K H μ x v) (h : listOf x st = some ps) : ∃ a vs, v = .ref a ∧ H a = some (.lst vs) ∧ VRs K H μ ps vs := by
  cases x with
  | lst xs =>
    cases h
    obtain ⟨a, vs, e, l, rs⟩ := lst_at r
    exact ⟨a, vs, e, l.1, rs⟩
  | loc n =>
    obtain ⟨a, e, ha⟩ := loc_at r
    unfold listOf at h
    dsimp only at h
    cases q : st[n]? with
    | none => rw [q] at h; cases h
    | some c =>
      rw [q] at h
      cases c with
      | lst xs =>
        cases h
        obtain ⟨vs, h1, h2⟩ := sr.cell n _ a q ha
        exact ⟨a, vs, e, h1, h2⟩
      | dct kvs => cases h
      | ins C fs => cases h
      | dcl kvs => cases h
      | dcn kvs => cases h
      | lck kvs => cases h
  | _ => cases h
def seqOf (p : PV) (st : Sto) : Option (List PV) := match p with
  | .lst xs => some xs
  | .frz xs => some xs
  | .tup xs => some xs
  | .loc n => match st[n]? with
    | some (.lst xs) => some xs
    | _ => none
  | _ => none
theorem seqOf_at {ps : List PV} (sr : SR K μ st H) (r : VR K H μ x v) (h : seqOf x st = some ps) : ∃ a vs, v = .ref a ∧ (SqL K H a vs ∨ SqT K H a vs) ∧ VRs K H μ ps vs := by
  cases x with
  | lst xs =>
    cases h
    obtain ⟨a, vs, e, l, rs⟩ := lst_at r
    exact ⟨a, vs, e, .inl l.sq, rs⟩
  | frz xs =>
    cases h
    obtain ⟨a, vs, e, l, rs⟩ := frz_at r
    exact ⟨a, vs, e, .inl l.sq, rs⟩
  | tup xs =>
    cases h
    obtain ⟨a, vs, e, l, rs⟩ := tup_at r
    exact ⟨a, vs, e, .inr l.sq, rs⟩
  | loc n =>
    obtain ⟨a, vs, e, l, rs⟩ := listOf_at sr r (show listOf (.loc n) st = some ps from h)
    exact ⟨a, vs, e, .inl (SqL.of l), rs⟩
  | _ => cases h
theorem VRs.atI {K : PySem.W.Frag} {ps : List PV} {vs : List V} {i : Int} {p : PV} (r : VRs K H μ ps vs) (h : L2.atI ps i = some p) : ∃ w, L2.atI vs i = some w ∧ VR K H μ p w := by
  unfold L2.atI at h ⊢
  rw [VRs.length r] at h
  cases q : ixN vs.length i with
  | none => rw [q] at h; cases h
  | some j =>
    rw [q] at h
    exact VRs.get r h
end

def addV (x y : PV) : M PV := match x, y with
  | .int i, .int j => M.ret (.int (i + j))
  | .str a, .str b => if a.length + b.length ≤ SZ then M.ret (.str (a ++ b)) else M.fail
  | .tup a, .tup b => if a.length + b.length ≤ SZ then M.ret (.tup (a ++ b)) else M.fail
  | x, y => fun st => match listOf x st, listOf y st with
    | some a, some b => if a.length + b.length ≤ SZ then .ok (.lst (a ++ b)) st else .bad
    | _, _ => .bad
def rAddM (K : PySem.W.Frag) : R2 := fun x y H Q => (∃ i j, x = .int i ∧ y = .int j ∧ Q (.int (i + j)) H) ∨ (∃ i j, x = .str i ∧ y = .str j ∧ i.length + j.length ≤ sizeLine ∧ Q (.str (i ++ j)) H) ∨ rCatA K x y H Q ∨ rCat x y H Q
theorem op_addM {X : Cx} : OpR X (binaryOp .Add) (rAddM X.K) := op_add.or (op_add_str.or (op_catA.or op_cat))
theorem str_app (a b : List Nat) : (⟨a.toArray⟩ : Str) ++ (⟨b.toArray⟩ : Str) = ⟨(a ++ b).toArray⟩ := by
  show (⟨a.toArray ++ b.toArray⟩ : Str) = ⟨(a ++ b).toArray⟩
  simp
theorem str_len (a : List Nat) : (⟨a.toArray⟩ : Str).length = a.length := by
  show a.toArray.size = a.length
  simp
theorem add_list {K : KW} {μ : Mu} {st : Sto} {H : Hp} {x y : PV} {u v : V} {E : XK} {Q : VK} (sr : SR K μ st H) (rx : VR K H μ x u) (ry : VR K H μ y v)
    (h : PostG K E (VR K) Q μ H (match listOf x st, listOf y st with
    | some a, some b => if a.length + b.length ≤ SZ then .ok (.lst (a ++ b)) st else .bad
    | _, _ => .bad)) : rCat u v H Q := by
  cases q1 : listOf x st with
  | none => rw [q1] at h; exact h.elim
  | some a =>
    cases q2 : listOf y st with
    | none => rw [q1, q2] at h; exact h.elim
    | some b =>
      rw [q1, q2] at h
      dsimp only at h
      by_cases hz : a.length + b.length ≤ SZ
      · rw [if_pos hz] at h
        obtain ⟨p, vs, rfl, h1, r1⟩ := listOf_at sr rx q1
        obtain ⟨p', vs', rfl, h2, r2⟩ := listOf_at sr ry q2
        exact ⟨p, p', vs, vs', rfl, rfl, h1, h2, by rw [← VRs.length r1, ← VRs.length r2, sz_eq]; exact hz, fun q hq => post_lst sr (VRs.append r1 r2) hq h⟩
      · rw [if_neg hz] at h
        exact h.elim
theorem t_add {K : KW} : T2 K (rAddM K) addV := by
  intro μ st H x y u v E Q sr rx ry h
  cases x with
  | int i =>
    cases y with
    | int j =>
      cases (show u = V.int _ from rx); cases (show v = V.int _ from ry)
      exact .inl ⟨_, _, rfl, rfl, post_same h sr rfl⟩
    | _ => exact .inr (.inr (.inr (add_list sr rx ry h)))
  | str a =>
    cases y with
    | str b =>
      cases (show u = V.str ⟨a.toArray⟩ from rx); cases (show v = V.str ⟨b.toArray⟩ from ry)
      unfold addV at h
      dsimp only at h
      by_cases hz : a.length + b.length ≤ SZ
      · rw [if_pos hz] at h
        exact .inr (.inl ⟨_, _, rfl, rfl, by rw [str_len, str_len, sz_eq]; exact hz, by rw [str_app]; exact post_same h sr rfl⟩)
      · rw [if_neg hz] at h
        exact h.elim
    | _ => exact .inr (.inr (.inr (add_list sr rx ry h)))
  | tup a =>
    cases y with
    | tup b =>
      obtain ⟨p, vs, rfl, h1, r1⟩ := tup_at rx
      obtain ⟨p', vs', rfl, h2, r2⟩ := tup_at ry
      unfold addV at h
      dsimp only at h
      by_cases hz : a.length + b.length ≤ SZ
      · rw [if_pos hz] at h
        refine .inr (.inr (.inl ⟨p, p', vs, vs', rfl, rfl, h1.sq, h2.sq, by rw [← VRs.length r1, ← VRs.length r2, sz_eq]; exact hz, fun e => ?_, fun _ e => ?_, fun _ _ q hq => post_tup sr (VRs.append r1 r2) hq h⟩))
        · have ea : a = [] := (VRs.nil_iff r1).mp e
          subst ea
          exact post_same h sr ry
        · have eb : b = [] := (VRs.nil_iff r2).mp e
          subst eb
          rw [List.append_nil] at h
          exact post_same h sr rx
      · rw [if_neg hz] at h
        exact h.elim
    | _ => exact .inr (.inr (.inr (add_list sr rx ry h)))
  | _ => exact .inr (.inr (.inr (add_list sr rx ry h)))
def subV (x y : PV) : M PV := match x, y with
  | .int i, .int j => M.ret (.int (i - j))
  | _, _ => M.fail
theorem t_sub {K : KW} : T2 K (rI0 fun i j => .int (i - j)) subV := by
  intro μ st H x y u v E Q sr rx ry h
  unfold subV at h
  split at h
  · cases (show u = V.int _ from rx); cases (show v = V.int _ from ry)
    exact ⟨_, _, rfl, rfl, post_same h sr rfl⟩
  · exact h.elim
def mulOk (i j : Int) : Bool := decide (-18446744073709551616 < i ∧ i < 18446744073709551616) || decide (-18446744073709551616 < j ∧ j < 18446744073709551616)
def mulV (x y : PV) : M PV := match x, y with
  | .int i, .int j => if mulOk i j = true then M.ret (.int (i * j)) else M.fail
  | .tup a, .int k => if a ≠ [] ∧ -1000000 ≤ k ∧ k ≤ 1000 ∧ a.length ≤ 1000 then M.ret (.tup (List.replicate k.toNat a).flatten) else M.fail
  | _, _ => M.fail
theorem VRs.rep {K : PySem.W.Frag} {H : Hp} {μ : Mu} {ps : List PV} {vs : List V} (r : VRs K H μ ps vs) : ∀ k : Nat, VRs K H μ (List.replicate k ps).flatten (List.replicate k vs).flatten
  | 0 => rfl
  | k + 1 => by
    rw [List.replicate_succ, List.replicate_succ, List.flatten_cons, List.flatten_cons]
    exact VRs.append r (VRs.rep r k)
theorem t_mul {K : KW} : T2 K (fun x y H Q => rI CMul (fun i j => .int (i * j)) x y H Q ∨ (rRepT K x y H Q ∨ rRepL K x y H Q)) mulV := by
  intro μ st H x y u v E Q sr rx ry h
  unfold mulV at h
  split at h
  · rename_i i j
    cases (show u = V.int i from rx); cases (show v = V.int j from ry)
    by_cases hz : mulOk i j = true
    · rw [if_pos hz] at h
      refine .inl ⟨_, _, rfl, rfl, ?_, post_same h sr rfl⟩
      unfold mulOk at hz
      rw [Bool.or_eq_true, decide_eq_true_eq, decide_eq_true_eq] at hz
      exact hz
    · rw [if_neg hz] at h
      exact h.elim
  · rename_i a k
    obtain ⟨p, vs, rfl, h1, r1⟩ := tup_at rx
    cases (show v = V.int k from ry)
    by_cases hz : a ≠ [] ∧ -1000000 ≤ k ∧ k ≤ 1000 ∧ a.length ≤ 1000
    · rw [if_pos hz] at h
      have hn : vs ≠ [] := fun e => hz.1 ((VRs.nil_iff r1).mp e)
      by_cases h2 : 2 ≤ k
      · exact .inr (.inl ⟨p, k, vs, rfl, rfl, h1.sq, hn, h2, hz.2.2.1, by rw [← VRs.length r1]; exact hz.2.2.2, fun q hq => post_tup sr (VRs.rep r1 _) hq h⟩)
      · by_cases h3 : k = 1
        · subst h3
          have e : (List.replicate (1 : Int).toNat a).flatten = a := by simp
          rw [e] at h
          exact .inr (.inr ⟨p, 1, vs, rfl, rfl, h1.sq, .inl ⟨rfl, post_same h sr rx⟩⟩)
        · have e : (List.replicate k.toNat a).flatten = [] := by rw [show k.toNat = 0 by omega]; rfl
          rw [e] at h
          exact .inr (.inr ⟨p, k, vs, rfl, rfl, h1.sq, .inr ⟨hn, by omega, hz.2.1, fun q hq => post_tup (ps := []) sr (show VRs K H μ [] [] from rfl) hq h⟩⟩)
    · rw [if_neg hz] at h
      exact h.elim
  · exact h.elim
def fdivV (x y : PV) : M PV := match x, y with
  | .int i, .int j => if (j ≠ 0 ∧ j.natAbs < 1073741824) ∨ (0 < j ∧ j.natAbs.log2 < 9000) then M.ret (.int (i.fdiv j)) else M.fail
  | _, _ => M.fail
theorem t_fdiv {K : KW} : T2 K (fun x y H Q => rI CDivN (fun i j => .int (i.fdiv j)) x y H Q ∨ rI CDivW (fun i j => .int (i / j)) x y H Q) fdivV := by
  intro μ st H x y u v E Q sr rx ry h
  unfold fdivV at h
  split at h
  · rename_i i j
    cases (show u = V.int i from rx); cases (show v = V.int j from ry)
    by_cases hz : (j ≠ 0 ∧ j.natAbs < 1073741824) ∨ (0 < j ∧ j.natAbs.log2 < 9000)
    · rw [if_pos hz] at h
      rcases hz with hz | hz
      · exact .inl ⟨_, _, rfl, rfl, hz, post_same h sr rfl⟩
      · refine .inr ⟨_, _, rfl, rfl, hz, ?_⟩
        have q := post_same (v := V.int (i.fdiv j)) h sr rfl
        rw [Int.fdiv_eq_ediv_of_nonneg i (by omega)] at q
        exact q
    · rw [if_neg hz] at h
      exact h.elim
  · exact h.elim
def modV (x y : PV) : M PV := match x, y with
  | .int i, .int j => if j ≠ 0 then M.ret (.int (i.fmod j)) else M.fail
  | _, _ => M.fail
theorem t_mod {K : KW} : T2 K (rI (fun _ j => j ≠ 0) fun i j => .int (i.fmod j)) modV := by
  intro μ st H x y u v E Q sr rx ry h
  unfold modV at h
  split at h
  · rename_i i j
    cases (show u = V.int i from rx); cases (show v = V.int j from ry)
    by_cases hz : j ≠ 0
    · rw [if_pos hz] at h
      exact ⟨_, _, rfl, rfl, hz, post_same h sr rfl⟩
    · rw [if_neg hz] at h
      exact h.elim
  · exact h.elim
def powV (x y : PV) : M PV := match x, y with
  | .int i, .int j => if 0 ≤ j ∧ j ≤ 1000000 ∧ i.natAbs < 18446744073709551616 then M.ret (.int (i ^ j.toNat)) else M.fail
  | _, _ => M.fail
theorem t_pow {K : KW} : T2 K (rI CPow fun i j => .int (i ^ j.toNat)) powV := by
  intro μ st H x y u v E Q sr rx ry h
  unfold powV at h
  split at h
  · rename_i i j
    cases (show u = V.int i from rx); cases (show v = V.int j from ry)
    by_cases hz : 0 ≤ j ∧ j ≤ 1000000 ∧ i.natAbs < 18446744073709551616
    · rw [if_pos hz] at h
      exact ⟨_, _, rfl, rfl, hz, post_same h sr rfl⟩
    · rw [if_neg hz] at h
      exact h.elim
  · exact h.elim
def negV (x : PV) : M PV := match x with
  | .int i => M.ret (.int (-i))
  | _ => M.fail
theorem t_neg {K : KW} : T1 K (rU fun i => .int (-i)) negV := by
  intro μ st H x u E Q sr rx h
  unfold negV at h
  split at h
  · cases (show u = V.int _ from rx)
    exact ⟨_, rfl, post_same h sr rfl⟩
  · exact h.elim
section
variable {X : Cx} {W : WX} {a b : Expr} {pos : Pos} {ma mb : Rho → M PV}
theorem me_add (ha : ME X W a ma) (hb : ME X W b mb) : ME X W (.BinOp a .Add b pos) (eBin addV ma mb) := me_bin op_addM t_add ha hb
theorem me_sub (ha : ME X W a ma) (hb : ME X W b mb) : ME X W (.BinOp a .Sub b pos) (eBin subV ma mb) := me_bin op_sub t_sub ha hb
theorem me_mul (ha : ME X W a ma) (hb : ME X W b mb) : ME X W (.BinOp a .Mult b pos) (eBin mulV ma mb) := me_bin (op_mul.or (op_repT.or op_repL)) t_mul ha hb
theorem me_fdiv (ha : ME X W a ma) (hb : ME X W b mb) : ME X W (.BinOp a .FloorDiv b pos) (eBin fdivV ma mb) := me_bin (op_fdivN.or op_fdivW) t_fdiv ha hb
theorem me_mod (ha : ME X W a ma) (hb : ME X W b mb) : ME X W (.BinOp a .Mod b pos) (eBin modV ma mb) := me_bin op_modN t_mod ha hb
theorem me_pow (ha : ME X W a ma) (hb : ME X W b mb) : ME X W (.BinOp a .Pow b pos) (eBin powV ma mb) := me_bin op_pow t_pow ha hb
theorem me_neg (ha : ME X W a ma) : ME X W (.UnaryOp .USub a pos) (eUn negV ma) := me_un un_neg t_neg ha
end
def ltV (p : Int → Int → Bool) (x y : PV) : M PV := match x, y with
  | .int i, .int j => M.ret (.bl (p i j))
  | _, _ => M.fail
theorem t_cmpI {K : KW} (p : Int → Int → Bool) : T2 K (rI0 fun i j => .bl (p i j)) (ltV p) := by
  intro μ st H x y u v E Q sr rx ry h
  unfold ltV at h
  split at h
  · cases (show u = V.int _ from rx); cases (show v = V.int _ from ry)
    exact ⟨_, _, rfl, rfl, post_same h sr rfl⟩
  · exact h.elim
abbrev ltI : PV → PV → M PV := ltV fun i j => decide (i < j)
abbrev leI : PV → PV → M PV := ltV fun i j => decide (i ≤ j)
abbrev gtI : PV → PV → M PV := ltV fun i j => decide (j < i)
abbrev geI : PV → PV → M PV := ltV fun i j => decide (j ≤ i)
mutual
def eqb : PV → PV → Bool
  | .non, .non => true
  | .bl a, .bl b => a == b
  | .bl a, .int j => (if a then 1 else 0) == j
  | .int i, .bl b => i == (if b then 1 else 0)
  | .int i, .int j => i == j
  | .str x, .str y => x == y
  | .lst xs, .lst ys => eqbs xs ys
  | .tup xs, .tup ys => eqbs xs ys
  | _, _ => false
def eqbs : List PV → List PV → Bool
  | [], [] => true
  | x :: xs, y :: ys => eqb x y && eqbs xs ys
  | _, _ => false
end
mutual
def toD : PV → Option PyData
  | .non => some .none
  | .bl b => some (.bool b)
  | .int i => some (.int i)
  | .str x => some (.str ⟨x.toArray⟩)
  | .lst xs => (toDs xs).map .list
  | .tup xs => (toDs xs).map .tuple
  | _ => none
def toDs : List PV → Option (List PyData)
  | [] => some []
  | x :: xs => match toD x, toDs xs with
    | some d, some ds => some (d :: ds)
    | _, _ => none
end
end MP

set_option maxRecDepth 100000
set_option maxHeartbeats 1000000
namespace MP
open PySem L2
def lookP : List (PV × PV) → PV → Option PV
  | [], _ => none
  | p :: r, k => if p.1 = k then some p.2 else lookP r k
def putP (kvs : List (PV × PV)) (k v : PV) : List (PV × PV) :=
  if (kvs.any fun kv => decide (kv.1 = k)) = true then kvs.map (fun kv => if kv.1 = k then (kv.1, v) else kv) else kvs ++ [(k, v)]
section
variable {K : PySem.W.Frag} {H : Hp} {μ : Mu}
theorem valueAt_nil {κ : Type} [DecidableEq κ] {k : κ} : valueAt ([] : List (κ × Value)) k = none := rfl
theorem valueAt_pos {κ : Type} [DecidableEq κ] {x : κ × Value} {r : List (κ × Value)} {k : κ} (e : x.1 = k) : valueAt (x :: r) k = some x.2 := by simp [valueAt, List.find?_cons, e]
theorem valueAt_neg {κ : Type} [DecidableEq κ] {x : κ × Value} {r : List (κ × Value)} {k : κ} (e : ¬ x.1 = k) : valueAt (x :: r) k = valueAt r k := by simp [valueAt, List.find?_cons, e]
theorem atKey_pos {κ : Type} [DecidableEq κ] {x : κ × Addr × Value} {r : List (κ × Addr × Value)} {k : κ} (e : x.1 = k) : atKey (x :: r) k = some x.2 := by simp [atKey, List.find?_cons, e]
theorem atKey_neg {κ : Type} [DecidableEq κ] {x : κ × Addr × Value} {r : List (κ × Addr × Value)} {k : κ} (e : ¬ x.1 = k) : atKey (x :: r) k = atKey r k := by simp [atKey, List.find?_cons, e]
theorem lf_dec {p k : PV} {x l : Leaf} (h : lfOf p = some x) (hk : lfOf k = some l) : (x = l) = (p = k) := by
  refine propext ⟨fun e => ?_, fun e => ?_⟩
  · rw [← e] at hk; exact lfOf_inj h hk
  · rw [e, hk] at h; exact (Option.some.inj h).symm
theorem nk_dec {p k : PV} {x l : NestedKey} (h : nkT p = some x) (hk : nkT k = some l) : (x = l) = (p = k) := by
  refine propext ⟨fun e => ?_, fun e => ?_⟩
  · rw [← e] at hk; exact nkT_inj h hk
  · rw [e, hk] at h; exact (Option.some.inj h).symm
theorem LRs.look {k : PV} {l : Leaf} (hk : lfOf k = some l) {kvs : List (PV × PV)} {xs : List (Leaf × Value)} (r : LRs K H μ kvs xs) :
    ∃ o : Option V, RelO o (valueAt xs l) ∧ (∀ p, lookP kvs k = some p → ∃ v, o = some v ∧ VR K H μ p v) ∧ (lookP kvs k = none → o = none) := by
  unfold LRs at r
  induction r with
  | nil => exact ⟨none, trivial, fun p h => (by cases h), fun _ => rfl⟩
  | @cons p x ps xs h t ih =>
    obtain ⟨h1, v, h2, h3⟩ := h
    unfold lookP
    by_cases e : p.1 = k
    · have e' : x.1 = l := by rw [lf_dec h1 hk]; exact e
      rw [if_pos e, valueAt_pos e']
      exact ⟨some v, h3, fun q hq => by cases hq; exact ⟨v, rfl, h2⟩, fun h => (by cases h)⟩
    · have e' : ¬ x.1 = l := by rw [lf_dec h1 hk]; exact e
      rw [if_neg e, valueAt_neg e']
      exact ih
theorem NRs.look {k : PV} {l : NestedKey} (hk : nkT k = some l) {kvs : List (PV × PV)} {xs : List (NestedKey × Addr × Value)} (r : NRs K H μ kvs xs) :
    ∃ o : Option V, RelO o ((atKey xs l).map (·.2)) ∧ (∀ p, lookP kvs k = some p → ∃ v, o = some v ∧ VR K H μ p v) ∧ (lookP kvs k = none → o = none) := by
  unfold NRs at r
  induction r with
  | nil => exact ⟨none, trivial, fun p h => (by cases h), fun _ => rfl⟩
  | @cons p x ps xs h t ih =>
    obtain ⟨h1, _, v, h2, h3⟩ := h
    unfold lookP
    by_cases e : p.1 = k
    · have e' : x.1 = l := by rw [nk_dec h1 hk]; exact e
      rw [if_pos e, atKey_pos e']
      exact ⟨some v, h3, fun q hq => by cases hq; exact ⟨v, rfl, h2⟩, fun h => (by cases h)⟩
    · have e' : ¬ x.1 = l := by rw [nk_dec h1 hk]; exact e
      rw [if_neg e, atKey_neg e']
      exact ih
theorem LRs.any {k : PV} {l : Leaf} (hk : lfOf k = some l) {kvs : List (PV × PV)} {xs : List (Leaf × Value)} (r : LRs K H μ kvs xs) : (xs.any fun x => decide (x.1 = l)) = (kvs.any fun x => decide (x.1 = k)) := by
  unfold LRs at r
  induction r with
  | nil => rfl
  | cons h t ih => rw [List.any_cons, List.any_cons, ih]; simp only [lf_dec h.1 hk]
theorem NRs.any {k : PV} {l : NestedKey} (hk : nkT k = some l) {kvs : List (PV × PV)} {xs : List (NestedKey × Addr × Value)} (r : NRs K H μ kvs xs) : (atKey xs l).isSome = (kvs.any fun x => decide (x.1 = k)) := by
  unfold NRs at r
  induction r with
  | nil => rfl
  | @cons p x ps xs h t ih =>
    rw [List.any_cons]
    by_cases e : p.1 = k
    · have e' : x.1 = l := by rw [nk_dec h.1 hk]; exact e
      rw [atKey_pos e', decide_eq_true e]; rfl
    · have e' : ¬ x.1 = l := by rw [nk_dec h.1 hk]; exact e
      rw [atKey_neg e', decide_eq_false e, ih]; rfl
theorem LRs.put {k p : PV} {l : Leaf} {v : V} {r : Value} (hk : lfOf k = some l) (rp : VR K H μ p v) (rv : RelV v r) {kvs : List (PV × PV)} {xs : List (Leaf × Value)} (h : LRs K H μ kvs xs) : LRs K H μ (putP kvs k p) (stored xs l r) := by
  unfold putP stored
  rw [h.any hk]
  split
  · next hsome =>
    clear hsome
    unfold LRs at h ⊢
    induction h with
    | nil => exact .nil
    | @cons q x qs xs h t ih =>
      rw [List.map_cons, List.map_cons]
      refine .cons ?_ ih
      simp only [lf_dec h.1 hk]
      by_cases e : q.1 = k
      · rw [if_pos e, if_pos e]; exact ⟨h.1, v, rp, rv⟩
      · rw [if_neg e, if_neg e]; exact h
  · exact Paired.snoc h ⟨hk, v, rp, rv⟩
theorem NRs.put {k p : PV} {l : NestedKey} {b : Addr} {v : V} {r : Value} (hk : nkT k = some l) (rk : VR K H μ k (.ref b)) (rp : VR K H μ p v) (rv : RelV v r) {kvs : List (PV × PV)} {xs : List (NestedKey × Addr × Value)} (h : NRs K H μ kvs xs) :
    NRs K H μ (putP kvs k p) (storedH xs l b r) := by
  unfold putP storedH
  rw [h.any hk]
  split
  · next hsome =>
    clear hsome
    unfold NRs at h ⊢
    induction h with
    | nil => exact .nil
    | @cons q x qs xs h t ih =>
      rw [List.map_cons, List.map_cons]
      refine .cons ?_ ih
      unfold putAt
      simp only [nk_dec h.1 hk]
      by_cases e : q.1 = k
      · rw [if_pos e, if_pos e]; exact ⟨h.1, h.2.1, v, rp, rv⟩
      · rw [if_neg e, if_neg e]; exact h
  · exact Paired.snoc h ⟨hk, rk, v, rp, rv⟩
theorem putP_len (kvs : List (PV × PV)) (k v : PV) : (putP kvs k v).length ≤ kvs.length + 1 := by
  unfold putP
  split
  · rw [List.length_map]; omega
  · rw [List.length_append]; simp
theorem stored_nodup {κ : Type} [DecidableEq κ] {xs : List (κ × Value)} {l : κ} {r : Value} (h : (xs.map (·.1)).Nodup) : ((stored xs l r).map (·.1)).Nodup := by
  unfold stored
  split
  · have e : (xs.map fun kv => if kv.1 = l then (kv.1, r) else kv).map (·.1) = xs.map (·.1) := by
      rw [List.map_map]; apply List.map_congr_left; intro x _; simp only [Function.comp]; split <;> rfl
    rw [e]; exact h
  · next q =>
    rw [List.map_append, List.nodup_append]
    refine ⟨h, by simp, fun a ha b hb => ?_⟩
    simp at hb
    subst hb
    rintro rfl
    apply q
    obtain ⟨x, hx, rfl⟩ := List.mem_map.mp ha
    exact List.any_eq_true.mpr ⟨x, hx, by simp⟩
theorem storedH_nodup {κ : Type} [DecidableEq κ] {xs : List (κ × Addr × Value)} {l : κ} {b : Addr} {r : Value} (h : (xs.map (·.1)).Nodup) : ((storedH xs l b r).map (·.1)).Nodup := by
  unfold storedH
  split
  · have e : (xs.map (putAt l r)).map (·.1) = xs.map (·.1) := by
      rw [List.map_map]; apply List.map_congr_left; intro x _; simp only [Function.comp, putAt]; split <;> rfl
    rw [e]; exact h
  · next q =>
    rw [List.map_append, List.nodup_append]
    refine ⟨h, by simp, fun a ha c hc => ?_⟩
    simp at hc
    subst hc
    rintro rfl
    apply q
    obtain ⟨x, hx, rfl⟩ := List.mem_map.mp ha
    unfold atKey
    rw [Option.isSome_map]
    exact List.find?_isSome.mpr ⟨x, hx, by simp⟩
end
section
variable {X : Cx} {pins : List (Addr × Obj)} {σ : L2.St} {H : Hp} {s : Shared} {μ : Mu}
mutual
theorem nk_is (I : Inv X pins σ H s) : ∀ (p : PV) (k : NestedKey) (v : V) (u : Value), nkOf p = some k → VR X.K H μ p v → RelV v u → NestedIs s.heap k u
  | .non, k, v, u, h, r, q => by
    cases (show some NestedKey.none = some k by rw [← h]; rfl)
    cases (show v = V.non from r)
    cases (show u = Value.none from q)
    exact .none
  | .int i, k, v, u, h, r, q => by
    cases (show some (NestedKey.num i) = some k by rw [← h]; rfl)
    cases (show v = V.int i from r)
    obtain ⟨t, rfl⟩ := (show ∃ t, u = Value.int i t from q)
    exact .int i t
  | .str x, k, v, u, h, r, q => by
    cases (show some (NestedKey.text ⟨x.toArray⟩) = some k by rw [← h]; rfl)
    cases (show v = V.str ⟨x.toArray⟩ from r)
    obtain ⟨t, rfl⟩ := (show ∃ t, u = Value.str ⟨x.toArray⟩ t from q)
    exact .text _ t
  | .tup xs, k, v, u, h, r, q => by
    obtain ⟨ks, e1, rfl⟩ := nkOf_tup h
    obtain ⟨a, vs, rfl, t, rs⟩ := (show ∃ a vs, v = .ref a ∧ TupAt X.K H μ a vs ∧ VRs X.K H μ xs vs from r)
    cases (show u = Value.ref a from q)
    obtain ⟨its, r', ⟨o, ho, hc, n, hd⟩, _⟩ := I.tuple t.sq
    exact .tup ho hc hd (by simpa using nks_is I xs ks vs its e1 rs r')
  | .bl _, _, _, _, h, _, _ => by cases h
  | .ty _, _, _, _, h, _, _ => by cases h
  | .gl _, _, _, _, h, _, _ => by cases h
  | .lst _, _, _, _, h, _, _ => by cases h
  | .frz _, _, _, _, h, _, _ => by cases h
  | .loc _, _, _, _, h, _, _ => by cases h
theorem nks_is (I : Inv X pins σ H s) : ∀ (ps : List PV) (ks : List NestedKey) (vs : List V) (us : List Value), nksOf ps = some ks → VRs X.K H μ ps vs → Vals vs us → NestedAll s.heap ks us
  | [], ks, vs, us, h, r, q => by
    cases (show some ([] : List NestedKey) = some ks by rw [← h]; rfl)
    cases (show vs = [] from r)
    cases q
    exact .nil
  | p :: ps, ks, vs, us, h, r, q => by
    obtain ⟨k, t, e1, e2, rfl⟩ := nksOf_cons h
    obtain ⟨v, vs', rfl, r1, r2⟩ := (show ∃ v r, vs = v :: r ∧ VR X.K H μ p v ∧ VRs X.K H μ ps r from r)
    cases q with
    | cons q1 q2 => exact .cons (nk_is I p k v _ e1 r1 q1) (nks_is I ps t vs' _ e2 r2 q2)
end
end
def NK (K : PySem.W.Frag) (H : Hp) (k : NestedKey) (b : Addr) : Prop := ∃ μ p, nkT p = some k ∧ VR K H μ p (.ref b)
theorem NK.is {X : Cx} {pins : List (Addr × Obj)} {σ : L2.St} {H : Hp} {s : Shared} (I : Inv X pins σ H s) {k : NestedKey} {b : Addr} (h : NK X.K H k b) : (nestedKind X.prog X.w).is s.heap k b := by
  obtain ⟨μ, p, h1, h2⟩ := h
  obtain ⟨h3, h4⟩ := nkT_of h1
  exact ⟨nk_is I p k _ _ h3 h2 rfl, h4⟩
def GGet (K : KW) (H : Hp) (a : Addr) (y : V) (o : Option V) : Prop :=
  (∃ xs k, H a = some (leafD K.w a xs) ∧ (a == sysModules) = false ∧ (xs.map (·.1)).Nodup ∧ (∀ u, RelV y u → Leaf.isOf k u = true) ∧ RelO o (valueAt xs k)) ∨
  (∃ xs k b, H a = some (nestD K.w a xs) ∧ (a == sysModules) = false ∧ (xs.map (·.1)).Nodup ∧ (∀ x ∈ xs, NK K H x.1 x.2.1) ∧ y = .ref b ∧ NK K H k b ∧ RelO o ((atKey xs k).map (·.2)))
def GPut (K : KW) (H : Hp) (a : Addr) (y v : V) (Q : Hp → Prop) : Prop :=
  (∃ xs k, H a = some (leafD K.w a xs) ∧ (a == sysModules) = false ∧ (xs.map (·.1)).Nodup ∧ xs.length ≤ sizeLine ∧ (∀ u, RelV y u → Leaf.isOf k u = true) ∧ ∀ r, RelV v r → Q (upd H a (leafD K.w a (stored xs k r)))) ∨
  (∃ xs k b, H a = some (nestD K.w a xs) ∧ (a == sysModules) = false ∧ (xs.map (·.1)).Nodup ∧ xs.length ≤ sizeLine ∧ (∀ x ∈ xs, NK K H x.1 x.2.1) ∧ y = .ref b ∧ NK K H k b ∧ ∀ r, RelV v r → Q (upd H a (nestD K.w a (storedH xs k b r))))
section
variable {X : Cx} {pins : List (Addr × Obj)} {σ : L2.St} {H : Hp} {s : Shared} {a : Addr} {A : Around} {E : Value → Shared → Prop} {y v : V} {o : Option V} {u r : Value}
theorem leaf_rd {xs : List (Leaf × Value)} (I : Inv X pins σ H s) (e : H a = some (leafD X.w a xs)) (nd : (xs.map (·.1)).Nodup) : s.heap.DictOf (leafKind X.prog X.w) a xs := by
  obtain ⟨⟨o, es, ep, h1, h2, h3, h4⟩, h5, h6⟩ := (show ObjOk X.prog X.w H s.heap a (leafD X.w a xs) from I.hok a _ e)
  refine ⟨o, es, ep, h1, h2, h3, ?_, ?_, nd⟩
  · intro z hz
    have hz' : z ∈ es.toList := by simpa using hz
    clear h3 nd e h6 h5
    generalize es.toList = l at h4 hz'
    induction h4 with
    | nil => cases hz'
    | @cons e x es' xs' q t ih =>
      rcases List.mem_cons.mp hz' with rfl | hz'
      · exact ⟨x.1, q.1, q.2.1⟩
      · exact ih hz'
  · clear h3 nd e h6 h5
    generalize es.toList = l at h4
    induction h4 with
    | nil => exact .nil
    | cons q t ih => exact .cons q.1 q.2.2 ih
theorem nest_rd {xs : List (NestedKey × Addr × Value)} (I : Inv X pins σ H s) (e : H a = some (nestD X.w a xs)) (nd : (xs.map (·.1)).Nodup) (hk : ∀ x ∈ xs, NK X.K H x.1 x.2.1) : s.heap.DictOfH (nestedKind X.prog X.w) a xs := by
  obtain ⟨⟨o, es, ep, h1, h2, h3, h4⟩, _, _⟩ := (show ObjOk X.prog X.w H s.heap a (nestD X.w a xs) from I.hok a _ e)
  exact ⟨o, es, ep, h1, h2, h3, h4, fun x hx => (hk x hx).is I, nd⟩
theorem leafD_stay {w : World} {xs : List (Leaf × Value)} : ∀ h1 h2 : Heap, (∃ o es ep, h1.get? a = some o ∧ o.ExactDict ∧ o.data = .dict es ep ∧ Paired (entL w) es.toList xs) → (∀ o, h1.get? a = some o → h2.get? a = some o) → (∃ o es ep, h2.get? a = some o ∧ o.ExactDict ∧ o.data = .dict es ep ∧ Paired (entL w) es.toList xs) :=
  fun h1 h2 ⟨o, es, ep, q1, q2⟩ k => ⟨o, es, ep, k o q1, q2⟩
theorem nestD_stay {w : World} {xs : List (NestedKey × Addr × Value)} : ∀ h1 h2 : Heap, (∃ o es ep, h1.get? a = some o ∧ o.ExactDict ∧ o.data = .dict es ep ∧ es.toList = xs.map (entN w)) → (∀ o, h1.get? a = some o → h2.get? a = some o) → (∃ o es ep, h2.get? a = some o ∧ o.ExactDict ∧ o.data = .dict es ep ∧ es.toList = xs.map (entN w)) :=
  fun h1 h2 ⟨o, es, ep, q1, q2⟩ k => ⟨o, es, ep, k o q1, q2⟩
theorem leaf_ok {P : Program} {w : World} {H' : Hp} {h' : Heap} {xs : List (Leaf × Value)} (dd : h'.DictOf (leafKind P w) a xs) : ObjOk P w H' h' a (leafD w a xs) := by
  obtain ⟨o, es, ep, h1, h2, h3, h4, h5, nd⟩ := dd
  refine ⟨⟨o, es, ep, h1, h2, h3, ?_⟩, ⟨o, h1⟩, leafD_stay⟩
  have h4' : ∀ e ∈ es.toList, ∃ k, (leafKind P w).is k e.key = true ∧ e.hash = (leafKind P w).hash k := fun e he => h4 e (by simpa using he)
  clear h3 h4 nd
  generalize es.toList = l at h4' h5
  induction h5 with
  | nil => exact .nil
  | @cons e kv es' kvs' q1 q2 t ih =>
    refine .cons ⟨q1, ?_, q2⟩ (ih fun z hz => h4' z (List.mem_cons_of_mem _ hz))
    obtain ⟨k, e1, e2⟩ := h4' e List.mem_cons_self
    rw [e2, (leafKind P w).inj _ _ _ q1 e1]
    rfl
theorem nest_ok {P : Program} {w : World} {H' : Hp} {h' : Heap} {xs : List (NestedKey × Addr × Value)} (dd : h'.DictOfH (nestedKind P w) a xs) : ObjOk P w H' h' a (nestD w a xs) := by
  obtain ⟨o, es, ep, h1, h2, h3, h4, _, _⟩ := dd
  exact ⟨⟨o, es, ep, h1, h2, h3, h4⟩, ⟨o, h1⟩, nestD_stay⟩
theorem room1 (hu : A.units + 64 < cLine) : (nestedKind X.prog X.w).room A.in1 := by
  show A.units + 1 + 8 < cLine
  omega
theorem g_getItem {Q : Value → Shared → Prop} (hu : A.units + 64 < cLine) (I : Inv X pins σ H s) (g : GGet (kw X) H a y (some v)) (ry : RelV y u) (h : ∀ w' s', Inv X pins σ H s' → RelV v w' → Q w' s') :
    wpAny (model X.prog X.w) A (getItem (.ref a) u) Q E s := by
  rcases g with ⟨xs, k, e, hs, nd, hk, ro⟩ | ⟨xs, k, b, e, hs, nd, hks, rfl, hb, ro⟩
  · have dd := leaf_rd I e nd
    obtain ⟨w', hw, rw'⟩ := RelO.some_of (v := v) (o := valueAt xs k) ro
    exact wpAny_getItem_of (hk u ry) dd.mapOf hw (h w' _ (I.tok _) rw')
  · cases (show u = Value.ref b from ry)
    have dd := nest_rd I e nd hks
    obtain ⟨w', hw, rw'⟩ := RelO.some_of (v := v) (o := (atKey xs k).map (·.2)) ro
    obtain ⟨p, hp, hp2⟩ := Option.map_eq_some_iff.mp hw
    refine wpAny_getItem_heap (room1 hu) (hb.is I) dd hp ?_
    rw [hp2]
    exact h w' _ (I.tok _) rw'
theorem g_in {Q : Value → Shared → Prop} (hu : A.units + 64 < cLine) (I : Inv X pins σ H s) (g : GGet (kw X) H a y o) (ry : RelV y u) (h : ∀ s', Inv X pins σ H s' → Q (.bool o.isSome) s') :
    wpAny (model X.prog X.w) A (compareOp .In u (.ref a)) Q E s := by
  rcases g with ⟨xs, k, e, hs, nd, hk, ro⟩ | ⟨xs, k, b, e, hs, nd, hks, rfl, hb, ro⟩
  · refine wpAny_in_of (hk u ry) hs (leaf_rd I e nd).mapOf ?_
    rw [← ro.isSome_eq]
    exact h _ (I.tok _)
  · cases (show u = Value.ref b from ry)
    refine wpAny_in_heap (room1 hu) (hb.is I) hs (nest_rd I e nd hks) ?_
    have q := ro.isSome_eq
    rw [Option.isSome_map] at q
    rw [← q]
    exact h _ (I.tok _)
theorem g_notIn {Q : Value → Shared → Prop} (hu : A.units + 64 < cLine) (I : Inv X pins σ H s) (g : GGet (kw X) H a y o) (ry : RelV y u) (h : ∀ s', Inv X pins σ H s' → Q (.bool (!o.isSome)) s') :
    wpAny (model X.prog X.w) A (compareOp .NotIn u (.ref a)) Q E s := by
  rcases g with ⟨xs, k, e, hs, nd, hk, ro⟩ | ⟨xs, k, b, e, hs, nd, hks, rfl, hb, ro⟩
  · refine wpAny_notIn_of (hk u ry) hs (leaf_rd I e nd).mapOf ?_
    rw [← ro.isSome_eq]
    exact h _ (I.tok _)
  · cases (show u = Value.ref b from ry)
    refine PyProof.Rows.wpAny_notIn_heap (room1 hu) (hb.is I) hs (nest_rd I e nd hks) ?_
    have q := ro.isSome_eq
    rw [Option.isSome_map] at q
    rw [← q]
    exact h _ (I.tok _)
theorem g_typeIs (I : Inv X pins σ H s) (g : GGet (kw X) H a y o) : s.TypeIs (.ref a) "dict" := by
  rcases g with ⟨xs, k, e, hs, nd, hk, ro⟩ | ⟨xs, k, b, e, hs, nd, hks, rfl, hb, ro⟩
  · exact (leaf_rd I e nd).typeIs
  · exact (nest_rd I e nd hks).typeIs
theorem g_get1 {Q : Value → Shared → Prop} (hu : A.units + 64 < cLine) (I : Inv X pins σ H s) (g : GGet (kw X) H a y o) (ry : RelV y u) (h : ∀ w' s', Inv X pins σ H s' → RelV (o.getD .non) w' → Q w' s') :
    wpAny (model X.prog X.w) A (call (.builtin "dict.get") [.ref a, u]) Q E s := by
  rcases g with ⟨xs, k, e, hs, nd, hk, ro⟩ | ⟨xs, k, b, e, hs, nd, hks, rfl, hb, ro⟩
  · have dd := leaf_rd I e nd
    exact call_meetsIn PySem.F.slot_dict_get dd.typeIs PySem.F.entry_dict_get (PySem.F.args_dict_get_2 _ _) (meets_dict_get (leafKind X.prog X.w) a (hk u ry) hs) ⟨_, dd.mapOf, h _ _ (I.tok _) (ro.getD rfl)⟩
  · cases (show u = Value.ref b from ry)
    have dd := nest_rd I e nd hks
    exact call_meetsIn PySem.F.slot_dict_get dd.typeIs PySem.F.entry_dict_get (PySem.F.args_dict_get_2 _ _) (meetsH_dict_get (nestedKind X.prog X.w) a b hs) ⟨room1 hu, k, xs, hb.is I, dd, h _ _ (I.tok _) (ro.getD rfl)⟩
theorem g_setItem {Q : Unit → Shared → Prop} {QH : Hp → Prop} (hu : A.units + 64 < cLine) (I : Inv X pins σ H s) (g : GPut (kw X) H a y v QH) (ry : RelV y u) (rv : RelV v r) (h : ∀ H' s', Inv X pins σ H' s' → QH H' → Q () s') :
    wpAny (model X.prog X.w) A (setItem (.ref a) u r) Q E s := by
  rcases g with ⟨xs, k, e, hs, nd, hz, hk, q⟩ | ⟨xs, k, b, e, hs, nd, hz, hks, rfl, hb, q⟩
  · refine wpAny_setItem_pairs (hsz := hz) (hk u ry) (leaf_rd I e nd) fun h' dd' sb => h _ _ ?_ (q r rv)
    have he : ∃ q, h'.get? a = some q := let ⟨q, _, _, hq, _⟩ := dd'; ⟨q, hq⟩
    exact d_write I (by rw [e]; exact True.intro) sb he (leaf_ok dd')
  · cases (show u = Value.ref b from ry)
    refine wpAny_setItem_heap (hsz := hz) (room1 hu) (hb.is I) (nest_rd I e nd hks) fun h' dd' sb => h _ _ ?_ (q r rv)
    have he : ∃ q, h'.get? a = some q := let ⟨q, _, _, hq, _⟩ := dd'; ⟨q, hq⟩
    exact d_write I (by rw [e]; exact True.intro) sb he (nest_ok dd')
end
section
variable {K : KW} {H : Hp} {μ : Mu} {a : Addr} {kvs : List (PV × PV)} {k p : PV} {y v : V}
theorem lf_V {l : Leaf} (h : lfOf k = some l) (r : VR K H μ k y) : ∀ u, RelV y u → Leaf.isOf l u = true := by
  intro u q
  cases k with
  | non => cases h; cases (show y = V.non from r); cases (show u = Value.none from q); rfl
  | int i =>
    cases h; cases (show y = V.int i from r)
    obtain ⟨t, rfl⟩ := (show ∃ t, u = Value.int i t from q)
    simp [Leaf.isOf]
  | str x =>
    cases h; cases (show y = V.str ⟨x.toArray⟩ from r)
    obtain ⟨t, rfl⟩ := (show ∃ t, u = Value.str ⟨x.toArray⟩ t from q)
    simp [Leaf.isOf, Value.isStrOf]
  | _ => cases h
theorem nk_ref {l : NestedKey} (h : nkT k = some l) (r : VR K H μ k y) : ∃ b, y = .ref b := by
  cases k with
  | tup xs => obtain ⟨b, vs, e, _⟩ := (show ∃ a vs, y = .ref a ∧ TupAt K H μ a vs ∧ VRs K H μ xs vs from r); exact ⟨b, e⟩
  | _ => cases h
theorem NRs.nk {xs : List (NestedKey × Addr × Value)} (r : NRs K H μ kvs xs) : ∀ x ∈ xs, NK K H x.1 x.2.1 := by
  unfold NRs at r
  induction r with
  | nil => intro x h; cases h
  | @cons p x ps xs h t ih =>
    intro z hz
    rcases List.mem_cons.mp hz with rfl | hz
    · exact ⟨μ, p.1, h.1, h.2.1⟩
    · exact ih z hz
theorem CR.getL (c : CR K H μ a (.dcl kvs)) {l : Leaf} (hk : lfOf k = some l) (rk : VR K H μ k y) :
    ∃ o, GGet K H a y o ∧ (∀ p, lookP kvs k = some p → ∃ v, o = some v ∧ VR K H μ p v) ∧ (lookP kvs k = none → o = none) := by
  obtain ⟨xs, e, hs, hz, r, nd⟩ := c
  obtain ⟨o, ro, h1, h2⟩ := r.look hk
  exact ⟨o, .inl ⟨xs, l, e, hs, nd, lf_V hk rk, ro⟩, h1, h2⟩
theorem CR.getN (c : CR K H μ a (.dcn kvs)) {l : NestedKey} (hk : nkT k = some l) (rk : VR K H μ k y) :
    ∃ o, GGet K H a y o ∧ (∀ p, lookP kvs k = some p → ∃ v, o = some v ∧ VR K H μ p v) ∧ (lookP kvs k = none → o = none) := by
  obtain ⟨xs, e, hs, hz, r, nd⟩ := c
  obtain ⟨o, ro, h1, h2⟩ := r.look hk
  obtain ⟨b, rfl⟩ := nk_ref hk rk
  exact ⟨o, .inr ⟨xs, l, b, e, hs, nd, r.nk, rfl, ⟨μ, k, hk, rk⟩, ro⟩, h1, h2⟩
theorem CR.putL {Q : Hp → Prop} {n : Nat} (c : CR K H μ a (.dcl kvs)) (ha : μ.l[n]? = some a) {l : Leaf} (hk : lfOf k = some l) (hz : kvs.length < sizeLine) (rk : VR K H μ k y) (rv : VR K H μ p v) (h : ∀ o, CR K (upd H a o) μ a (.dcl (putP kvs k p)) → Q (upd H a o)) : GPut K H a y v Q := by
  obtain ⟨xs, e, hs, hz', r, nd⟩ := c
  have hl : xs.length = kvs.length := (Paired.length r).symm
  have hz2 := putP_len kvs k p
  exact .inl ⟨xs, l, e, hs, nd, by omega, lf_V hk rk, fun rr q => h _ ⟨_, upd_same, hs, by omega, (r.put hk rv q).mono (gv_put ha), stored_nodup nd⟩⟩
theorem CR.putN {Q : Hp → Prop} {n : Nat} (c : CR K H μ a (.dcn kvs)) (ha : μ.l[n]? = some a) {l : NestedKey} (hk : nkT k = some l) (hz : kvs.length < sizeLine) (rk : VR K H μ k y) (rv : VR K H μ p v) (h : ∀ o, CR K (upd H a o) μ a (.dcn (putP kvs k p)) → Q (upd H a o)) : GPut K H a y v Q := by
  obtain ⟨xs, e, hs, hz', r, nd⟩ := c
  have hl : xs.length = kvs.length := (Paired.length r).symm
  have hz2 := putP_len kvs k p
  obtain ⟨b, rfl⟩ := nk_ref hk rk
  exact .inr ⟨xs, l, b, e, hs, nd, by omega, r.nk, rfl, ⟨μ, k, hk, rk⟩, fun rr q => h _ ⟨_, upd_same, hs, by omega, (r.put hk rk rv q).mono (gv_put ha), storedH_nodup nd⟩⟩
end
end MP

set_option maxRecDepth 100000
set_option maxHeartbeats 1000000
namespace MP
open PySem L2
mutual
theorem eqb_eqv : ∀ (x y : PV) (d e : PyData), toD x = some d → toD y = some e → PyData.eqv d e = eqb x y
  | .non, y, d, e, h1, h2 => by
    cases h1
    cases y <;> simp [toD] at h2 <;> (try (obtain ⟨z, _, rfl⟩ := h2)) <;> (try subst h2) <;> simp [PyData.eqv, eqb]
  | .bl a, y, d, e, h1, h2 => by
    cases h1
    cases y <;> simp [toD] at h2 <;> (try (obtain ⟨z, _, rfl⟩ := h2)) <;> (try subst h2) <;> simp [PyData.eqv, eqb]
  | .int a, y, d, e, h1, h2 => by
    cases h1
    cases y <;> simp [toD] at h2 <;> (try (obtain ⟨z, _, rfl⟩ := h2)) <;> (try subst h2) <;> simp [PyData.eqv, eqb]
  | .str a, y, d, e, h1, h2 => by
    cases h1
    cases y <;> simp [toD] at h2 <;> (try (obtain ⟨z, _, rfl⟩ := h2)) <;> (try subst h2) <;> simp [PyData.eqv, eqb]
    rw [Bool.eq_iff_iff]
    simp
  | .tup xs, y, d, e, h1, h2 => by
    simp [toD] at h1
    obtain ⟨ds, q, rfl⟩ := h1
    cases y <;> simp [toD] at h2 <;> (try (obtain ⟨z, qz, rfl⟩ := h2)) <;> (try subst h2) <;> simp [PyData.eqv, eqb]
    exact eqbs_eqv xs _ ds z q qz
  | .lst xs, y, d, e, h1, h2 => by
    simp [toD] at h1
    obtain ⟨ds, q, rfl⟩ := h1
    cases y <;> simp [toD] at h2 <;> (try (obtain ⟨z, qz, rfl⟩ := h2)) <;> (try subst h2) <;> simp [PyData.eqv, eqb]
    exact eqbs_eqv xs _ ds z q qz
  | .ty _, _, _, _, h1, _ => by cases h1
  | .gl _, _, _, _, h1, _ => by cases h1
  | .frz _, _, _, _, h1, _ => by cases h1
  | .loc _, _, _, _, h1, _ => by cases h1
theorem eqbs_eqv : ∀ (xs ys : List PV) (ds es : List PyData), toDs xs = some ds → toDs ys = some es → PyData.eqvAll ds es = eqbs xs ys
  | [], ys, ds, es, h1, h2 => by
    cases h1
    cases ys with
    | nil => cases h2; simp [PyData.eqvAll, eqbs]
    | cons y ys =>
      unfold toDs at h2
      cases q1 : toD y with
      | none => rw [q1] at h2; cases h2
      | some d =>
        cases q2 : toDs ys with
        | none => rw [q1, q2] at h2; cases h2
        | some r => rw [q1, q2] at h2; cases h2; simp [PyData.eqvAll, eqbs]
  | x :: xs, ys, ds, es, h1, h2 => by
    unfold toDs at h1
    cases p1 : toD x with
    | none => rw [p1] at h1; cases h1
    | some d =>
      cases p2 : toDs xs with
      | none => rw [p1, p2] at h1; cases h1
      | some r =>
        rw [p1, p2] at h1
        cases h1
        cases ys with
        | nil => cases h2; simp [PyData.eqvAll, eqbs]
        | cons y ys =>
          unfold toDs at h2
          cases q1 : toD y with
          | none => rw [q1] at h2; cases h2
          | some d' =>
            cases q2 : toDs ys with
            | none => rw [q1, q2] at h2; cases h2
            | some r' =>
              rw [q1, q2] at h2
              cases h2
              simp [PyData.eqvAll, eqbs, eqb_eqv x y d d' p1 q1, eqbs_eqv xs ys r r' p2 q2]
end
section
variable {K : PySem.W.Frag} {H : Hp} {μ : Mu}
mutual
theorem dp_of : ∀ (x : PV) (v : V) (d : PyData), VR K H μ x v → toD x = some d → Dp K H v d
  | .non, v, d, r, h => by cases h; cases (show v = .non from r); exact .non
  | .bl b, v, d, r, h => by cases h; cases (show v = .bl b from r); exact .bl b
  | .int b, v, d, r, h => by cases h; cases (show v = .int b from r); exact .int b
  | .str b, v, d, r, h => by cases h; cases (show v = .str ⟨b.toArray⟩ from r); exact .str _
  | .tup xs, v, d, r, h => by
    obtain ⟨a, vs, rfl, t, rs⟩ := tup_at r
    simp [toD] at h
    obtain ⟨ds, q, rfl⟩ := h
    exact .tup t.sq (dps_of xs vs ds rs q)
  | .lst xs, v, d, r, h => by
    obtain ⟨a, vs, rfl, t, rs⟩ := lst_at r
    simp [toD] at h
    obtain ⟨ds, q, rfl⟩ := h
    exact .lst t.sq (dps_of xs vs ds rs q)
  | .ty _, _, _, _, h => by cases h
  | .gl _, _, _, _, h => by cases h
  | .frz _, _, _, _, h => by cases h
  | .loc _, _, _, _, h => by cases h
theorem dps_of : ∀ (xs : List PV) (vs : List V) (ds : List PyData), VRs K H μ xs vs → toDs xs = some ds → DpAll K H vs ds
  | [], vs, ds, r, h => by cases h; cases (show vs = [] from r); exact .nil
  | x :: xs, vs, ds, r, h => by
    obtain ⟨v, t, rfl, r1, r2⟩ := (show ∃ v t, vs = v :: t ∧ VR K H μ x v ∧ VRs K H μ xs t from r)
    unfold toDs at h
    cases p1 : toD x with
    | none => rw [p1] at h; cases h
    | some d =>
      cases p2 : toDs xs with
      | none => rw [p1, p2] at h; cases h
      | some ds' =>
        rw [p1, p2] at h
        cases h
        exact .cons (dp_of x v d r1 p1) (dps_of xs t ds' r2 p2)
end
end
mutual
def layP : PV → Bool
  | .non => true
  | .bl _ => true
  | .int _ => true
  | .str x => x.all fun c => decide (c < 1114112)
  | .tup xs => layPs xs
  | .lst xs => layPs xs
  | _ => false
def layPs : List PV → Bool
  | [] => true
  | x :: xs => layP x && layPs xs
end
mutual
def depP : PV → Nat
  | .tup xs => depPs xs + 1
  | .lst xs => depPs xs + 1
  | _ => 0
def depPs : List PV → Nat
  | [] => 0
  | x :: xs => max (depP x) (depPs xs)
end
mutual
theorem lay_toD : ∀ (x : PV), layP x = true → ∃ d, toD x = some d ∧ d.canLay0 = true ∧ d.depth = depP x
  | .non, _ => ⟨_, rfl, by simp [PyData.canLay0], by simp [PyData.depth, depP]⟩
  | .bl b, _ => ⟨_, rfl, by simp [PyData.canLay0], by simp [PyData.depth, depP]⟩
  | .int b, _ => ⟨_, rfl, by simp [PyData.canLay0], by simp [PyData.depth, depP]⟩
  | .str x, h => ⟨_, rfl, by
      simp only [PyData.canLay0, PyData.strOk]
      simp [layP] at h
      simpa using h, by simp [PyData.depth, depP]⟩
  | .tup xs, h => by
    obtain ⟨ds, e, c, p⟩ := lays_toD xs (by simpa [layP] using h)
    exact ⟨.tuple ds, by simp [toD, e], by simpa [PyData.canLay0] using c, by simp [PyData.depth, depP, p]⟩
  | .lst xs, h => by
    obtain ⟨ds, e, c, p⟩ := lays_toD xs (by simpa [layP] using h)
    exact ⟨.list ds, by simp [toD, e], by simpa [PyData.canLay0] using c, by simp [PyData.depth, depP, p]⟩
  | .ty _, h => by simp [layP] at h
  | .gl _, h => by simp [layP] at h
  | .frz _, h => by simp [layP] at h
  | .loc _, h => by simp [layP] at h
theorem lays_toD : ∀ (xs : List PV), layPs xs = true → ∃ ds, toDs xs = some ds ∧ PyData.canLayAll0 ds = true ∧ PyData.depthAll ds = depPs xs
  | [], _ => ⟨[], rfl, by simp [PyData.canLayAll0], by simp [PyData.depthAll, depPs]⟩
  | x :: xs, h => by
    have h' : layP x = true ∧ layPs xs = true := by simpa [layPs] using h
    obtain ⟨d, e, c, p⟩ := lay_toD x h'.1
    obtain ⟨ds, e2, c2, p2⟩ := lays_toD xs h'.2
    exact ⟨d :: ds, by simp [toDs, e, e2], by simp [PyData.canLayAll0, c, c2], by simp [PyData.depthAll, depPs, p, p2]⟩
end
def shal (x : PV) (st : Sto) : PV := match x with
  | .frz xs => .lst xs
  | .loc n => match st[n]? with
    | some (.lst xs) => .lst xs
    | _ => .loc n
  | _ => x
def scalP : PV → PV → Bool
  | .non, .non => true | .non, .int _ => true | .int _, .non => true | .non, .bl _ => true | .bl _, .non => true | .non, .str _ => true | .str _, .non => true
  | .int _, .int _ => true | .bl _, .bl _ => true | .str _, .str _ => true
  | .int _, .str _ => true | .str _, .int _ => true | .bl _, .str _ => true | .str _, .bl _ => true
  | _, _ => false
def cmpOk (x y : PV) (st : Sto) : Bool := scalP x y || (layP (shal x st) && layP (shal y st) && decide (depP (shal x st) ≤ 64) && decide (depP (shal y st) ≤ 64))
def lenNe (x y : PV) (st : Sto) : Bool := match shal x st, shal y st with
  | .lst a, .lst b => decide (a.length ≠ b.length)
  | _, _ => false
def eqM (x y : PV) : M PV := fun st => if cmpOk x y st = true then .ok (.bl (eqb (shal x st) (shal y st))) st else if lenNe x y st = true then .ok (.bl false) st else .bad
def neM (x y : PV) : M PV := fun st => if cmpOk x y st = true then .ok (.bl (!eqb (shal x st) (shal y st))) st else if lenNe x y st = true then .ok (.bl true) st else .bad
theorem shal_lst {K : KW} {H : Hp} {μ : Mu} {st : Sto} {x : PV} {v : V} {xs : List PV} (sr : SR K μ st H) (r : VR K H μ x v) (h : shal x st = .lst xs) : ∃ a vs, v = .ref a ∧ SqL K H a vs ∧ VRs K H μ xs vs := by
  cases x with
  | lst ys =>
    cases h
    obtain ⟨a, vs, e, l, rs⟩ := lst_at r
    exact ⟨a, vs, e, l.sq, rs⟩
  | frz ys =>
    cases h
    obtain ⟨a, vs, e, l, rs⟩ := frz_at r
    exact ⟨a, vs, e, l.sq, rs⟩
  | loc n =>
    obtain ⟨a, e, ha⟩ := loc_at r
    unfold shal at h
    dsimp only at h
    cases q : st[n]? with
    | none => rw [q] at h; cases h
    | some c =>
      rw [q] at h
      cases c with
      | lst ys =>
        cases h
        obtain ⟨vs, h1, h2⟩ := sr.cell n _ a q ha
        exact ⟨a, vs, e, SqL.of h1, h2⟩
      | dct kvs => cases h
      | ins C fs => cases h
      | dcl kvs => cases h
      | dcn kvs => cases h
      | lck kvs => cases h
  | _ => cases h
theorem dp_shal {K : KW} {H : Hp} {μ : Mu} {st : Sto} {x : PV} {v : V} {d : PyData} (sr : SR K μ st H) (r : VR K H μ x v) (h : toD (shal x st) = some d) : Dp K H v d := by
  cases x with
  | frz xs =>
    obtain ⟨a, vs, rfl, t, rs⟩ := frz_at r
    have h' : toD (.lst xs) = some d := h
    simp [toD] at h'
    obtain ⟨ds, q, rfl⟩ := h'
    exact .lst t.sq (dps_of xs vs ds rs q)
  | loc n =>
    obtain ⟨a, rfl, ha⟩ := loc_at r
    unfold shal at h
    dsimp only at h
    cases q : st[n]? with
    | none => rw [q] at h; cases h
    | some c =>
      rw [q] at h
      cases c with
      | lst xs =>
        obtain ⟨vs, h1, h2⟩ := sr.cell n _ a q ha
        have h' : toD (.lst xs) = some d := h
        simp [toD] at h'
        obtain ⟨ds, q, rfl⟩ := h'
        exact .lst (SqL.of h1) (dps_of xs vs ds h2 q)
      | dct kvs => cases h
      | ins C fs => cases h
      | dcl kvs => cases h
      | dcn kvs => cases h
      | lck kvs => cases h
  | non => exact dp_of _ _ _ r h
  | bl b => exact dp_of _ _ _ r h
  | int b => exact dp_of _ _ _ r h
  | str b => exact dp_of _ _ _ r h
  | tup b => exact dp_of _ _ _ r h
  | lst b => exact dp_of _ _ _ r h
  | ty b => cases h
  | gl b => cases h
theorem scal_eq {K : PySem.W.Frag} {H : Hp} {μ : Mu} {st : Sto} {x y : PV} {u v : V} (rx : VR K H μ x u) (ry : VR K H μ y v) (h : scalP x y = true) : scal u v = true ∧ decide (u = v) = eqb (shal x st) (shal y st) := by
  cases x <;> cases y <;> simp [scalP] at h <;> cases rx <;> cases ry <;> simp [scal, eqb, shal] <;> (rw [Bool.eq_iff_iff]; simp)
def rEqM0 (K : PySem.W.Frag) (n : Bool) : R2 := fun x y H Q => (scal x y = true ∧ Q (.bl (if n then !decide (x = y) else decide (x = y))) H) ∨ ∃ d e, Dp K H x d ∧ Dp K H y e ∧ (SeqAt.shaped d = true ∧ SeqAt.shaped e = true ∧ Q (.bl (if n then !PyData.eqv d e else PyData.eqv d e)) H)
def rEqN (K : PySem.W.Frag) (n : Bool) : R2 := fun x y H Q => ∃ a b xs ys, x = .ref a ∧ y = .ref b ∧ SqL K H a xs ∧ SqL K H b ys ∧ xs.length ≠ ys.length ∧ Q (.bl n) H
def rEqM (K : PySem.W.Frag) (n : Bool) : R2 := fun x y H Q => rEqM0 K n x y H Q ∨ rEqN K n x y H Q
theorem op_eqN {X : Cx} (hu : X.A.units + 64 < cLine) : OpR X (compareOp .Eq) (rEqN X.K false) := by
  intro pins s σ H x y v u Q I rx ry h
  obtain ⟨a, b, xs, ys, rfl, rfl, hx, hy, hne, q⟩ := h
  cases rx
  cases ry
  obtain ⟨its, r1, p1, _⟩ := I.list hx
  obtain ⟨its2, r2, p2, _⟩ := I.list hy
  exact SeqAt.RcAt.lists_lengths p1.isList p2.isList (by have e1 := r1.length; have e2 := r2.length; simp; omega) (by omega) X.prog X.w X.xe _ ⟨.bl false, H, I, rfl, q⟩
theorem op_neN {X : Cx} (hu : X.A.units + 64 < cLine) : OpR X (compareOp .NotEq) (rEqN X.K true) := by
  intro pins s σ H x y v u Q I rx ry h
  obtain ⟨a, b, xs, ys, rfl, rfl, hx, hy, hne, q⟩ := h
  cases rx
  cases ry
  obtain ⟨its, r1, p1, _⟩ := I.list hx
  obtain ⟨its2, r2, p2, _⟩ := I.list hy
  exact SeqAt.RcNeAt.lists_lengths p1.isList p2.isList (by have e1 := r1.length; have e2 := r2.length; simp; omega) (by omega) X.prog X.w X.xe _ ⟨.bl true, H, I, rfl, q⟩
theorem op_eqM {X : Cx} (hu : X.A.units + 64 < cLine) : OpR X (compareOp .Eq) (rEqM X.K false) := (op_eq.or (op_eqD hu)).or (op_eqN hu)
theorem op_neM {X : Cx} (hu : X.A.units + 64 < cLine) : OpR X (compareOp .NotEq) (rEqM X.K true) := (op_ne.or (op_neD hu)).or (op_neN hu)
theorem t_eqn {K : KW} {n : Bool} : T2 K (rEqM K n) (fun x y st => if cmpOk x y st = true then .ok (.bl (if n then !eqb (shal x st) (shal y st) else eqb (shal x st) (shal y st))) st else if lenNe x y st = true then .ok (.bl n) st else .bad) := by
  intro μ st H x y u v E Q sr rx ry h
  dsimp only at h
  by_cases hc : cmpOk x y st = true
  · rw [if_pos hc] at h
    have q := post_same (v := .bl (if n then !eqb (shal x st) (shal y st) else eqb (shal x st) (shal y st))) h sr rfl
    unfold cmpOk at hc
    rw [Bool.or_eq_true] at hc
    rcases hc with hc | hc
    · obtain ⟨h1, h2⟩ := scal_eq (st := st) rx ry hc
      exact .inl (.inl ⟨h1, by rw [h2]; exact q⟩)
    · simp only [Bool.and_eq_true, decide_eq_true_eq] at hc
      obtain ⟨⟨⟨l1, l2⟩, d1⟩, d2⟩ := hc
      obtain ⟨d, e1, c1, p1⟩ := lay_toD _ l1
      obtain ⟨e, e2, c2, p2⟩ := lay_toD _ l2
      refine .inl (.inr ⟨d, e, dp_shal sr rx e1, dp_shal sr ry e2, ?_, ?_, ?_⟩)
      · unfold SeqAt.shaped
        rw [c1, p1]
        simpa using d1
      · unfold SeqAt.shaped
        rw [c2, p2]
        simpa using d2
      · rw [eqb_eqv _ _ d e e1 e2]
        exact q
  · rw [if_neg hc] at h
    by_cases hl : lenNe x y st = true
    · rw [if_pos hl] at h
      unfold lenNe at hl
      split at hl
      · rename_i xs ys e1 e2
        obtain ⟨a, vs, rfl, l1, r1⟩ := shal_lst sr rx e1
        obtain ⟨b, ws, rfl, l2, r2⟩ := shal_lst sr ry e2
        refine .inr ⟨a, b, vs, ws, rfl, rfl, l1, l2, ?_, post_same h sr rfl⟩
        rw [← VRs.length r1, ← VRs.length r2]
        exact of_decide_eq_true hl
      · cases hl
    · rw [if_neg hl] at h
      exact h.elim
theorem t_eq {K : KW} : T2 K (rEqM K false) eqM := t_eqn (n := false)
theorem t_ne {K : KW} : T2 K (rEqM K true) neM := t_eqn (n := true)
def nonP : PV → Bool
  | .non => true
  | _ => false
def isN (x y : PV) : M PV := match y with
  | .non => M.ret (.bl (nonP x))
  | .bl b => match x with
    | .bl a => M.ret (.bl (decide (a = b)))
    | _ => M.fail
  | _ => M.fail
def notN (x y : PV) : M PV := match y with
  | .non => M.ret (.bl (!nonP x))
  | .bl b => match x with
    | .bl a => M.ret (.bl (!decide (a = b)))
    | _ => M.fail
  | _ => M.fail
theorem non_dec {K : PySem.W.Frag} {H : Hp} {μ : Mu} {x : PV} {v : V} (r : VR K H μ x v) : decide (v = .non) = nonP x := by
  cases x with
  | non => cases (show v = .non from r); rfl
  | bl b => cases (show v = .bl b from r); rfl
  | int b => cases (show v = .int b from r); rfl
  | str b => cases (show v = .str ⟨b.toArray⟩ from r); rfl
  | ty b => cases (show v = .ty b from r); rfl
  | gl b => cases (show v = .ref b from r); rfl
  | tup b => obtain ⟨a, vs, rfl, _⟩ := tup_at r; rfl
  | lst b => obtain ⟨a, vs, rfl, _⟩ := lst_at r; rfl
  | frz b => obtain ⟨a, vs, rfl, _⟩ := frz_at r; rfl
  | loc b => obtain ⟨a, rfl, _⟩ := loc_at r; rfl
theorem t_isN {K : KW} : T2 K (fun x y H Q => (y = .non ∧ Q (.bl (decide (x = .non))) H) ∨ ∃ a b, x = .bl a ∧ y = .bl b ∧ Q (.bl (decide (a = b))) H) isN := by
  intro μ st H x y u v E Q sr rx ry h
  unfold isN at h
  cases y with
  | non => exact .inl ⟨ry, by rw [non_dec rx]; exact post_same h sr rfl⟩
  | bl b =>
    cases x with
    | bl a => exact .inr ⟨a, b, rx, ry, post_same h sr rfl⟩
    | _ => exact h.elim
  | _ => exact h.elim
theorem t_notN {K : KW} : T2 K (fun x y H Q => (y = .non ∧ Q (.bl (!decide (x = .non))) H) ∨ ∃ a b, x = .bl a ∧ y = .bl b ∧ Q (.bl (!decide (a = b))) H) notN := by
  intro μ st H x y u v E Q sr rx ry h
  unfold notN at h
  cases y with
  | non => exact .inl ⟨ry, by rw [non_dec rx]; exact post_same h sr rfl⟩
  | bl b =>
    cases x with
    | bl a => exact .inr ⟨a, b, rx, ry, post_same h sr rfl⟩
    | _ => exact h.elim
  | _ => exact h.elim
section
variable {K : PySem.W.Frag} {H : Hp} {μ : Mu}
theorem key_dec {p k : PV} {p' k' : Key} (h : keyOf p = some p') (hk : keyOf k = some k') : (p' = k') = (p = k) := by
  refine propext ⟨fun e => ?_, fun e => ?_⟩
  · rw [← e] at hk
    exact keyOf_inj h hk
  · rw [e, hk] at h
    exact (Option.some.inj h).symm
theorem KRs.look {k : PV} {k' : Key} (hk : keyOf k = some k') : ∀ {kvs : List (PV × PV)} {kv : List (Key × V)}, KRs K H μ kvs kv → (∀ p, lookP kvs k = some p → ∃ v, valV kv k' = some v ∧ VR K H μ p v) ∧ (lookP kvs k = none → valV kv k' = none)
  | [], kv, h => by
    have e : kv = [] := h
    subst e
    exact ⟨fun p q => (nomatch q), fun _ => rfl⟩
  | p :: r, kv, h => by
    obtain ⟨k1, v, t, rfl, e1, rv, rt⟩ := h
    unfold lookP
    by_cases e : p.1 = k
    · have e' : k1 = k' := by rw [key_dec e1 hk]; exact e
      rw [if_pos e, valV_pos (p := (k1, v)) e']
      exact ⟨fun q hq => by cases hq; exact ⟨v, rfl, rv⟩, fun hq => (nomatch hq)⟩
    · have e' : ¬ k1 = k' := by rw [key_dec e1 hk]; exact e
      rw [if_neg e, valV_neg (p := (k1, v)) e']
      exact KRs.look hk rt
theorem KRs.any {k : PV} {k' : Key} (hk : keyOf k = some k') : ∀ {kvs : List (PV × PV)} {kv : List (Key × V)}, KRs K H μ kvs kv → (kv.any fun x => decide (x.1 = k')) = (kvs.any fun x => decide (x.1 = k))
  | [], kv, h => by have e : kv = [] := h; subst e; rfl
  | p :: r, kv, h => by
    obtain ⟨k1, v, t, rfl, e1, rv, rt⟩ := h
    rw [List.any_cons, List.any_cons, KRs.any hk rt]
    simp only [key_dec e1 hk]
theorem KRs.length : ∀ {kvs : List (PV × PV)} {kv : List (Key × V)}, KRs K H μ kvs kv → kvs.length = kv.length
  | [], kv, h => by have e : kv = [] := h; subst e; rfl
  | p :: r, kv, h => by
    obtain ⟨k1, v, t, rfl, e1, rv, rt⟩ := h
    rw [List.length_cons, List.length_cons, KRs.length rt]
theorem KRs.mapPut {k p : PV} {k' : Key} {v : V} (hk : keyOf k = some k') (r : VR K H μ p v) : ∀ {kvs : List (PV × PV)} {kv : List (Key × V)}, KRs K H μ kvs kv →
    KRs K H μ (kvs.map fun x => if x.1 = k then (x.1, p) else x) (kv.map fun x => if x.1 = k' then (x.1, v) else x)
  | [], kv, h => by have e : kv = [] := h; subst e; exact rfl
  | q :: t, kv, h => by
    obtain ⟨k1, w, t', rfl, e1, rv, rt⟩ := h
    rw [List.map_cons, List.map_cons]
    simp only [key_dec e1 hk]
    by_cases e : q.1 = k
    · rw [if_pos e, if_pos e]
      exact ⟨k1, v, _, rfl, e1, r, KRs.mapPut hk r rt⟩
    · rw [if_neg e, if_neg e]
      exact ⟨k1, w, _, rfl, e1, rv, KRs.mapPut hk r rt⟩
theorem KRs.snoc {k p : PV} {k' : Key} {v : V} (hk : keyOf k = some k') (r : VR K H μ p v) : ∀ {kvs : List (PV × PV)} {kv : List (Key × V)}, KRs K H μ kvs kv → KRs K H μ (kvs ++ [(k, p)]) (kv ++ [(k', v)])
  | [], kv, h => by have e : kv = [] := h; subst e; exact ⟨k', v, [], rfl, hk, r, rfl⟩
  | q :: t, kv, h => by
    obtain ⟨k1, w, t', rfl, e1, rv, rt⟩ := h
    exact ⟨k1, w, _, rfl, e1, rv, KRs.snoc hk r rt⟩
theorem KRs.put {k p : PV} {k' : Key} {v : V} {kvs : List (PV × PV)} {kv : List (Key × V)} (h : KRs K H μ kvs kv) (hk : keyOf k = some k') (r : VR K H μ p v) : KRs K H μ (putP kvs k p) (putK kv k' v) := by
  unfold putP putK
  rw [KRs.any hk h]
  split
  · exact KRs.mapPut hk r h
  · exact KRs.snoc hk r h
theorem keyOf_kV {k : PV} {k' : Key} {v : V} (hk : keyOf k = some k') (r : VR K H μ k v) : v = kV k' := by
  cases k with
  | int i => cases hk; exact r
  | str x => cases hk; exact r
  | _ => cases hk
end
def flatP : PV → Bool
  | .non => true
  | .bl _ => true
  | .int _ => true
  | .str _ => true
  | _ => false
def ng (n b : Bool) : Bool := if n then !b else b
def inM (n : Bool) (x y : PV) : M PV := fun st => match y with
  | .str z => match x with
    | .str [c] => .ok (.bl (ng n (decide (c ∈ z)))) st
    | _ => .bad
  | y => match seqOf y st with
    | some xs => if (flatP x && xs.all flatP) = true then .ok (.bl (ng n (xs.any fun p => eqb p x))) st else .bad
    | none => match y with
      | .loc m => match st[m]? with
        | some (.dct kvs) => if (keyOf x).isSome = true then .ok (.bl (ng n (lookP kvs x).isSome)) st else .bad
        | some (.dcl kvs) => if (lfOf x).isSome = true then .ok (.bl (ng n (lookP kvs x).isSome)) st else .bad
        | some (.dcn kvs) => if (nkT x).isSome = true then .ok (.bl (ng n (lookP kvs x).isSome)) st else .bad
        | _ => .bad
      | _ => .bad
theorem flat_eq {K : PySem.W.Frag} {H : Hp} {μ : Mu} {x y : PV} {u v : V} (rx : VR K H μ x u) (ry : VR K H μ y v) (fx : flatP x = true) (fy : flatP y = true) : flatV u = true ∧ flatV v = true ∧ L2.eqV u v = eqb x y := by
  cases x <;> simp [flatP] at fx <;> cases y <;> simp [flatP] at fy <;> cases rx <;> cases ry <;> simp [flatV, L2.eqV, eqb]
  rw [Bool.eq_iff_iff]
  simp
theorem flat_any {K : PySem.W.Frag} {H : Hp} {μ : Mu} {x : PV} {u : V} (rx : VR K H μ x u) (fx : flatP x = true) : ∀ {ps : List PV} {vs : List V}, VRs K H μ ps vs → ps.all flatP = true → vs.all flatV = true ∧ L2.inV u vs = ps.any fun p => eqb p x
  | [], vs, h, _ => by have e : vs = [] := h; subst e; exact ⟨rfl, rfl⟩
  | p :: ps, vs, h, hf => by
    obtain ⟨v, t, rfl, r1, r2⟩ := (show ∃ v t, vs = v :: t ∧ VR K H μ p v ∧ VRs K H μ ps t from h)
    rw [List.all_cons, Bool.and_eq_true] at hf
    obtain ⟨f1, f2, f3⟩ := flat_eq r1 rx hf.1 fx
    obtain ⟨g1, g2⟩ := flat_any rx fx r2 hf.2
    refine ⟨by rw [List.all_cons, f1, g1]; rfl, ?_⟩
    show (L2.eqV v u || L2.inV u t) = (eqb p x || ps.any fun q => eqb q x)
    rw [f3, g2]
def rInM (K : KW) (n : Bool) : R2 := fun x y H Q => (∃ (c : Nat) (z : Str), x = .str ⟨#[c]⟩ ∧ y = .str z ∧ Q (.bl (ng n (decide (c ∈ z.cps.toList)))) H) ∨ rIn K n x y H Q ∨ (∃ a o, y = .ref a ∧ DGet H a x o ∧ Q (.bl (ng n o.isSome)) H) ∨ ∃ a o, y = .ref a ∧ GGet K H a x o ∧ Q (.bl (ng n o.isSome)) H
theorem op_inD {X : Cx} (hu : X.A.units + 1 < cLine) : OpR X (compareOp .In) (fun x y H Q => ∃ a o, y = .ref a ∧ DGet H a x o ∧ Q (.bl (ng false o.isSome)) H) := by
  intro pins s σ H x y v u Q I rx ry h
  obtain ⟨a, o, rfl, g, q⟩ := h
  cases (show u = Value.ref a from ry)
  exact d_in hu I g rx fun s3 I3 => ⟨.bl o.isSome, H, I3, rfl, q⟩
theorem op_notInD {X : Cx} (hu : X.A.units + 1 < cLine) : OpR X (compareOp .NotIn) (fun x y H Q => ∃ a o, y = .ref a ∧ DGet H a x o ∧ Q (.bl (ng true o.isSome)) H) := by
  intro pins s σ H x y v u Q I rx ry h
  obtain ⟨a, o, rfl, g, q⟩ := h
  cases (show u = Value.ref a from ry)
  exact d_notIn hu I g rx fun s3 I3 => ⟨.bl (!o.isSome), H, I3, rfl, q⟩
theorem op_inG {X : Cx} (hu : X.A.units + 64 < cLine) : OpR X (compareOp .In) (fun x y H Q => ∃ a o, y = .ref a ∧ GGet (kw X) H a x o ∧ Q (.bl (ng false o.isSome)) H) := by
  intro pins s σ H x y v u Q I rx ry h
  obtain ⟨a, o, rfl, g, q⟩ := h
  cases (show u = Value.ref a from ry)
  exact g_in hu I g rx fun s3 I3 => ⟨.bl o.isSome, H, I3, rfl, q⟩
theorem op_notInG {X : Cx} (hu : X.A.units + 64 < cLine) : OpR X (compareOp .NotIn) (fun x y H Q => ∃ a o, y = .ref a ∧ GGet (kw X) H a x o ∧ Q (.bl (ng true o.isSome)) H) := by
  intro pins s σ H x y v u Q I rx ry h
  obtain ⟨a, o, rfl, g, q⟩ := h
  cases (show u = Value.ref a from ry)
  exact g_notIn hu I g rx fun s3 I3 => ⟨.bl (!o.isSome), H, I3, rfl, q⟩
theorem op_inM {X : Cx} (hu : X.A.units + 64 < cLine) : OpR X (compareOp .In) (rInM (kw X) false) := op_in_sign.or (op_in_seq.or ((op_inD (by omega)).or (op_inG hu)))
theorem op_notInM {X : Cx} (hu : X.A.units + 64 < cLine) : OpR X (compareOp .NotIn) (rInM (kw X) true) := op_notIn_sign.or (op_notIn_seq.or ((op_notInD (by omega)).or (op_notInG hu)))
theorem t_in {K : KW} {n : Bool} : T2 K (rInM K n) (inM n) := by
  intro μ st H x y u v E Q sr rx ry h
  have seqC : ∀ xs, seqOf y st = some xs → PostG K E (VR K) Q μ H (if (flatP x && xs.all flatP) = true then .ok (.bl (ng n (xs.any fun p => eqb p x))) st else .bad) → rInM K n u v H Q := by
    intro xs hs h
    by_cases hf : (flatP x && xs.all flatP) = true
    · rw [if_pos hf] at h
      rw [Bool.and_eq_true] at hf
      obtain ⟨a, vs, rfl, hq, rs⟩ := seqOf_at sr ry hs
      obtain ⟨g1, g2⟩ := flat_any rx hf.1 rs hf.2
      obtain ⟨f1, _, _⟩ := flat_eq rx rx hf.1 hf.1
      refine .inr (.inl ⟨a, vs, rfl, hq, f1, g1, ?_⟩)
      rw [g2]
      exact post_same h sr rfl
    · rw [if_neg hf] at h
      exact h.elim
  cases y with
  | str z =>
    cases (show v = V.str ⟨z.toArray⟩ from ry)
    cases x with
    | str c =>
      cases c with
      | nil => exact h.elim
      | cons c r =>
        cases r with
        | nil =>
          cases (show u = V.str ⟨[c].toArray⟩ from rx)
          refine .inl ⟨c, ⟨z.toArray⟩, rfl, rfl, ?_⟩
          have q := post_same (v := V.bl (ng n (decide (c ∈ z)))) h sr rfl
          simpa using q
        | cons c' r => exact h.elim
    | _ => exact h.elim
  | lst xs => exact seqC xs rfl h
  | frz xs => exact seqC xs rfl h
  | tup xs => exact seqC xs rfl h
  | loc m =>
    unfold inM at h
    dsimp only at h
    cases hs : seqOf (.loc m) st with
    | some xs => rw [hs] at h; exact seqC xs hs h
    | none =>
      rw [hs] at h
      dsimp only at h
      cases q : st[m]? with
      | none => rw [q] at h; exact h.elim
      | some c =>
        rw [q] at h
        cases c with
        | dct kvs =>
          dsimp only at h
          by_cases hk : (keyOf x).isSome = true
          · rw [if_pos hk] at h
            obtain ⟨k', ek⟩ := Option.isSome_iff_exists.mp hk
            obtain ⟨a, rfl, ha⟩ := loc_at ry
            obtain ⟨kv, h1, h2⟩ := sr.cell m _ a q ha
            refine .inr (.inr (.inl ⟨a, valV kv k', rfl, ?_, ?_⟩))
            · rw [keyOf_kV ek rx]
              exact DGet.k h1
            · obtain ⟨l1, l2⟩ := KRs.look ek h2
              have e : (valV kv k').isSome = (lookP kvs x).isSome := by
                cases hl : lookP kvs x with
                | none => rw [l2 hl]; rfl
                | some p => obtain ⟨w, ew, _⟩ := l1 p hl; rw [ew]; rfl
              rw [e]
              exact post_same h sr rfl
          · rw [if_neg hk] at h
            exact h.elim
        | lst xs => exact h.elim
        | ins C fs => exact h.elim
        | dcl kvs =>
          dsimp only at h
          by_cases hk : (lfOf x).isSome = true
          · rw [if_pos hk] at h
            obtain ⟨k', ek⟩ := Option.isSome_iff_exists.mp hk
            obtain ⟨a, rfl, ha⟩ := loc_at ry
            obtain ⟨o, g, l1, l2⟩ := (sr.cell m _ a q ha).getL ek rx
            refine .inr (.inr (.inr ⟨a, o, rfl, g, ?_⟩))
            have e : o.isSome = (lookP kvs x).isSome := by
              cases hl : lookP kvs x with
              | none => rw [l2 hl]; rfl
              | some p => obtain ⟨w, ew, _⟩ := l1 p hl; rw [ew]; rfl
            rw [e]
            exact post_same h sr rfl
          · rw [if_neg hk] at h
            exact h.elim
        | dcn kvs =>
          dsimp only at h
          by_cases hk : (nkT x).isSome = true
          · rw [if_pos hk] at h
            obtain ⟨k', ek⟩ := Option.isSome_iff_exists.mp hk
            obtain ⟨a, rfl, ha⟩ := loc_at ry
            obtain ⟨o, g, l1, l2⟩ := (sr.cell m _ a q ha).getN ek rx
            refine .inr (.inr (.inr ⟨a, o, rfl, g, ?_⟩))
            have e : o.isSome = (lookP kvs x).isSome := by
              cases hl : lookP kvs x with
              | none => rw [l2 hl]; rfl
              | some p => obtain ⟨w, ew, _⟩ := l1 p hl; rw [ew]; rfl
            rw [e]
            exact post_same h sr rfl
          · rw [if_neg hk] at h
            exact h.elim
        | lck kvs => exact h.elim
  | _ => exact h.elim
section
variable {X : Cx} {W : WX} {a b : Expr} {pos : Pos} {ma mb : Rho → M PV}
theorem me_lt (ha : ME X W a ma) (hb : ME X W b mb) : ME X W (.Compare a [.Lt] [b] pos) (eBin ltI ma mb) := me_cmp op_lt (t_cmpI _) ha hb (nomark _)
theorem me_le (ha : ME X W a ma) (hb : ME X W b mb) : ME X W (.Compare a [.LtE] [b] pos) (eBin leI ma mb) := me_cmp op_le (t_cmpI _) ha hb (nomark _)
theorem me_gt (ha : ME X W a ma) (hb : ME X W b mb) : ME X W (.Compare a [.Gt] [b] pos) (eBin gtI ma mb) := me_cmp op_gt (t_cmpI _) ha hb (nomark _)
theorem me_ge (ha : ME X W a ma) (hb : ME X W b mb) : ME X W (.Compare a [.GtE] [b] pos) (eBin geI ma mb) := me_cmp op_ge (t_cmpI _) ha hb (nomark _)
theorem me_eq (hu : X.A.units + 64 < cLine) (ha : ME X W a ma) (hb : ME X W b mb) : ME X W (.Compare a [.Eq] [b] pos) (eBin eqM ma mb) := me_cmp (op_eqM hu) t_eq ha hb (nomark _)
theorem me_ne (hu : X.A.units + 64 < cLine) (ha : ME X W a ma) (hb : ME X W b mb) : ME X W (.Compare a [.NotEq] [b] pos) (eBin neM ma mb) := me_cmp (op_neM hu) t_ne ha hb (nomark _)
theorem me_is (ha : ME X W a ma) (hb : ME X W b mb) : ME X W (.Compare a [.Is] [b] pos) (eBin isN ma mb) := me_cmp (op_isN.or op_is_bl) t_isN ha hb (nomark _)
theorem me_isnot (ha : ME X W a ma) (hb : ME X W b mb) : ME X W (.Compare a [.IsNot] [b] pos) (eBin notN ma mb) := me_cmp (op_notN.or op_isnot_bl) t_notN ha hb (nomark _)
theorem me_in (hu : X.A.units + 64 < cLine) (ha : ME X W a ma) (hb : ME X W b mb) (hm : behindInMarks .In b = false) : ME X W (.Compare a [.In] [b] pos) (eBin (inM false) ma mb) := me_cmp (op_inM hu) t_in ha hb hm
theorem me_notin (hu : X.A.units + 64 < cLine) (ha : ME X W a ma) (hb : ME X W b mb) (hm : behindInMarks .NotIn b = false) : ME X W (.Compare a [.NotIn] [b] pos) (eBin (inM true) ma mb) := me_cmp (op_notInM hu) t_in ha hb hm
theorem mt_lt (ha : ME X W a ma) (hb : ME X W b mb) : MT X W (.Compare a [.Lt] [b] pos) (eB (eBin ltI ma mb)) := mt_cmp op_lt (t_cmpI _) ha hb (nomark _)
theorem mt_le (ha : ME X W a ma) (hb : ME X W b mb) : MT X W (.Compare a [.LtE] [b] pos) (eB (eBin leI ma mb)) := mt_cmp op_le (t_cmpI _) ha hb (nomark _)
theorem mt_gt (ha : ME X W a ma) (hb : ME X W b mb) : MT X W (.Compare a [.Gt] [b] pos) (eB (eBin gtI ma mb)) := mt_cmp op_gt (t_cmpI _) ha hb (nomark _)
theorem mt_ge (ha : ME X W a ma) (hb : ME X W b mb) : MT X W (.Compare a [.GtE] [b] pos) (eB (eBin geI ma mb)) := mt_cmp op_ge (t_cmpI _) ha hb (nomark _)
theorem mt_eq (hu : X.A.units + 64 < cLine) (ha : ME X W a ma) (hb : ME X W b mb) : MT X W (.Compare a [.Eq] [b] pos) (eB (eBin eqM ma mb)) := mt_cmp (op_eqM hu) t_eq ha hb (nomark _)
theorem mt_ne (hu : X.A.units + 64 < cLine) (ha : ME X W a ma) (hb : ME X W b mb) : MT X W (.Compare a [.NotEq] [b] pos) (eB (eBin neM ma mb)) := mt_cmp (op_neM hu) t_ne ha hb (nomark _)
theorem mt_is (ha : ME X W a ma) (hb : ME X W b mb) : MT X W (.Compare a [.Is] [b] pos) (eB (eBin isN ma mb)) := mt_cmp (op_isN.or op_is_bl) t_isN ha hb (nomark _)
theorem mt_isnot (ha : ME X W a ma) (hb : ME X W b mb) : MT X W (.Compare a [.IsNot] [b] pos) (eB (eBin notN ma mb)) := mt_cmp (op_notN.or op_isnot_bl) t_notN ha hb (nomark _)
theorem mt_in (hu : X.A.units + 64 < cLine) (ha : ME X W a ma) (hb : ME X W b mb) (hm : behindInMarks .In b = false) : MT X W (.Compare a [.In] [b] pos) (eB (eBin (inM false) ma mb)) := mt_cmp (op_inM hu) t_in ha hb hm
theorem mt_notin (hu : X.A.units + 64 < cLine) (ha : ME X W a ma) (hb : ME X W b mb) (hm : behindInMarks .NotIn b = false) : MT X W (.Compare a [.NotIn] [b] pos) (eB (eBin (inM true) ma mb)) := mt_cmp (op_notInM hu) t_in ha hb hm
end
end MP

set_option maxRecDepth 100000
set_option maxHeartbeats 1000000
namespace MP
open PySem L2
def optM {α : Type} : Option α → M α
  | some a => M.ret a
  | none => M.fail
def dctOf (x : PV) (st : Sto) : Option (List (PV × PV)) := match x with
  | .loc n => match st[n]? with
    | some (.dct kvs) => some kvs
    | _ => none
  | _ => none
theorem dctOf_at {K : KW} {H : Hp} {μ : Mu} {st : Sto} {x : PV} {v : V} {kvs : List (PV × PV)} (sr : SR K μ st H) (r : VR K H μ x v) (h : dctOf x st = some kvs) :
    ∃ n a kv, x = .loc n ∧ v = .ref a ∧ μ.l[n]? = some a ∧ st[n]? = some (.dct kvs) ∧ H a = some (.dK kv) ∧ KRs K H μ kvs kv := by
  cases x with
  | loc n =>
    obtain ⟨a, rfl, ha⟩ := loc_at r
    unfold dctOf at h
    dsimp only at h
    cases q : st[n]? with
    | none => rw [q] at h; cases h
    | some c =>
      rw [q] at h
      cases c with
      | dct k =>
        cases h
        obtain ⟨kv, h1, h2⟩ := sr.cell n _ a q ha
        exact ⟨n, a, kv, rfl, rfl, ha, q, h1, h2⟩
      | lst xs => cases h
      | ins C fs => cases h
      | dcl kvs => cases h
      | dcn kvs => cases h
      | lck kvs => cases h
  | _ => cases h
def gdOf (x : PV) (y : PV) (st : Sto) : Option (List (PV × PV)) := match x with
  | .loc n => match st[n]? with
    | some (.dcl kvs) => if (lfOf y).isSome = true then some kvs else none
    | some (.dcn kvs) => if (nkT y).isSome = true then some kvs else none
    | _ => none
  | _ => none
theorem gdOf_at {K : KW} {H : Hp} {μ : Mu} {st : Sto} {x y : PV} {v u : V} {kvs : List (PV × PV)} (sr : SR K μ st H) (r : VR K H μ x v) (ry : VR K H μ y u) (h : gdOf x y st = some kvs) :
    ∃ a o, v = .ref a ∧ GGet K H a u o ∧ (∀ p, lookP kvs y = some p → ∃ v, o = some v ∧ VR K H μ p v) ∧ (lookP kvs y = none → o = none) := by
  cases x with
  | loc n =>
    obtain ⟨a, rfl, ha⟩ := loc_at r
    unfold gdOf at h
    dsimp only at h
    cases q : st[n]? with
    | none => rw [q] at h; cases h
    | some c =>
      rw [q] at h
      cases c with
      | dct k => cases h
      | lst xs => cases h
      | ins C fs => cases h
      | lck k => cases h
      | dcl k =>
        dsimp only at h
        by_cases hk : (lfOf y).isSome = true
        · rw [if_pos hk] at h
          cases h
          obtain ⟨k', ek⟩ := Option.isSome_iff_exists.mp hk
          obtain ⟨o, g⟩ := (sr.cell n _ a q ha).getL ek ry
          exact ⟨a, o, rfl, g⟩
        · rw [if_neg hk] at h; cases h
      | dcn k =>
        dsimp only at h
        by_cases hk : (nkT y).isSome = true
        · rw [if_pos hk] at h
          cases h
          obtain ⟨k', ek⟩ := Option.isSome_iff_exists.mp hk
          obtain ⟨o, g⟩ := (sr.cell n _ a q ha).getN ek ry
          exact ⟨a, o, rfl, g⟩
        · rw [if_neg hk] at h; cases h
  | _ => cases h
def ixM (x y : PV) : M PV := fun st => match seqOf x st with
  | some xs => match y with
    | .int i => optM (L2.atI xs i) st
    | _ => .bad
  | none => match x with
    | .str z => match y with
      | .int i => if z.length ≤ SZ then (match L2.atI z i with | some c => .ok (.str [c]) st | none => .bad) else .bad
      | _ => .bad
    | x => match dctOf x st with
      | some kvs => if (keyOf y).isSome = true then optM (lookP kvs y) st else .bad
      | none => match gdOf x y st with
        | some kvs => optM (lookP kvs y) st
        | none => .bad
def rIxM (K : KW) : R2 := fun x y H Q => (rIxL K x y H Q ∨ rIxT K x y H Q ∨ rIxS x y H Q) ∨ (∃ a v, x = .ref a ∧ DGet H a y (some v) ∧ Q v H) ∨ ∃ a v, x = .ref a ∧ GGet K H a y (some v) ∧ Q v H
theorem ix_dictG {X : Cx} (hu : X.A.units + 64 < cLine) : IxR X (fun x y H Q => ∃ a v, x = .ref a ∧ GGet (kw X) H a y (some v) ∧ Q v H) := by
  intro value slice pins s σ H x y v u Q I rx ry h hs
  obtain ⟨a, w, rfl, g, q⟩ := h
  cases (show v = Value.ref a from rx)
  exact PyProof.Rows.tail_any (g_typeIs I g) PySem.F.slot_dict_getitem.lookup (g_getItem hu I g ry fun w' s3 I3 rw' => ⟨w, H, I3, rw', q⟩) hs
theorem ix_dict {X : Cx} (hu : X.A.units + 1 < cLine) : IxR X (fun x y H Q => ∃ a v, x = .ref a ∧ DGet H a y (some v) ∧ Q v H) := by
  intro value slice pins s σ H x y v u Q I rx ry h hs
  obtain ⟨a, w, rfl, g, q⟩ := h
  cases (show v = Value.ref a from rx)
  exact PyProof.Rows.tail_any (dict_typeIs I g) PySem.F.slot_dict_getitem.lookup (d_getItem hu I g ry fun w' s3 I3 rw' => ⟨w, H, I3, rw', q⟩) hs
theorem ix_M {X : Cx} (hu : X.A.units + 64 < cLine) : IxR X (rIxM (kw X)) := ix_seq.or ((ix_dict (by omega)).or (ix_dictG hu))
theorem t_ix {K : KW} : T2 K (rIxM K) ixM := by
  intro μ st H x y u v E Q sr rx ry h
  unfold ixM at h
  cases hs : seqOf x st with
  | some xs =>
    rw [hs] at h
    cases y with
    | int i =>
      cases (show v = V.int i from ry)
      dsimp only at h
      obtain ⟨a, vs, rfl, hq, rs⟩ := seqOf_at sr rx hs
      cases q : L2.atI xs i with
      | none => rw [q] at h; exact h.elim
      | some p =>
        rw [q] at h
        obtain ⟨w, e, rw'⟩ := VRs.atI rs q
        have z := post_same h sr rw'
        rcases hq with hq | hq
        · exact .inl (.inl ⟨a, vs, i, w, rfl, rfl, hq, e, z⟩)
        · exact .inl (.inr (.inl ⟨a, vs, i, w, rfl, rfl, hq, e, z⟩))
    | _ => exact h.elim
  | none =>
    rw [hs] at h
    dsimp only at h
    have dcase : PostG K E (VR K) Q μ H (match dctOf x st with
      | some kvs => if (keyOf y).isSome = true then optM (lookP kvs y) st else .bad
      | none => match gdOf x y st with
        | some kvs => optM (lookP kvs y) st
        | none => .bad) → rIxM K u v H Q := by
      intro h
      cases hd : dctOf x st with
      | none =>
        rw [hd] at h
        dsimp only at h
        cases hg : gdOf x y st with
        | none => rw [hg] at h; exact h.elim
        | some kvs =>
          rw [hg] at h
          dsimp only at h
          obtain ⟨a, o, rfl, g, l1, l2⟩ := gdOf_at sr rx ry hg
          cases q : lookP kvs y with
          | none => rw [q] at h; exact h.elim
          | some p =>
            rw [q] at h
            obtain ⟨w, rfl, rw'⟩ := l1 p q
            exact .inr (.inr ⟨a, w, rfl, g, post_same h sr rw'⟩)
      | some kvs =>
        rw [hd] at h
        dsimp only at h
        by_cases hk : (keyOf y).isSome = true
        · rw [if_pos hk] at h
          obtain ⟨k', ek⟩ := Option.isSome_iff_exists.mp hk
          obtain ⟨n, a, kv, ex, rfl, ha, hc, h1, h2⟩ := dctOf_at sr rx hd
          cases q : lookP kvs y with
          | none => rw [q] at h; exact h.elim
          | some p =>
            rw [q] at h
            obtain ⟨w, e, rw'⟩ := (KRs.look ek h2).1 p q
            refine .inr (.inl ⟨a, w, rfl, ?_, post_same h sr rw'⟩)
            rw [keyOf_kV ek ry, ← e]
            exact DGet.k h1
        · rw [if_neg hk] at h
          exact h.elim
    cases x with
    | str z =>
      cases (show u = V.str ⟨z.toArray⟩ from rx)
      cases y with
      | int i =>
        cases (show v = V.int i from ry)
        dsimp only at h
        by_cases hz : z.length ≤ SZ
        · rw [if_pos hz] at h
          cases q : L2.atI z i with
          | none => rw [q] at h; exact h.elim
          | some c =>
            rw [q] at h
            refine .inl (.inr (.inr ⟨⟨z.toArray⟩, i, c, rfl, rfl, by rw [str_len, sz_eq]; exact hz, ?_, post_same h sr rfl⟩))
            simpa using q
        · rw [if_neg hz] at h
          exact h.elim
      | _ => exact h.elim
    | _ => exact dcase h
section
variable {X : Cx} {W : WX} {a b : Expr} {pos : Pos} {ma mb : Rho → M PV}
theorem me_sub_ix (hu : X.A.units + 64 < cLine) (ha : ME X W a ma) (hb : ME X W b mb) (hs : PlainIx b) : ME X W (.Subscript a b pos) (eBin ixM ma mb) := me_ix (ix_M hu) t_ix ha hb hs
end
def cutL {α : Type} (xs : List α) (lo hi : Option Int) : List α := (xs.drop (HT.sIx xs.length 0 lo)).take (HT.sIx xs.length xs.length hi - HT.sIx xs.length 0 lo)
theorem VRs.cut {K : PySem.W.Frag} {H : Hp} {μ : Mu} {ps : List PV} {vs : List V} (r : VRs K H μ ps vs) (lo hi : Option Int) : VRs K H μ (cutL ps lo hi) (cutV vs lo hi) := by
  unfold cutL cutV
  rw [VRs.length r]
  exact VRs.take _ (VRs.drop _ r)
def slM (x : PV) (lo hi : Option Int) : M PV := match x with
  | .str z => if z.length ≤ SZ then M.ret (.str (cutL z lo hi)) else M.fail
  | .tup xs => M.ret (.tup (cutL xs lo hi))
  | x => fun st => match seqOf x st with
    | some xs => .ok (.lst (cutL xs lo hi)) st
    | none => .bad
def slN (x : PV) (lo hi : Option Int) : M PV := match x with
  | .str _ => M.fail
  | .tup _ => M.fail
  | x => fun st => match seqOf x st with
    | some xs => .ok (.loc st.length) (st ++ [.lst (cutL xs lo hi)])
    | none => .bad
def oNone : Rho → M (Option Int) := fun _ => M.ret none
def asI : PV → M Int
  | .int i => M.ret i
  | _ => M.fail
def oSome (m : Rho → M PV) : Rho → M (Option Int) := fun ρ => M.bind (m ρ) fun x => M.bind (asI x) fun i => M.ret (some i)
def tMO (K : KW) (W : WX) (m : Rho → M (Option Int)) : TO := fun σ H Q => ∃ μ st ρ, ER K H μ ρ σ ∧ SR K μ st H ∧ PostG K (fun c d H' => W c d σ H') (fun _ _ (a : Option Int) b => a = b) Q μ H (m ρ st)
def MO (X : Cx) (W : WX) (e : Option Expr) (m : Rho → M (Option Int)) : Prop := PO X e (tMO (kw X) W m)
theorem PO.imp {X : Cx} {e : Option Expr} {t t' : TO} (h : PO X e t) (i : ∀ σ H Q, t' σ H Q → t σ H Q) : PO X e t' := ⟨fun pins s σ H Q I q => h.run pins s σ H Q I (i σ H Q q)⟩
def eSl (f : PV → Option Int → Option Int → M PV) (me : Rho → M PV) (ml mh : Rho → M (Option Int)) : Rho → M PV := fun ρ => M.bind (me ρ) fun x => M.bind (ml ρ) fun l => M.bind (mh ρ) fun h => f x l h
def rSlM (K : PySem.W.Frag) : V → Option Int → Option Int → Hp → VK → Prop := fun x lo hi H Q => rSlS x lo hi H Q ∨ rSlA K x lo hi H Q ∨ rSlL K x lo hi H Q
section
variable {X : Cx} {W : WX} {e : Expr} {lo hi : Option Expr} {pos p2 : Pos} {me : Rho → M PV} {ml mh : Rho → M (Option Int)}
theorem mo_none : MO X W none oNone := PO.imp po_none fun σ H Q ⟨μ, st, ρ, er, sr, h⟩ => h μ H none (Gr.refl _ _) sr rfl
theorem mo_some (he : ME X W e me) : MO X W (some e) (oSome me) := PO.imp (po_some he) fun σ H Q ⟨μ, st, ρ, er, sr, h⟩ => ⟨μ, st, ρ, er, sr, (PostG.bind h).mono fun u H1 ⟨μ1, st1, x, g1, s1, rx, h1⟩ => by
  cases x with
  | int i => exact ⟨i, rx, h1 μ1 H1 _ (Gr.refl _ _) s1 rfl⟩
  | _ => exact h1.elim⟩
def TSl (K : KW) (r : V → Option Int → Option Int → Hp → VK → Prop) (f : PV → Option Int → Option Int → M PV) : Prop :=
  ∀ (μ : Mu) (st : Sto) (H : Hp) (x : PV) (lo hi : Option Int) (u : V) (E : XK) (Q : VK), SR K μ st H → VR K H μ x u → PostG K E (VR K) Q μ H (f x lo hi st) → r u lo hi H Q
theorem me_slG {f : PV → Option Int → Option Int → M PV} (t : TSl (kw X) (rSlM X.K) f) (he : ME X W e me) (hl : MO X W lo ml) (hh : MO X W hi mh) : ME X W (.Subscript e (.Slice lo hi none p2) pos) (eSl f me ml mh) :=
  PE.imp (pe_slice (sl_str.or (sl_tupA.or sl_list)) he hl hh) fun σ H Q ⟨μ, st, ρ, er, sr, h⟩ => ⟨μ, st, ρ, er, sr, (PostG.bind h).mono fun u H1 ⟨μ1, st1, x, g1, s1, rx, h1⟩ =>
    ⟨μ1, st1, ρ, er.mono g1, s1, (PostG.bind h1).mono fun l H2 ⟨μ2, st2, l', g2, s2, el, h2⟩ => ⟨μ2, st2, ρ, (er.mono g1).mono g2, s2, (PostG.bind h2).mono fun k H3 ⟨μ3, st3, k', g3, s3, ek, h3⟩ => by
      subst el ek
      exact t μ3 st3 H3 x l' k' u _ Q s3 (VR.mono g3 x u (VR.mono g2 x u rx)) h3⟩⟩⟩
theorem sl_lists {K : KW} {μ : Mu} {st : Sto} {H : Hp} {x : PV} {lo hi : Option Int} {u : V} {E : XK} {Q : VK} (sr : SR K μ st H) (rx : VR K H μ x u) (nt : ∀ xs, x ≠ .tup xs)
    (h : PostG K E (VR K) Q μ H (match seqOf x st with
    | some xs => .ok (.lst (cutL xs lo hi)) st
    | none => .bad)) : rSlM K u lo hi H Q := by
  cases q : seqOf x st with
  | none => rw [q] at h; exact h.elim
  | some xs =>
    rw [q] at h
    obtain ⟨a, vs, rfl, hq, rs⟩ : ∃ a vs, u = .ref a ∧ SqL K H a vs ∧ VRs K H μ xs vs := by
      cases x with
      | lst xs => cases q; obtain ⟨a, vs, e, l, rs⟩ := lst_at rx; exact ⟨a, vs, e, l.sq, rs⟩
      | frz xs => cases q; obtain ⟨a, vs, e, l, rs⟩ := frz_at rx; exact ⟨a, vs, e, l.sq, rs⟩
      | loc n => obtain ⟨a, vs, e, l, rs⟩ := listOf_at sr rx (show listOf (.loc n) st = some xs from q); exact ⟨a, vs, e, SqL.of l, rs⟩
      | tup xs => exact absurd rfl (nt xs)
      | _ => cases q
    exact .inr (.inr ⟨a, vs, rfl, hq, fun p hp => post_lst sr (VRs.cut rs lo hi) hp h⟩)
theorem t_sl {K : KW} : TSl K (rSlM K) slM := by
  intro μ st H x lo hi u E Q sr rx h
  cases x with
  | str z =>
    cases (show u = V.str ⟨z.toArray⟩ from rx)
    unfold slM at h
    dsimp only at h
    by_cases hz : z.length ≤ SZ
    · rw [if_pos hz] at h
      refine .inl ⟨⟨z.toArray⟩, rfl, by rw [str_len, sz_eq]; exact hz, ?_⟩
      have e : cutS ⟨z.toArray⟩ lo hi = ⟨(cutL z lo hi).toArray⟩ := by
        unfold cutS cutL
        rw [str_len]
      rw [e]
      exact post_same h sr rfl
    · rw [if_neg hz] at h
      exact h.elim
  | tup xs =>
    obtain ⟨a, vs, rfl, t, rs⟩ := tup_at rx
    refine .inr (.inl ⟨a, vs, rfl, t.sq, fun hw => ?_, fun _ p hp => post_tup sr (VRs.cut rs lo hi) hp h⟩)
    have h' : PostG K E (VR K) Q μ H (.ok (.tup (cutL xs lo hi)) st) := h
    have e : cutL xs lo hi = xs := by
      unfold cutL
      rw [VRs.length rs, hw.1, hw.2, List.drop_zero, Nat.sub_zero, ← VRs.length rs]
      simp
    rw [e] at h'
    exact post_same h' sr rx
  | lst xs => exact sl_lists sr rx (fun _ z => nomatch z) h
  | frz xs => exact sl_lists sr rx (fun _ z => nomatch z) h
  | loc n => exact sl_lists sr rx (fun _ z => nomatch z) h
  | _ => exact h.elim
theorem me_slice (he : ME X W e me) (hl : MO X W lo ml) (hh : MO X W hi mh) : ME X W (.Subscript e (.Slice lo hi none p2) pos) (eSl slM me ml mh) := me_slG t_sl he hl hh
theorem t_slN {K : KW} : TSl K (rSlM K) slN := by
  intro μ st H x lo hi u E Q sr rx h
  have go : ∀ (nt : ∀ xs, x ≠ .tup xs), PostG K E (VR K) Q μ H (match seqOf x st with
    | some xs => .ok (.loc st.length) (st ++ [.lst (cutL xs lo hi)])
    | none => .bad) → rSlM K u lo hi H Q := by
    intro nt h
    cases q : seqOf x st with
    | none => rw [q] at h; exact h.elim
    | some xs =>
      rw [q] at h
      obtain ⟨a, vs, rfl, hq, rs⟩ : ∃ a vs, u = .ref a ∧ SqL K H a vs ∧ VRs K H μ xs vs := by
        cases x with
        | lst xs => cases q; obtain ⟨a, vs, e, l, rs⟩ := lst_at rx; exact ⟨a, vs, e, l.sq, rs⟩
        | frz xs => cases q; obtain ⟨a, vs, e, l, rs⟩ := frz_at rx; exact ⟨a, vs, e, l.sq, rs⟩
        | loc n => obtain ⟨a, vs, e, l, rs⟩ := listOf_at sr rx (show listOf (.loc n) st = some xs from q); exact ⟨a, vs, e, SqL.of l, rs⟩
        | tup xs => exact absurd rfl (nt xs)
        | _ => cases q
      exact .inr (.inr ⟨a, vs, rfl, hq, fun p hp => post_cell h sr hp ⟨_, upd_same, VRs.mono (gr_alloc hp) _ _ (VRs.cut rs lo hi)⟩⟩)
  cases x with
  | str z => exact h.elim
  | tup xs => exact h.elim
  | lst xs => exact go (fun _ z => nomatch z) h
  | frz xs => exact go (fun _ z => nomatch z) h
  | loc n => exact go (fun _ z => nomatch z) h
  | _ => exact h.elim
theorem me_sliceN (he : ME X W e me) (hl : MO X W lo ml) (hh : MO X W hi mh) : ME X W (.Subscript e (.Slice lo hi none p2) pos) (eSl slN me ml mh) := me_slG t_slN he hl hh
end
section
variable {X : Cx} {W : WX} {es : List Expr} {pos : Pos} {ma : Rho → M (List PV)}
def mkTup (xs : List PV) : M PV := if xs.length ≤ SZ then M.ret (.tup xs) else M.fail
def mkLst (xs : List PV) : M PV := if xs.length ≤ SZ then M.ret (.lst xs) else M.fail
def mkLstN (xs : List PV) : M PV := fun st => if xs.length ≤ SZ then .ok (.loc st.length) (st ++ [.lst xs]) else .bad
theorem me_tup {k : Nat} (h : MA X W es ma) : ME X W (.Tuple es k pos) (eCall mkTup ma) :=
  PE.imp (pe_tup h) fun σ H Q ⟨μ, st, ρ, er, sr, h⟩ => ⟨μ, st, ρ, er, sr, (PostG.bind h).mono fun us H1 ⟨μ1, st1, xs, g1, s1, rxs, h1⟩ => by
    unfold mkTup at h1
    by_cases hz : xs.length ≤ SZ
    · rw [if_pos hz] at h1
      exact ⟨by rw [← VRs.length rxs, sz_eq]; exact hz, fun p hp => post_tup s1 rxs hp h1⟩
    · rw [if_neg hz] at h1
      exact h1.elim⟩
theorem me_lst (h : MA X W es ma) : ME X W (.List es pos) (eCall mkLst ma) :=
  PE.imp (pe_lst h) fun σ H Q ⟨μ, st, ρ, er, sr, h⟩ => ⟨μ, st, ρ, er, sr, (PostG.bind h).mono fun us H1 ⟨μ1, st1, xs, g1, s1, rxs, h1⟩ => by
    unfold mkLst at h1
    by_cases hz : xs.length ≤ SZ
    · rw [if_pos hz] at h1
      exact ⟨by rw [← VRs.length rxs, sz_eq]; exact hz, fun p hp => post_lst s1 rxs hp h1⟩
    · rw [if_neg hz] at h1
      exact h1.elim⟩
theorem me_lstN (h : MA X W es ma) : ME X W (.List es pos) (eCall mkLstN ma) :=
  PE.imp (pe_lst h) fun σ H Q ⟨μ, st, ρ, er, sr, h⟩ => ⟨μ, st, ρ, er, sr, (PostG.bind h).mono fun us H1 ⟨μ1, st1, xs, g1, s1, rxs, h1⟩ => by
    unfold mkLstN at h1
    by_cases hz : xs.length ≤ SZ
    · rw [if_pos hz] at h1
      exact ⟨by rw [← VRs.length rxs, sz_eq]; exact hz, fun p hp => post_cell h1 s1 hp ⟨_, upd_same, VRs.mono (gr_alloc hp) _ _ rxs⟩⟩
    · rw [if_neg hz] at h1
      exact h1.elim⟩
def eDct0 : Rho → M PV := fun _ st => .ok (.loc st.length) (st ++ [.dct []])
theorem me_dict0 : ME X W (.Dict [] [] pos) eDct0 := PE.imp pe_dnewK fun σ H Q ⟨μ, st, ρ, er, sr, h⟩ p hp => post_cell h sr hp ⟨_, upd_same, rfl⟩
theorem me_dictL0 : ME X W (.Dict [] [] pos) (fun _ st => .ok (.loc st.length) (st ++ [.dcl []])) := by
  refine PE.imp (t := fun σ H Q => ∀ p, H p = none → (p == sysModules) = false → Q (.ref p) (upd H p (leafD X.w p []))) ⟨fun pins s σ H Q I h => ?_⟩ fun σ H Q ⟨μ, st, ρ, er, sr, h⟩ p hp hs => post_cell h sr hp ⟨[], upd_same, hs, Nat.zero_le _, .nil, List.nodup_nil⟩
  refine thn (pe_dnewK.run pins s σ H (fun v H' => ∃ p, v = .ref p ∧ H p = none ∧ H' = upd H p (.dK [])) I (fun p hp => ⟨p, rfl, hp, rfl⟩)) fun u s' ⟨v, H', I', rv, p, ev, hp, eH⟩ => ?_
  subst ev eH
  obtain ⟨z, hd, vs, rel, dd⟩ := dk_of I'.hok upd_same
  cases rel
  obtain ⟨o, es, ep, h1, h2, h3, h4, h5, h6⟩ := dd
  have he : es.toList = [] := by
    generalize es.toList = l at h5
    cases h5; rfl
  refine ⟨.ref p, upd H p (leafD X.w p []), ?_, rv, h p hp hd⟩
  have I2 := I'.write (x := p) (e := p) (o := leafD X.w p []) (t' := s'.toks) (h' := s'.heap) (by rw [upd_same]; exact True.intro) (.inl rfl) (fun b q _ z => z) ⟨o, h1⟩ ⟨⟨o, es, ep, h1, h2, h3, by rw [he]; exact .nil⟩, ⟨o, h1⟩, leafD_stay⟩
  rw [upd_upd] at I2
  exact I2
theorem me_dictN0 : ME X W (.Dict [] [] pos) (fun _ st => .ok (.loc st.length) (st ++ [.dcn []])) := by
  refine PE.imp (t := fun σ H Q => ∀ p, H p = none → (p == sysModules) = false → Q (.ref p) (upd H p (nestD X.w p []))) ⟨fun pins s σ H Q I h => ?_⟩ fun σ H Q ⟨μ, st, ρ, er, sr, h⟩ p hp hs => post_cell h sr hp ⟨[], upd_same, hs, Nat.zero_le _, .nil, List.nodup_nil⟩
  refine thn (pe_dnewK.run pins s σ H (fun v H' => ∃ p, v = .ref p ∧ H p = none ∧ H' = upd H p (.dK [])) I (fun p hp => ⟨p, rfl, hp, rfl⟩)) fun u s' ⟨v, H', I', rv, p, ev, hp, eH⟩ => ?_
  subst ev eH
  obtain ⟨z, hd, vs, rel, dd⟩ := dk_of I'.hok upd_same
  cases rel
  obtain ⟨o, es, ep, h1, h2, h3, h4, h5, h6⟩ := dd
  have he : es.toList = [] := by
    generalize es.toList = l at h5
    cases h5; rfl
  refine ⟨.ref p, upd H p (nestD X.w p []), ?_, rv, h p hp hd⟩
  have I2 := I'.write (x := p) (e := p) (o := nestD X.w p []) (t' := s'.toks) (h' := s'.heap) (by rw [upd_same]; exact True.intro) (.inl rfl) (fun b q _ z => z) ⟨o, h1⟩ ⟨⟨o, es, ep, h1, h2, h3, by rw [he]; rfl⟩, ⟨o, h1⟩, nestD_stay⟩
  rw [upd_upd] at I2
  exact I2
def eDcl0 : Rho → M PV := fun _ st => .ok (.loc st.length) (st ++ [.dcl []])
def eDcn0 : Rho → M PV := fun _ st => .ok (.loc st.length) (st ++ [.dcn []])
theorem me_dictL : ME X W (.Dict [] [] pos) eDcl0 := me_dictL0
theorem me_dictN : ME X W (.Dict [] [] pos) eDcn0 := me_dictN0
def pairsM : List ((Rho → M PV) × (Rho → M PV)) → Rho → M (List (PV × PV))
  | [], _ => M.ret []
  | m :: r, ρ => M.bind (m.1 ρ) fun k => M.bind (m.2 ρ) fun v => M.bind (pairsM r ρ) fun ps => M.ret ((k, v) :: ps)
def PRs (K : PySem.W.Frag) (H : Hp) (μ : Mu) : List (PV × PV) → List (V × V) → Prop
  | [], ps => ps = []
  | p :: r, ps => ∃ k v t, ps = (k, v) :: t ∧ VR K H μ p.1 k ∧ VR K H μ p.2 v ∧ PRs K H μ r t
theorem PRs.mono {K : PySem.W.Frag} {H H' : Hp} {μ μ' : Mu} (g : Gr μ H μ' H') : ∀ (ps : List (PV × PV)) (kv : List (V × V)), PRs K H μ ps kv → PRs K H' μ' ps kv
  | [], _, h => h
  | p :: ps, kv, h => by
    obtain ⟨k, v, t, e, hk, h1, h2⟩ := h
    exact ⟨k, v, t, e, VR.mono g _ _ hk, VR.mono g _ _ h1, PRs.mono g ps t h2⟩
theorem pairs_imp {K : KW} {W : WX} {σ : St} {ρ : Rho} : ∀ (ms : List ((Rho → M PV) × (Rho → M PV))) (μ : Mu) (st : Sto) (H : Hp) (Q : List (V × V) → Hp → Prop), ER K H μ ρ σ → SR K μ st H →
    PostG K (fun c d H' => W c d σ H') (PRs K) Q μ H (pairsM ms ρ st) → tPairs (ms.map fun m => (tM K W m.1, tM K W m.2)) σ H Q
  | [], μ, st, H, Q, er, sr, h => h μ H [] (Gr.refl _ _) sr rfl
  | m :: r, μ, st, H, Q, er, sr, h => ⟨μ, st, ρ, er, sr, (PostG.bind h).mono fun u H1 ⟨μ1, st1, x, g1, s1, rx, h1⟩ => ⟨μ1, st1, ρ, er.mono g1, s1, (PostG.bind h1).mono fun w H2 ⟨μ2, st2, y, g2, s2, ry, h2⟩ =>
      pairs_imp r μ2 st2 H2 _ ((er.mono g1).mono g2) s2 ((PostG.bind h2).mono fun ps H3 ⟨μ3, st3, qs, g3, s3, rs, h3⟩ => h3 μ3 H3 _ (Gr.refl _ _) s3 ⟨u, w, ps, rfl, VR.mono g3 x u (VR.mono g2 x u rx), VR.mono g3 y w ry, rs⟩)⟩⟩
def mergeP (kvs more : List (PV × PV)) : List (PV × PV) := more.foldl (fun acc kv => putP acc kv.1 kv.2) kvs
def keysOk (kvs : List (PV × PV)) : Bool := kvs.all fun kv => (keyOf kv.1).isSome
def eDct (ms : List ((Rho → M PV) × (Rho → M PV))) : Rho → M PV := fun ρ => M.bind (pairsM ms ρ) fun ps st => if keysOk ps = true ∧ ps.length ≤ 15 then .ok (.loc st.length) (st ++ [.dct (mergeP [] ps)]) else .bad
def MPs (X : Cx) (W : WX) (pos : Pos) (keys : List (Option Expr)) (values : List Expr) (ms : List ((Rho → M PV) × (Rho → M PV))) : Prop := PPs X pos keys values (ms.map fun m => (tM (kw X) W m.1, tM (kw X) W m.2))
theorem mps_nil : MPs X W pos [] [] [] := pps_nil
theorem mps_cons {k v : Expr} {ks : List (Option Expr)} {vs : List Expr} {mk mv : Rho → M PV} {ms : List ((Rho → M PV) × (Rho → M PV))} (hk : ME X W k mk) (hv : ME X W v mv) (hr : MPs X W pos ks vs ms) : MPs X W pos (some k :: ks) (v :: vs) ((mk, mv) :: ms) := pps_cons hk hv hr
theorem PRs.keys {K : PySem.W.Frag} {H : Hp} {μ : Mu} : ∀ {ps : List (PV × PV)} {kv : List (V × V)}, PRs K H μ ps kv → keysOk ps = true → ∃ ks : List (Key × V), kv = ks.map (fun x => (kV x.1, x.2)) ∧ KRs K H μ ps ks
  | [], kv, h, _ => by have e : kv = [] := h; subst e; exact ⟨[], rfl, rfl⟩
  | p :: ps, kv, h, hk => by
    obtain ⟨k, v, t, rfl, h1, h2, h3⟩ := h
    have hk' : (keyOf p.1).isSome = true ∧ keysOk ps = true := by simpa [keysOk] using hk
    obtain ⟨k', ek⟩ := Option.isSome_iff_exists.mp hk'.1
    obtain ⟨ks, e, r⟩ := PRs.keys h3 hk'.2
    exact ⟨(k', v) :: ks, by rw [List.map_cons, ← e, keyOf_kV ek h1], k', v, ks, rfl, ek, h2, r⟩
theorem KRs.merge {K : PySem.W.Frag} {H : Hp} {μ : Mu} : ∀ {ps : List (PV × PV)} {ks : List (Key × V)} {qs : List (PV × PV)} {ls : List (Key × V)}, KRs K H μ ps ks → KRs K H μ qs ls → KRs K H μ (mergeP qs ps) (mergeK ls ks)
  | [], ks, qs, ls, h, r => by have e : ks = [] := h; subst e; exact r
  | p :: ps, ks, qs, ls, h, r => by
    obtain ⟨k, v, t, rfl, ek, h1, h2⟩ := h
    show KRs K H μ (mergeP (putP qs p.1 p.2) ps) (mergeK (putK ls k v) t)
    exact KRs.merge h2 (r.put ek h1)
theorem me_dict {keys : List (Option Expr)} {values : List Expr} {ms : List ((Rho → M PV) × (Rho → M PV))} (h : MPs X W pos keys values ms) (hall : keys.all (·.isSome) = true := by kernel_rfl) (hl : keys.length = values.length := by kernel_rfl) (h0 : keys ≠ [] := by intro z; cases z) (h15 : keys.length ≤ 15 := by decide) : ME X W (.Dict keys values pos) (eDct ms) :=
  PE.imp (pe_disp h hall hl h0 h15) fun σ H Q ⟨μ, st, ρ, er, sr, h⟩ p hp => pairs_imp ms μ st _ _ (er.mono (gr_new hp)) (sr.new hp) ((PostG.bindAt h (gr_new (o := .dK []) hp)).mono fun ps H1 ⟨μ1, st1, qs, g1, s1, rs, h1⟩ => by
    have hp1 : H1 p = some (.dK []) := g1.keep p _ upd_same (fun z => sr.free hp (.inl z))
    have np : p ∉ μ1 := g1.out upd_same (sr.free hp)
    by_cases hk : keysOk qs = true ∧ qs.length ≤ 15
    · rw [if_pos hk] at h1
      obtain ⟨ks, e, r⟩ := PRs.keys rs hk.1
      refine ⟨hp1, ks, e, by rw [← KRs.length r]; exact hk.2, ?_⟩
      have nseq : ∀ u, H1 p = some u → seqO u = false := fun u z => by rw [hp1] at z; cases z; rfl
      have gr : Gr μ H (μ1.add p) (upd H1 p (.dK (mergeK [] ks))) := by
        obtain ⟨t, et⟩ := g1.pre
        refine ⟨⟨t ++ [p], by show μ1.l ++ [p] = _; rw [et, List.append_assoc]⟩, g1.ban, fun b m => ?_, fun b m => ?_, fun b o e nb => ?_, fun b o u e => ?_⟩
        · rcases g1.bnew b m with z | z
          · exact .inl z
          · by_cases hb : b = p
            · rw [hb]; exact .inr hp
            · rw [upd_ne hb] at z; exact .inr z
        · rcases List.mem_append.mp m with z | z
          · rcases g1.new b z with z | z
            · exact .inl z
            · by_cases hb : b = p
              · rw [hb]; exact .inr hp
              · rw [upd_ne hb] at z; exact .inr z
          · rw [List.mem_singleton.mp z]; exact .inr hp
        · have hb : b ≠ p := ne_of_none e hp
          rw [upd_ne hb]
          exact g1.keep b o (by rw [upd_ne hb]; exact e) nb
        · have hb : b ≠ p := ne_of_none e hp
          rw [upd_ne hb]
          exact g1.fz b o u (by rw [upd_ne hb]; exact e)
      refine h1 _ _ (.ref p) gr (s1.track np nseq ⟨_, upd_same, KRs.mono (gv_alloc nseq) _ _ (KRs.merge r (show KRs X.K H1 μ1 [] [] from rfl))⟩) ?_
      exact (show ∃ a, V.ref p = .ref a ∧ (μ1.add p).l[st1.length]? = some a from ⟨p, rfl, by rw [← s1.len]; simp [Mu.add]⟩)
    · rw [if_neg hk] at h1
      exact h1.elim)
end
end MP

set_option maxRecDepth 100000
set_option maxHeartbeats 1000000
namespace MP
open PySem L2
def setM (o i v : PV) : M Unit := fun st => match o with
  | .loc n => match st[n]? with
    | some (.lst xs) => match i with
      | .int k => match ixN xs.length k with
        | some j => .ok () (st.set n (.lst (xs.set j v)))
        | none => .bad
      | _ => .bad
    | some (.dct kvs) => if (keyOf i).isSome = true ∧ kvs.length < SZ then .ok () (st.set n (.dct (putP kvs i v))) else .bad
    | some (.dcl kvs) => if (lfOf i).isSome = true ∧ kvs.length < SZ then .ok () (st.set n (.dcl (putP kvs i v))) else .bad
    | some (.dcn kvs) => if (nkT i).isSome = true ∧ kvs.length < SZ then .ok () (st.set n (.dcn (putP kvs i v))) else .bad
    | _ => .bad
  | _ => .bad
def rSetM (K : KW) : V → V → V → Hp → (Hp → Prop) → Prop := fun o i v H Q => rSetL o i v H Q ∨ (∃ a H', o = .ref a ∧ DPut H a i v H' ∧ Q H') ∨ ∃ a, o = .ref a ∧ GPut K H a i v Q
theorem set_M {X : Cx} (hu : X.A.units + 64 < cLine) : PSet X (rSetM (kw X)) := by
  intro pins s σ H o i v ov iv u Q I ro ri rv h
  rcases h with h | ⟨a, H', rfl, g, q⟩ | ⟨a, rfl, g⟩
  · exact set_list pins s σ H o i v ov iv u Q I ro ri rv h
  · cases (show ov = Value.ref a from ro)
    exact d_setItem (by omega) I g ri rv fun s4 I4 => ⟨H', I4, q⟩
  · cases (show ov = Value.ref a from ro)
    exact g_setItem hu I g ri rv fun H' s4 I4 q => ⟨H', I4, q⟩
theorem t_set {K : KW} {μ : Mu} {st : Sto} {H : Hp} {o i v : PV} {a b c : V} {E : XK} {Q : Hp → Prop} (sr : SR K μ st H) (ro : VR K H μ o a) (ri : VR K H μ i b) (rv : VR K H μ v c)
    (h : PostG K E (fun _ _ (_ : Unit) (_ : Unit) => True) (fun _ H' => Q H') μ H (setM o i v st)) : rSetM K a b c H Q := by
  cases o with
  | loc n =>
    obtain ⟨p, rfl, hp⟩ := loc_at ro
    unfold setM at h
    dsimp only at h
    cases q : st[n]? with
    | none => rw [q] at h; exact h.elim
    | some cc =>
      rw [q] at h
      cases cc with
      | lst xs =>
        dsimp only at h
        cases i with
        | int k =>
          dsimp only at h
          cases (show b = V.int k from ri)
          cases qj : ixN xs.length k with
          | none => rw [qj] at h; exact h.elim
          | some j =>
            rw [qj] at h
            obtain ⟨vs, h1, h2⟩ := sr.cell n _ p q hp
            refine .inl ⟨p, vs, k, j, rfl, rfl, h1, by rw [← VRs.length h2]; exact qj, ?_⟩
            exact h μ _ () (gr_put hp h1 rfl) (sr.put hp ⟨_, upd_same, VRs.monov (gv_put hp) _ _ (VRs.set rv j h2)⟩) trivial
        | _ => exact h.elim
      | dct kvs =>
        dsimp only at h
        by_cases hk : (keyOf i).isSome = true ∧ kvs.length < SZ
        · rw [if_pos hk] at h
          obtain ⟨k', ek⟩ := Option.isSome_iff_exists.mp hk.1
          obtain ⟨kv, h1, h2⟩ := sr.cell n _ p q hp
          refine .inr (.inl ⟨p, upd H p (.dK (putK kv k' c)), rfl, ?_, ?_⟩)
          · rw [keyOf_kV ek ri]
            exact DPut.k h1 (by rw [← KRs.length h2, sz_eq]; exact hk.2)
          · exact h μ _ () (gr_put hp h1 rfl) (sr.put hp ⟨_, upd_same, KRs.mono (gv_put hp) _ _ (h2.put ek rv)⟩) trivial
        · rw [if_neg hk] at h
          exact h.elim
      | ins C fs => exact h.elim
      | dcl kvs =>
        dsimp only at h
        by_cases hk : (lfOf i).isSome = true ∧ kvs.length < SZ
        · rw [if_pos hk] at h
          obtain ⟨k', ek⟩ := Option.isSome_iff_exists.mp hk.1
          exact .inr (.inr ⟨p, rfl, (sr.cell n _ p q hp).putL hp ek (by rw [sz_eq]; exact hk.2) ri rv fun o cr => h μ _ () (let ⟨_, h1, _⟩ := sr.cell n _ p q hp; gr_put hp h1 rfl) (sr.put hp cr) trivial⟩)
        · rw [if_neg hk] at h
          exact h.elim
      | dcn kvs =>
        dsimp only at h
        by_cases hk : (nkT i).isSome = true ∧ kvs.length < SZ
        · rw [if_pos hk] at h
          obtain ⟨k', ek⟩ := Option.isSome_iff_exists.mp hk.1
          exact .inr (.inr ⟨p, rfl, (sr.cell n _ p q hp).putN hp ek (by rw [sz_eq]; exact hk.2) ri rv fun o cr => h μ _ () (let ⟨_, h1, _⟩ := sr.cell n _ p q hp; gr_put hp h1 rfl) (sr.put hp cr) trivial⟩)
        · rw [if_neg hk] at h
          exact h.elim
      | lck kvs => exact h.elim
  | _ => exact h.elim
def gSubM (mo mi : Rho → M PV) : GM := fun p ρ => M.bind (mo ρ) fun o => M.bind (mi ρ) fun i => M.bind (setM o i p) fun _ => M.ret ρ
section
variable {X : Cx} {W : WX} {o i : Expr} {pos : Pos} {mo mi : Rho → M PV}
theorem mg_sub (hu : X.A.units + 64 < cLine) (ho : ME X W o mo) (hi : ME X W i mi)
    (ha : ∀ v, assign (.Subscript o i pos) X.env v = (do
      let ov ← holding [v] (eval o X.env)
      let iv ← holding [v, ov] (eval i X.env)
      standAt pos
      holding [v, ov, iv] (setItem ov iv v)
      release [v, ov, iv] []) := by intro _; rfl) : MG X W (.Subscript o i pos) (gSubM mo mi) :=
  PG.imp (pg_sub ho hi (set_M hu) ha) fun v σ H Q ⟨μ, st, ρ, p, er, sr, rv, h⟩ => ⟨μ, st, ρ, er, sr, (PostG.bind h).mono fun u H1 ⟨μ1, st1, x, g1, s1, rx, h1⟩ =>
    ⟨μ1, st1, ρ, er.mono g1, s1, (PostG.bind h1).mono fun w H2 ⟨μ2, st2, y, g2, s2, ry, h2⟩ => t_set s2 (VR.mono g2 x u rx) ry (VR.mono g2 p v (VR.mono g1 p v rv))
      ((PostG.bind (R' := fun _ _ (_ : Unit) (_ : Unit) => True) h2).mono fun _ H3 ⟨μ3, st3, _, g3, s3, _, h3⟩ => h3 μ3 H3 σ (Gr.refl _ _) s3 (((er.mono g1).mono g2).mono g3))⟩⟩
end
def lenM (xs : List PV) : M PV := fun st => match xs with
  | [x] => match seqOf x st with
    | some ys => .ok (.int ys.length) st
    | none => match x with
      | .str z => if z.length ≤ SZ then .ok (.int z.length) st else .bad
      | x => match dctOf x st with
        | some kvs => .ok (.int kvs.length) st
        | none => .bad
  | _ => .bad
theorem one_of {K : PySem.W.Frag} {H : Hp} {μ : Mu} {x : PV} {us : List V} (r : VRs K H μ [x] us) : ∃ u, us = [u] ∧ VR K H μ x u := by
  obtain ⟨u, t, rfl, h1, h2⟩ := (show ∃ v t, us = v :: t ∧ VR K H μ x v ∧ VRs K H μ [] t from r)
  cases (show t = [] from h2)
  exact ⟨u, rfl, h1⟩
theorem two_of {K : PySem.W.Frag} {H : Hp} {μ : Mu} {x y : PV} {us : List V} (r : VRs K H μ [x, y] us) : ∃ u v, us = [u, v] ∧ VR K H μ x u ∧ VR K H μ y v := by
  obtain ⟨u, t, rfl, h1, h2⟩ := (show ∃ v t, us = v :: t ∧ VR K H μ x v ∧ VRs K H μ [y] t from r)
  obtain ⟨v, rfl, h3⟩ := one_of h2
  exact ⟨u, v, rfl, h1, h3⟩
def rLenM (K : PySem.W.Frag) : List V → Hp → VK → Prop := fun xs H Q => (∃ x n, xs = [x] ∧ LenV K x H n ∧ Q (.int n) H) ∨ ∃ a kvs, xs = [V.ref a] ∧ H a = some (.dK kvs) ∧ Q (.int kvs.length) H
theorem cr_lenM {X : Cx} : CallR X (.builtin "len") (rLenM X.K) := call_len.or call_lenD
theorem t_len {K : KW} : TL K (rLenM K) lenM := by
  intro μ st H xs us E Q sr r h
  cases xs with
  | nil => exact h.elim
  | cons x t =>
    cases t with
    | cons y t => exact h.elim
    | nil =>
      obtain ⟨u, rfl, rx⟩ := one_of r
      unfold lenM at h
      dsimp only at h
      cases hs : seqOf x st with
      | some ys =>
        rw [hs] at h
        obtain ⟨a, vs, rfl, hq, rs⟩ := seqOf_at sr rx hs
        refine .inl ⟨.ref a, ys.length, rfl, ?_, post_same h sr rfl⟩
        rcases hq with hq | hq
        · exact .inl ⟨vs, hq, VRs.length rs⟩
        · exact .inr ⟨vs, hq, VRs.length rs⟩
      | none =>
        rw [hs] at h
        dsimp only at h
        have dc : PostG K E (VR K) Q μ H (match dctOf x st with
          | some kvs => .ok (.int kvs.length) st
          | none => .bad) → rLenM K [u] H Q := by
          intro h
          cases hd : dctOf x st with
          | none => rw [hd] at h; exact h.elim
          | some kvs =>
            rw [hd] at h
            obtain ⟨n, a, kv, ex, rfl, ha, hc, h1, h2⟩ := dctOf_at sr rx hd
            refine .inr ⟨a, kv, rfl, h1, ?_⟩
            rw [← KRs.length h2]
            exact post_same h sr rfl
        cases x with
        | str z =>
          cases (show u = V.str ⟨z.toArray⟩ from rx)
          dsimp only at h
          by_cases hz : z.length ≤ SZ
          · rw [if_pos hz] at h
            refine .inl ⟨_, z.length, rfl, ?_, post_same h sr rfl⟩
            exact ⟨by rw [str_len, sz_eq]; exact hz, by rw [str_len]⟩
          · rw [if_neg hz] at h
            exact h.elim
        | _ => exact dc h
def listM (xs : List PV) : M PV := fun st => match xs with
  | [x] => match seqOf x st with
    | some ys => .ok (.lst ys) st
    | none => .bad
  | _ => .bad
def listN (xs : List PV) : M PV := fun st => match xs with
  | [x] => match seqOf x st with
    | some ys => .ok (.loc st.length) (st ++ [.lst ys])
    | none => .bad
  | _ => .bad
abbrev rListM (K : PySem.W.Frag) : List V → Hp → VK → Prop := fun xs H Q => ∃ p ys, xs = [.ref p] ∧ (SqL K H p ys ∨ SqT K H p ys) ∧ ∀ l, H l = none → Q (.ref l) (upd H l (.lst ys))
theorem t_list {K : KW} : TL K (rListM K) listM := by
  intro μ st H xs us E Q sr r h
  cases xs with
  | nil => exact h.elim
  | cons x t =>
    cases t with
    | cons y t => exact h.elim
    | nil =>
      obtain ⟨u, rfl, rx⟩ := one_of r
      unfold listM at h
      dsimp only at h
      cases hs : seqOf x st with
      | none => rw [hs] at h; exact h.elim
      | some ys =>
        rw [hs] at h
        obtain ⟨a, vs, rfl, hq, rs⟩ := seqOf_at sr rx hs
        exact ⟨a, vs, rfl, hq, fun l hl => post_lst sr rs hl h⟩
theorem t_listN {K : KW} : TL K (rListM K) listN := by
  intro μ st H xs us E Q sr r h
  cases xs with
  | nil => exact h.elim
  | cons x t =>
    cases t with
    | cons y t => exact h.elim
    | nil =>
      obtain ⟨u, rfl, rx⟩ := one_of r
      unfold listN at h
      dsimp only at h
      cases hs : seqOf x st with
      | none => rw [hs] at h; exact h.elim
      | some ys =>
        rw [hs] at h
        obtain ⟨a, vs, rfl, hq, rs⟩ := seqOf_at sr rx hs
        exact ⟨a, vs, rfl, hq, fun l hl => post_cell h sr hl ⟨_, upd_same, VRs.mono (gr_alloc hl) _ _ rs⟩⟩
def tupleM (xs : List PV) : M PV := fun st => match xs with
  | [x] => match seqOf x st with
    | some ys => .ok (.tup ys) st
    | none => .bad
  | _ => .bad
abbrev rTupM (K : PySem.W.Frag) : List V → Hp → VK → Prop := fun xs H Q => ∃ p ys, xs = [.ref p] ∧ ((SqL K H p ys ∧ ∀ l, H l = none → Q (.ref l) (upd H l (.tup ys))) ∨ (SqT K H p ys ∧ Q (.ref p) H))
theorem t_tuple {K : KW} : TL K (rTupM K) tupleM := by
  intro μ st H xs us E Q sr r h
  cases xs with
  | nil => exact h.elim
  | cons x t =>
    cases t with
    | cons y t => exact h.elim
    | nil =>
      obtain ⟨u, rfl, rx⟩ := one_of r
      unfold tupleM at h
      dsimp only at h
      cases hs : seqOf x st with
      | none => rw [hs] at h; exact h.elim
      | some ys =>
        rw [hs] at h
        cases x with
        | tup zs =>
          cases hs
          obtain ⟨a, vs, rfl, t, rs⟩ := tup_at rx
          exact ⟨a, vs, rfl, .inr ⟨t.sq, post_same h sr rx⟩⟩
        | lst zs =>
          cases hs
          obtain ⟨a, vs, rfl, t, rs⟩ := lst_at rx
          exact ⟨a, vs, rfl, .inl ⟨t.sq, fun l hl => post_tup sr rs hl h⟩⟩
        | frz zs =>
          cases hs
          obtain ⟨a, vs, rfl, t, rs⟩ := frz_at rx
          exact ⟨a, vs, rfl, .inl ⟨t.sq, fun l hl => post_tup sr rs hl h⟩⟩
        | loc n =>
          obtain ⟨a, vs, rfl, t, rs⟩ := listOf_at sr rx (show listOf (.loc n) st = some ys from hs)
          exact ⟨a, vs, rfl, .inl ⟨SqL.of t, fun l hl => post_tup sr rs hl h⟩⟩
        | _ => cases hs
def tyP (x : PV) (st : Sto) : Option String := match x with
  | .non => some "NoneType"
  | .bl _ => some "bool"
  | .int _ => some "int"
  | .str _ => some "str"
  | .tup _ => some "tuple"
  | .lst _ => some "list"
  | .loc n => match st[n]? with
    | some (.lst _) => some "list"
    | some (.dct _) => some "dict"
    | _ => none
  | _ => none
def isiT (t T : String) : Bool := t == T || (t == "bool" && T == "int")
def isiOk (T : String) : Bool := T == "int" || T == "bool" || T == "str" || T == "tuple" || T == "list" || T == "dict"
def isiM (xs : List PV) : M PV := fun st => match xs with
  | [x, .ty T] => if isiOk T = true then (match tyP x st with
    | some t => .ok (.bl (isiT t T)) st
    | none => .bad) else .bad
  | _ => .bad
theorem kit_tab : ∀ t ∈ ["NoneType", "bool", "int", "str", "tuple", "list", "dict"], ∀ T ∈ ["int", "bool", "str", "tuple", "list", "dict"], kitB t T = some (isiT t T) := by decide +kernel
theorem tyP_at {K : KW} {H : Hp} {μ : Mu} {st : Sto} {x : PV} {v : V} {t : String} (sr : SR K μ st H) (r : VR K H μ x v) (h : tyP x st = some t) : t ∈ ["NoneType", "bool", "int", "str", "tuple", "list", "dict"] ∧ TyX K H v (.type t) := by
  cases x with
  | non => cases h; cases (show v = .non from r); exact ⟨by decide, .base .non⟩
  | bl b => cases h; cases (show v = .bl b from r); exact ⟨by decide, .base (.bl b)⟩
  | int b => cases h; cases (show v = .int b from r); exact ⟨by decide, .base (.int b)⟩
  | str b => cases h; cases (show v = .str ⟨b.toArray⟩ from r); exact ⟨by decide, .base (.str _)⟩
  | tup b =>
    cases h
    obtain ⟨a, vs, rfl, t, rs⟩ := tup_at r
    rcases t with ⟨t, _⟩ | ⟨o, its, n, hk, hc, _⟩
    · exact ⟨by decide, .base (.tup t)⟩
    · exact ⟨by decide, .kTuple hk hc⟩
  | lst b =>
    cases h
    obtain ⟨a, vs, rfl, t, rs⟩ := lst_at r
    exact ⟨by decide, .base (.lst t.1)⟩
  | loc n =>
    obtain ⟨a, rfl, ha⟩ := loc_at r
    unfold tyP at h
    dsimp only at h
    cases q : st[n]? with
    | none => rw [q] at h; cases h
    | some c =>
      rw [q] at h
      cases c with
      | lst xs =>
        cases h
        obtain ⟨vs, h1, _⟩ := sr.cell n _ a q ha
        exact ⟨by decide, .base (.lst h1)⟩
      | dct kvs =>
        cases h
        obtain ⟨vs, h1, _⟩ := sr.cell n _ a q ha
        exact ⟨by decide, .base (.dK h1)⟩
      | ins C fs => cases h
      | dcl kvs => cases h
      | dcn kvs => cases h
      | lck kvs => cases h
  | _ => cases h
theorem t_isi {K : KW} : TL K (rIsi K) isiM := by
  intro μ st H xs us E Q sr r h
  cases xs with
  | nil => exact h.elim
  | cons x t =>
    cases t with
    | nil => exact h.elim
    | cons y t =>
      cases t with
      | cons z t =>
        unfold isiM at h
        cases y <;> exact h.elim
      | nil =>
        obtain ⟨u, v, rfl, rx, ry⟩ := two_of r
        cases y with
        | ty T =>
          cases (show v = V.ty T from ry)
          unfold isiM at h
          dsimp only at h
          by_cases hT : isiOk T = true
          · rw [if_pos hT] at h
            have hT' : T ∈ ["int", "bool", "str", "tuple", "list", "dict"] := by
              unfold isiOk at hT
              simp only [Bool.or_eq_true, beq_iff_eq] at hT
              simp only [List.mem_cons]
              rcases hT with ((((e | e) | e) | e) | e) | e <;> simp [e]
            cases q : tyP x st with
            | none => rw [q] at h; exact h.elim
            | some t =>
              rw [q] at h
              obtain ⟨m, ty⟩ := tyP_at sr rx q
              exact ⟨u, .ty T, .type t, .type T, _, rfl, .ty T, ty, kit_ty (kit_tab t m T hT'), post_same h sr rfl⟩
          · rw [if_neg hT] at h
            exact h.elim
        | _ => exact h.elim
def intM (xs : List PV) : M PV := match xs with
  | [.int i] => M.ret (.int i)
  | [.bl b] => M.ret (.int (if b then 1 else 0))
  | [.str x] => if x.length ≤ 640 then (match PySem.intText? ⟨x.toArray⟩ with | some n => M.ret (.int n) | none => M.fail) else M.fail
  | _ => M.fail
def rIntM : List V → Hp → VK → Prop := fun xs H Q => ((∃ i, xs = [.int i] ∧ Q (.int i) H) ∨ ∃ k, xs = [.bl k] ∧ Q (.int (if k then 1 else 0)) H) ∨ ∃ a n, xs = [.str a] ∧ PySem.intText? a = some n ∧ a.length ≤ 640 ∧ Q (.int n) H
theorem t_int {K : KW} : TL K rIntM intM := by
  intro μ st H xs us E Q sr r h
  cases xs with
  | nil => exact h.elim
  | cons x t =>
    cases t with
    | cons y t => cases x <;> exact h.elim
    | nil =>
      obtain ⟨u, rfl, rx⟩ := one_of r
      cases x with
      | int i => cases (show u = V.int i from rx); exact .inl (.inl ⟨i, rfl, post_same h sr rfl⟩)
      | bl i => cases (show u = V.bl i from rx); exact .inl (.inr ⟨i, rfl, post_same h sr rfl⟩)
      | str x =>
        cases (show u = V.str ⟨x.toArray⟩ from rx)
        unfold intM at h
        dsimp only at h
        by_cases hz : x.length ≤ 640
        · rw [if_pos hz] at h
          cases q : PySem.intText? ⟨x.toArray⟩ with
          | none => rw [q] at h; exact h.elim
          | some n => rw [q] at h; exact .inr ⟨_, n, rfl, q, by rw [str_len]; exact hz, post_same h sr rfl⟩
        · rw [if_neg hz] at h
          exact h.elim
      | _ => exact h.elim
def maxM (xs : List PV) : M PV := match xs with
  | [.int i, .int j] => M.ret (.int (if j > i then j else i))
  | _ => M.fail
def minM (xs : List PV) : M PV := match xs with
  | [.int i, .int j] => M.ret (.int (if j < i then j else i))
  | _ => M.fail
theorem t_max {K : KW} : TL K (fun xs H Q => ∃ i j, xs = [.int i, .int j] ∧ Q (.int (if j > i then j else i)) H) maxM := by
  intro μ st H xs us E Q sr r h
  unfold maxM at h
  split at h
  · obtain ⟨u, v, rfl, rx, ry⟩ := two_of r
    cases (show u = V.int _ from rx); cases (show v = V.int _ from ry)
    exact ⟨_, _, rfl, post_same h sr rfl⟩
  · exact h.elim
theorem t_min {K : KW} : TL K (fun xs H Q => ∃ i j, xs = [.int i, .int j] ∧ Q (.int (if j < i then j else i)) H) minM := by
  intro μ st H xs us E Q sr r h
  unfold minM at h
  split at h
  · obtain ⟨u, v, rfl, rx, ry⟩ := two_of r
    cases (show u = V.int _ from rx); cases (show v = V.int _ from ry)
    exact ⟨_, _, rfl, post_same h sr rfl⟩
  · exact h.elim
def boolsOf : List PV → Option (List Bool)
  | [] => some []
  | .bl b :: r => (boolsOf r).map (b :: ·)
  | _ :: _ => none
theorem boolsOf_at {K : PySem.W.Frag} {H : Hp} {μ : Mu} : ∀ {ps : List PV} {vs : List V} {bs : List Bool}, VRs K H μ ps vs → boolsOf ps = some bs → vs = bs.map V.bl
  | [], vs, bs, r, h => by cases h; exact r
  | p :: ps, vs, bs, r, h => by
    obtain ⟨v, t, rfl, r1, r2⟩ := (show ∃ v t, vs = v :: t ∧ VR K H μ p v ∧ VRs K H μ ps t from r)
    cases p with
    | bl b =>
      unfold boolsOf at h
      cases q : boolsOf ps with
      | none => rw [q] at h; cases h
      | some cs =>
        rw [q] at h
        cases h
        cases (show v = V.bl b from r1)
        rw [boolsOf_at r2 q]
        rfl
    | _ => cases h
def allM (n : Bool) (xs : List PV) : M PV := fun st => match xs with
  | [x] => match listOf x st with
    | some ys => match boolsOf ys with
      | some bs => .ok (.bl (if n then bs.any id else bs.all id)) st
      | none => .bad
    | none => .bad
  | _ => .bad
abbrev rAllM (K : PySem.W.Frag) (n : Bool) : List V → Hp → VK → Prop := fun vs H Q => ∃ (a : Addr) (bs : List Bool), vs = [V.ref a] ∧ SqL K H a (bs.map V.bl) ∧ Q (.bl (if n then bs.any id else bs.all id)) H
theorem t_all {K : KW} {n : Bool} : TL K (rAllM K n) (allM n) := by
  intro μ st H xs us E Q sr r h
  cases xs with
  | nil => exact h.elim
  | cons x t =>
    cases t with
    | cons y t => exact h.elim
    | nil =>
      obtain ⟨u, rfl, rx⟩ := one_of r
      unfold allM at h
      dsimp only at h
      cases hs : listOf x st with
      | none => rw [hs] at h; exact h.elim
      | some ys =>
        rw [hs] at h
        dsimp only at h
        cases hb : boolsOf ys with
        | none => rw [hb] at h; exact h.elim
        | some bs =>
          rw [hb] at h
          obtain ⟨a, vs, rfl, hq, rs⟩ := listOf_at sr rx hs
          rw [boolsOf_at rs hb] at hq
          exact ⟨a, bs, rfl, SqL.of hq, post_same h sr rfl⟩
section
variable {X : Cx} {W : WX} {e : Expr} {es : List Expr} {p pos : Pos} {ma : Rho → M (List PV)}
theorem me_len (hg : Gl X "len") (hm : X.mg "len" = none) (ha : MA X W [e] ma) (he : starEach [e] X.env = (false, eval e X.env) :: starEach [] X.env := by kernel_rfl) : ME X W (.Call (.Name "len" p) [e] [] pos) (eCall lenM ma) :=
  me_callB cr_lenM t_len hg hm PySem.boot_len ha (by decide) (by decide) he rfl
theorem me_listOf (hg : Gl X "list") (hm : X.mg "list" = none) (ha : MA X W [e] ma) (he : starEach [e] X.env = (false, eval e X.env) :: starEach [] X.env := by kernel_rfl) : ME X W (.Call (.Name "list" p) [e] [] pos) (eCall listM ma) :=
  me_callTy call_list_of t_list hg hm (by decide +kernel) ha (by decide) (by decide) he rfl
theorem me_listNew (hg : Gl X "list") (hm : X.mg "list" = none) (ha : MA X W [e] ma) (he : starEach [e] X.env = (false, eval e X.env) :: starEach [] X.env := by kernel_rfl) : ME X W (.Call (.Name "list" p) [e] [] pos) (eCall listN ma) :=
  me_callTy call_list_of t_listN hg hm (by decide +kernel) ha (by decide) (by decide) he rfl
theorem me_tupleOf (hg : Gl X "tuple") (hm : X.mg "tuple" = none) (ha : MA X W [e] ma) (he : starEach [e] X.env = (false, eval e X.env) :: starEach [] X.env := by kernel_rfl) : ME X W (.Call (.Name "tuple" p) [e] [] pos) (eCall tupleM ma) :=
  me_callTy call_tuple_of t_tuple hg hm (by decide +kernel) ha (by decide) (by decide) he rfl
theorem me_isinst (hg : Gl X "isinstance") (hm : X.mg "isinstance" = none) (ha : MA X W (e :: es) ma) (he : starEach (e :: es) X.env = (false, eval e X.env) :: starEach es X.env := by kernel_rfl) (hpl : (backTo pos (starEach es X.env)).any (·.1) = false := by kernel_rfl) : ME X W (.Call (.Name "isinstance" p) (e :: es) [] pos) (eCall isiM ma) :=
  me_callB call_isi t_isi hg hm (by decide +kernel) ha (by decide) (by decide) he hpl
theorem me_intOf (hg : Gl X "int") (hm : X.mg "int" = none) (ha : MA X W [e] ma) (he : starEach [e] X.env = (false, eval e X.env) :: starEach [] X.env := by kernel_rfl) : ME X W (.Call (.Name "int" p) [e] [] pos) (eCall intM ma) :=
  me_callTy (call_int1.or call_int_str) t_int hg hm (by decide +kernel) ha (by decide) (by decide) he rfl
theorem me_max2 (hc : X.calm = true) (hg : Gl X "max") (hm : X.mg "max" = none) (ha : MA X W (e :: es) ma) (he : starEach (e :: es) X.env = (false, eval e X.env) :: starEach es X.env := by kernel_rfl) (hpl : (backTo pos (starEach es X.env)).any (·.1) = false := by kernel_rfl) : ME X W (.Call (.Name "max" p) (e :: es) [] pos) (eCall maxM ma) :=
  me_callB (call_max2 hc) t_max hg hm (by decide +kernel) ha (by decide) (by decide) he hpl
theorem me_min2 (hc : X.calm = true) (hg : Gl X "min") (hm : X.mg "min" = none) (ha : MA X W (e :: es) ma) (he : starEach (e :: es) X.env = (false, eval e X.env) :: starEach es X.env := by kernel_rfl) (hpl : (backTo pos (starEach es X.env)).any (·.1) = false := by kernel_rfl) : ME X W (.Call (.Name "min" p) (e :: es) [] pos) (eCall minM ma) :=
  me_callB (call_min2 hc) t_min hg hm (by decide +kernel) ha (by decide) (by decide) he hpl
theorem me_all (hc : X.calm = true) (hg : Gl X "all") (hm : X.mg "all" = none) (ha : MA X W [e] ma) (he : starEach [e] X.env = (false, eval e X.env) :: starEach [] X.env := by kernel_rfl) : ME X W (.Call (.Name "all" p) [e] [] pos) (eCall (allM false) ma) :=
  me_callB (cr_all hc) (t_all (n := false)) hg hm (by decide +kernel) ha (by decide) (by decide) he rfl
theorem me_any (hc : X.calm = true) (hg : Gl X "any") (hm : X.mg "any" = none) (ha : MA X W [e] ma) (he : starEach [e] X.env = (false, eval e X.env) :: starEach [] X.env := by kernel_rfl) : ME X W (.Call (.Name "any" p) [e] [] pos) (eCall (allM true) ma) :=
  me_callB (cr_any hc) (t_all (n := true)) hg hm (by decide +kernel) ha (by decide) (by decide) he rfl
end
end MP

set_option maxRecDepth 100000
set_option maxHeartbeats 1000000
namespace MP
open PySem L2
theorem TupAt.grow {K : PySem.W.Frag} {H H' : Hp} {μ μ' : Mu} {a : Addr} {vs : List V} (g : Gr μ H μ' H') (t : TupAt K H μ a vs) : TupAt K H' μ' a vs := by
  rcases t with ⟨t, n⟩ | t
  · exact .inl ⟨g.keep a _ t (fun z => n (.inl z)), g.out t n⟩
  · exact .inr t
theorem LstAt.grow {H H' : Hp} {μ μ' : Mu} {a : Addr} {vs : List V} (g : Gr μ H μ' H') (t : LstAt H μ a vs) : LstAt H' μ' a vs := ⟨g.keep a _ t.1 (fun z => t.2 (.inl z)), g.out t.1 t.2⟩
theorem FrzAt.grow {K : PySem.W.Frag} {H H' : Hp} {μ μ' : Mu} {a : Addr} {vs : List V} (g : Gr μ H μ' H') (t : FrzAt K H μ a vs) : FrzAt K H' μ' a vs := by
  rcases t with ⟨t | ⟨o, t⟩, n⟩ | t
  · exact .inl ⟨.inl (g.keep a _ t (fun z => n (.inl z))), g.out t n⟩
  · exact .inl ⟨.inr ⟨o, g.keep a _ t (fun z => n (.inl z))⟩, g.out t n⟩
  · exact .inr t
theorem sup_tup {K : KW} {H : Hp} {μ : Mu} {a : Addr} {ps : List PV} {vs : List V} (t : TupAt K H μ a vs) (r : VRs K H μ ps vs) : Sup K (Itt K a) ps μ H := fun μ' H' st g sr => by
  have q := (t.grow g).sq
  refine ⟨fun i p hp => ?_, ⟨vs, q, by rw [VRs.length r]; exact Nat.le_refl _⟩⟩
  obtain ⟨v, e1, e2⟩ := VRs.get (VRs.mono g ps vs r) hp
  refine ⟨⟨vs, v, q, e1⟩, fun x H2 ⟨eh, y⟩ => ?_⟩
  subst eh
  have ex : v = x := Option.some.inj (e1.symm.trans (y vs q))
  subst ex
  exact ⟨Gr.refl _ _, sr, e2⟩
theorem sup_lst {K : KW} {H : Hp} {μ : Mu} {a : Addr} {ps : List PV} {vs : List V} (t : ∀ μ' H', Gr μ H μ' H' → SqL K H' a vs) (r : VRs K H μ ps vs) : Sup K (Itl K a) ps μ H := fun μ' H' st g sr => by
  have q := t μ' H' g
  refine ⟨fun i p hp => ?_, ⟨vs, q, by rw [VRs.length r]; exact Nat.le_refl _⟩⟩
  obtain ⟨v, e1, e2⟩ := VRs.get (VRs.mono g ps vs r) hp
  refine ⟨⟨vs, v, q, e1⟩, fun x H2 ⟨eh, y⟩ => ?_⟩
  subst eh
  have ex : v = x := Option.some.inj (e1.symm.trans (y vs q))
  subst ex
  exact ⟨Gr.refl _ _, sr, e2⟩
theorem sup_str {K : KW} {H : Hp} {μ : Mu} {z : List Nat} : Sup K (Its ⟨z.toArray⟩) (z.map fun c => .str [c]) μ H := fun μ' H' st g sr => by
  refine ⟨fun i p hp => ?_, by show z.toArray.size ≤ _; simp⟩
  rw [List.getElem?_map] at hp
  cases q : z[i]? with
  | none => rw [q] at hp; cases hp
  | some c =>
    rw [q] at hp
    cases hp
    refine ⟨by show i < z.toArray.size; have := (List.getElem?_eq_some_iff.mp q).1; simpa using this, fun x H2 ⟨eh, c', ec, ex⟩ => ?_⟩
    subst eh ex
    have e : z.toArray[i]? = some c' := ec
    have e' : c' = c := by
      rw [List.getElem?_toArray, q] at e
      exact (Option.some.inj e).symm
    subst e'
    exact ⟨Gr.refl _ _, sr, rfl⟩
theorem sup_range {K : KW} {H : Hp} {μ : Mu} {lo : Int} {n : Nat} : Sup K (Itr lo n) ((List.range n).map fun (i : Nat) => .int (lo + (i : Int))) μ H := fun μ' H' st g sr => by
  refine ⟨fun i p hp => ?_, by show n ≤ _; simp⟩
  rw [List.getElem?_map] at hp
  cases q : (List.range n)[i]? with
  | none => rw [q] at hp; cases hp
  | some c =>
    rw [q] at hp
    cases hp
    obtain ⟨h1, h2⟩ := List.getElem?_eq_some_iff.mp q
    rw [List.getElem_range] at h2
    subst h2
    refine ⟨by show i < n; simpa using h1, fun x H2 ⟨eh, ex⟩ => ?_⟩
    subst eh ex
    exact ⟨Gr.refl _ _, sr, rfl⟩
def itemsM : PV → M (List PV)
  | .tup xs => M.ret xs
  | .lst xs => M.ret xs
  | .frz xs => M.ret xs
  | .str z => M.ret (z.map fun c => .str [c])
  | _ => M.fail
def iSeq (m : Rho → M PV) : Rho → M (List PV) := fun ρ => M.bind (m ρ) itemsM
section
variable {X : Cx} {W : WX} {tg e a b : Expr} {p pos : Pos} {me : Rho → M PV} {ma : Rho → M (List PV)}
theorem PI.or {iter : Expr} {t t' : TI} (h : PI X tg iter t) (h' : PI X tg iter t') : PI X tg iter (fun σ H R => t σ H R ∨ t' σ H R) := ⟨fun pins s σ H R I q => by
  rcases q with q | q
  · exact h.run pins s σ H R I q
  · exact h'.run pins s σ H R I q⟩
theorem mi_seq (he : ME X W e me) : MI X W tg e (iSeq me) :=
  PI.imp (PI.or (pi_tup he) (PI.or (pi_list he) (pi_str he))) fun σ H R ⟨μ, st, ρ, er, sr, h⟩ => by
    have h0 := h
    unfold iSeq M.bind at h
    cases q : me ρ st with
    | bad => rw [q] at h; exact h.elim
    | err x st' =>
      rw [q] at h
      refine .inl ⟨μ, st, ρ, er, sr, ?_⟩
      rw [q]
      exact h
    | ok v st' =>
      rw [q] at h
      dsimp only at h
      cases v with
      | tup xs =>
        refine .inl ⟨μ, st, ρ, er, sr, ?_⟩
        rw [q]
        intro μ1 H1 u g1 s1 ru
        obtain ⟨a, vs, rfl, t, rs⟩ := tup_at ru
        exact ⟨a, rfl, ⟨vs, t.sq⟩, h μ1 H1 _ g1 s1 (sup_tup t rs)⟩
      | lst xs =>
        refine .inr (.inl ⟨μ, st, ρ, er, sr, ?_⟩)
        rw [q]
        intro μ1 H1 u g1 s1 ru
        obtain ⟨a, vs, rfl, t, rs⟩ := lst_at ru
        exact ⟨a, rfl, ⟨vs, t.sq⟩, h μ1 H1 _ g1 s1 (sup_lst (fun _ _ g => (t.grow g).sq) rs)⟩
      | frz xs =>
        refine .inr (.inl ⟨μ, st, ρ, er, sr, ?_⟩)
        rw [q]
        intro μ1 H1 u g1 s1 ru
        obtain ⟨a, vs, rfl, t, rs⟩ := frz_at ru
        exact ⟨a, rfl, ⟨vs, t.sq⟩, h μ1 H1 _ g1 s1 (sup_lst (fun _ _ g => (t.grow g).sq) rs)⟩
      | str z =>
        refine .inr (.inr ⟨μ, st, ρ, er, sr, ?_⟩)
        rw [q]
        intro μ1 H1 u g1 s1 ru
        cases (show u = V.str ⟨z.toArray⟩ from ru)
        exact ⟨_, rfl, h μ1 H1 _ g1 s1 sup_str⟩
      | _ => exact h.elim
def rangeOk (i : Int) : Prop := -4611686018427387904 ≤ i ∧ i < 4611686018427387904
instance (i : Int) : Decidable (rangeOk i) := by unfold rangeOk; exact inferInstance
def range1 (xs : List PV) : M (List PV) := match xs with
  | [.int j] => if rangeOk j then M.ret ((List.range j.toNat).map fun (i : Nat) => .int ((0 : Int) + (i : Int))) else M.fail
  | _ => M.fail
def range2 (xs : List PV) : M (List PV) := match xs with
  | [.int i, .int j] => if rangeOk i ∧ rangeOk j then M.ret ((List.range (j - i).toNat).map fun (k : Nat) => .int (i + (k : Int))) else M.fail
  | _ => M.fail
def iCall (f : List PV → M (List PV)) (m : Rho → M (List PV)) : Rho → M (List PV) := fun ρ => M.bind (m ρ) f
theorem mi_range1 (hg : Gl X "range") (hm : X.mg "range" = none) (ha : MA X W [a] ma) (hs : starEach [a] X.env = [(false, eval a X.env)] := by kernel_rfl) : MI X W tg (.Call (.Name "range" p) [a] [] pos) (iCall range1 ma) :=
  PI.imp (pi_range1 hg hm ha hs) fun σ H R ⟨μ, st, ρ, er, sr, h⟩ => ⟨μ, st, ρ, er, sr, (PostG.bind h).mono fun us H1 ⟨μ1, st1, xs, g1, s1, rxs, h1⟩ => by
    unfold range1 at h1
    split at h1
    · rename_i j
      by_cases hj : rangeOk j
      · rw [if_pos hj] at h1
        obtain ⟨u, rfl, ru⟩ := one_of rxs
        cases (show u = V.int j from ru)
        exact ⟨j, rfl, hj.1, hj.2, h1 μ1 H1 _ (Gr.refl _ _) s1 sup_range⟩
      · rw [if_neg hj] at h1
        exact h1.elim
    · exact h1.elim⟩
theorem mi_range2 (hg : Gl X "range") (hm : X.mg "range" = none) (ha : MA X W [a, b] ma) (hs : starEach [a, b] X.env = [(false, eval a X.env), (false, eval b X.env)] := by kernel_rfl) (hs2 : starEach [b] X.env = [(false, eval b X.env)] := by kernel_rfl) : MI X W tg (.Call (.Name "range" p) [a, b] [] pos) (iCall range2 ma) :=
  PI.imp (pi_range2 hg hm ha hs hs2) fun σ H R ⟨μ, st, ρ, er, sr, h⟩ => ⟨μ, st, ρ, er, sr, (PostG.bind h).mono fun us H1 ⟨μ1, st1, xs, g1, s1, rxs, h1⟩ => by
    unfold range2 at h1
    split at h1
    · rename_i i j
      by_cases hj : rangeOk i ∧ rangeOk j
      · rw [if_pos hj] at h1
        obtain ⟨u, v, rfl, ru, rv⟩ := two_of rxs
        cases (show u = V.int i from ru)
        cases (show v = V.int j from rv)
        exact ⟨i, j, rfl, ⟨hj.1.1, hj.1.2, hj.2.1, hj.2.2⟩, h1 μ1 H1 _ (Gr.refl _ _) s1 sup_range⟩
      · rw [if_neg hj] at h1
        exact h1.elim
    · exact h1.elim⟩
theorem sup_enum {K : KW} {H : Hp} {μ : Mu} {a : Addr} {ps : List PV} {vs : List V} (t : ∀ μ' H', Gr μ H μ' H' → SqL K H' a vs) (r : VRs K H μ ps vs) : Sup K (Ite K a) (ps.mapIdx fun i p => .tup [.int (i : Nat), p]) μ H := fun μ' H' st g sr => by
  have q := t μ' H' g
  refine ⟨fun i p hp => ?_, ⟨vs, q, by rw [List.length_mapIdx, VRs.length r]; exact Nat.le_refl _⟩⟩
  rw [List.getElem?_mapIdx] at hp
  cases hq : ps[i]? with
  | none => rw [hq] at hp; cases hp
  | some p0 =>
    rw [hq] at hp
    cases hp
    obtain ⟨v, e1, e2⟩ := VRs.get (VRs.mono g ps vs r) hq
    refine ⟨⟨vs, v, q, e1⟩, fun x H2 ⟨T, y, ex, hT, eh, hy⟩ => ?_⟩
    subst ex eh
    have ev : v = y := Option.some.inj (e1.symm.trans (hy vs q))
    subst ev
    refine ⟨gr_new hT, sr.new hT, ?_⟩
    refine (show ∃ a ws, V.ref T = .ref a ∧ TupAt K (upd H' T (.tup [.int (i : Nat), v])) μ' a ws ∧ VRs K (upd H' T (.tup [.int (i : Nat), v])) μ' [.int (i : Nat), p0] ws from ⟨T, _, rfl, ?_, VRs.cons rfl (VRs.cons (VR.mono (gr_new hT) _ _ e2) VRs.nil)⟩)
    exact .inl ⟨upd_same, sr.free hT⟩
def enumM (xs : List PV) : M (List PV) := match xs with
  | [.lst ps] => M.ret (ps.mapIdx fun i p => .tup [.int (i : Nat), p])
  | [.frz ps] => M.ret (ps.mapIdx fun i p => .tup [.int (i : Nat), p])
  | _ => M.fail
theorem mi_enum {tpos : Pos} {elts : List Expr} {kk : Nat} (hg : Gl X "enumerate") (hm : X.mg "enumerate" = none) (ha : MA X W [e] ma) (hs : starEach [e] X.env = [(false, eval e X.env)] := by kernel_rfl) :
    MI X W (.Tuple elts kk tpos) (.Call (.Name "enumerate" p) [e] [] pos) (iCall enumM ma) :=
  PI.imp (pi_enum hg hm ha hs) fun σ H R ⟨μ, st, ρ, er, sr, h⟩ => ⟨μ, st, ρ, er, sr, (PostG.bind h).mono fun us H1 ⟨μ1, st1, xs, g1, s1, rxs, h1⟩ => by
    unfold enumM at h1
    split at h1
    · obtain ⟨u, rfl, ru⟩ := one_of rxs
      obtain ⟨a, vs, rfl, t, rs⟩ := lst_at ru
      exact ⟨a, vs, rfl, t.sq, h1 μ1 H1 _ (Gr.refl _ _) s1 (sup_enum (fun _ _ g => (t.grow g).sq) rs)⟩
    · obtain ⟨u, rfl, ru⟩ := one_of rxs
      obtain ⟨a, vs, rfl, t, rs⟩ := frz_at ru
      exact ⟨a, vs, rfl, t.sq, h1 μ1 H1 _ (Gr.refl _ _) s1 (sup_enum (fun _ _ g => (t.grow g).sq) rs)⟩
    · exact h1.elim⟩
end
def wipeP (ρ : Rho) : List Nat → Rho
  | [] => ρ
  | v :: vs => (wipeP ρ vs).set v none
theorem ER.wipe {K : PySem.W.Frag} {H : Hp} {μ : Mu} {ρ : Rho} {σ : St} (e : ER K H μ ρ σ) : ∀ vs : List Nat, ER K H μ (wipeP ρ vs) (L2.wipe σ vs)
  | [] => e
  | v :: vs => by
    unfold wipeP L2.wipe
    exact (ER.wipe e vs).unset v
theorem wipe_far {σ : St} {j : Nat} {o : Option V} : ∀ {vs : List Nat}, j ∉ vs → L2.wipe (σ.set j o) vs = (L2.wipe σ vs).set j o
  | [], _ => rfl
  | v :: vs, h => by
    have h1 : j ≠ v := fun z => h (by rw [z]; exact List.mem_cons_self)
    have h2 : j ∉ vs := fun z => h (List.mem_cons_of_mem _ z)
    unfold L2.wipe
    rw [wipe_far h2, List.set_comm _ _ h1]
theorem wipe_set {σ : St} {j : Nat} {o : Option V} : ∀ {vs : List Nat}, j ∈ vs → L2.wipe (σ.set j o) vs = L2.wipe σ vs
  | [], h => (nomatch h)
  | v :: vs, h => by
    unfold L2.wipe
    by_cases hj : j ∈ vs
    · rw [wipe_set hj]
    · have e : j = v := by
        rcases List.mem_cons.mp h with z | z
        · exact z
        · exact absurd z hj
      subst e
      rw [wipe_far hj, List.set_set]
theorem wipe_wipe {σ : St} {vs : List Nat} : ∀ {us : List Nat}, (∀ u ∈ us, u ∈ vs) → L2.wipe (L2.wipe σ us) vs = L2.wipe σ vs
  | [], _ => rfl
  | u :: us, h => by
    show L2.wipe ((L2.wipe σ us).set u none) vs = _
    rw [wipe_set (h u List.mem_cons_self), wipe_wipe fun w hw => h w (List.mem_cons_of_mem _ hw)]
def TGo (K : KW) (vs : List Nat) (g0 : TG) (g : GM) : Prop := ∀ (v : V) (σ : St) (H : Hp) (Q : St → Hp → Prop) (μ : Mu) (st : Sto) (ρ : Rho) (p : PV), ER K H μ ρ σ → SR K μ st H → VR K H μ p v →
  PostG K (fun _ _ _ => False) (fun H μ ρ' σ' => ER K H μ ρ' σ' ∧ L2.wipe σ' vs = L2.wipe σ vs) Q μ H (g p ρ st) → g0 v σ H Q
theorem tgo_name {K : KW} {vs : List Nat} {j : Nat} (h : j ∈ vs) : TGo K vs (gName j) (gN j) := fun v σ H Q μ st ρ p er sr rv q => q μ H _ (Gr.refl _ _) sr ⟨er.set rv j, wipe_set h⟩
def TGos (K : KW) (vs : List Nat) (g0 : TGs) (g : GsM) : Prop := ∀ (us : List V) (σ : St) (H : Hp) (Q : St → Hp → Prop) (μ : Mu) (st : Sto) (ρ : Rho) (ps : List PV), ER K H μ ρ σ → SR K μ st H → VRs K H μ ps us →
  PostG K (fun _ _ _ => False) (fun H μ ρ' σ' => ER K H μ ρ' σ' ∧ L2.wipe σ' vs = L2.wipe σ vs) Q μ H (g ps ρ st) → g0 us σ H Q
theorem tgos_nil {K : KW} {vs : List Nat} : TGos K vs gNil gsNil := fun us σ H Q μ st ρ ps er sr rv q => by
  cases ps with
  | nil => exact ⟨rv, q μ H σ (Gr.refl _ _) sr ⟨er, rfl⟩⟩
  | cons p ps => exact q.elim
theorem tgos_cons {K : KW} {vs : List Nat} {g0 : TG} {g : GM} {r0 : TGs} {r : GsM} (h1 : TGo K vs g0 g) (h2 : TGos K vs r0 r) : TGos K vs (gCons g0 r0) (gsCons g r) := fun us σ H Q μ st ρ ps er sr rv q => by
  cases ps with
  | nil => exact q.elim
  | cons p ps =>
    obtain ⟨v, t, ev, rp, rt⟩ := (show ∃ v r, us = v :: r ∧ VR K H μ p v ∧ VRs K H μ ps r from rv)
    refine ⟨v, t, ev, h1 v σ H _ μ st ρ p er sr rp ?_⟩
    have z := PostG.bind (R' := fun H μ ρ' σ' => ER K H μ ρ' σ' ∧ L2.wipe σ' vs = L2.wipe σ vs) q
    exact (PostG.calm z).mono fun σ1 H1 ⟨μ1, st1, ρ1, g1, s1, ⟨e1, w1⟩, h3⟩ => h2 t σ1 H1 Q μ1 st1 ρ1 ps e1 s1 (VRs.mono g1 ps t rt) (by
      cases hr : r ps ρ1 st1 with
      | ok a st' =>
        have h3' := h3
        rw [hr] at h3'
        exact fun μ2 H2 σ2 g2 s2 ⟨e2, w2⟩ => h3' μ2 H2 σ2 g2 s2 ⟨e2, w2.trans w1⟩
      | err x st' => have h3' := h3; rw [hr] at h3'; exact h3'
      | bad => have h3' := h3; rw [hr] at h3'; exact h3'.elim)
theorem tgo_tup {K : KW} {vs : List Nat} {n : Nat} {r0 : TGs} {r : GsM} (h : TGos K vs r0 r) : TGo K vs (gTup K n r0) (gT n r) := fun v σ H Q μ st ρ p er sr rv q => by
  cases p with
  | tup xs =>
    obtain ⟨a, ws, ev, ta, rs⟩ := tup_at rv
    have q' : PostG K (fun _ _ _ => False) (fun H μ ρ' σ' => ER K H μ ρ' σ' ∧ L2.wipe σ' vs = L2.wipe σ vs) Q μ H ((if xs.length = n then M.calm (r xs ρ) else M.fail) st) := q
    by_cases hx : xs.length = n
    · rw [if_pos hx] at q'
      exact ⟨a, ws, ev, ta.sq, by rw [← VRs.length rs]; exact hx, h ws σ H Q μ st ρ xs er sr rs (PostG.calm q')⟩
    · rw [if_neg hx] at q'
      exact q'.elim
  | _ => exact q.elim
def lcL (g : GM) (t : Rho → M Bool) (e : Rho → M PV) (ρ0 : Rho) : List PV → List PV → M (List PV)
  | [], acc => M.ret acc
  | p :: ps, acc => M.bind (M.calm (g p ρ0)) fun ρ1 => M.bind (M.calm (t ρ1)) fun c => if c = true then M.bind (M.calm (e ρ1)) fun y => if acc.length < SZ then lcL g t e ρ0 ps (acc ++ [y]) else M.fail else lcL g t e ρ0 ps acc
def Mu.bar (μ : Mu) (D : Addr) : Mu := ⟨μ.l, D :: μ.b⟩
theorem gv_bar {μ : Mu} {H : Hp} {D : Addr} {va : List V} (hb : D ∈ μ.b) : Gv μ H μ (upd H D (.lst va)) := ⟨⟨[], by simp⟩, fun a o e _ n => ⟨by rw [upd_ne (fun z => n (by rw [z]; exact .inr hb))]; exact e, n⟩⟩
theorem sr_bar {K : KW} {μ : Mu} {st : Sto} {H : Hp} {D : Addr} {va : List V} (hb : D ∈ μ.b) (s : SR K μ st H) : SR K μ st (upd H D (.lst va)) := by
  have nD := (s.ban D hb).1
  refine ⟨s.len, s.nd, fun a m => ⟨(s.ban a m).1, ?_⟩, fun n c a e1 e2 => (s.cell n c a e1 e2).monov (gv_bar hb) (upd_ne (fun z => nD (by rw [← z]; exact List.mem_of_getElem? e2)))⟩
  by_cases ha : a = D
  · rw [ha]; exact ⟨_, upd_same⟩
  · rw [upd_ne ha]; exact (s.ban a m).2
theorem M.bind_assoc {α β γ : Type} (m : M α) (f : α → M β) (k : β → M γ) : M.bind (M.bind m f) k = M.bind m fun a => M.bind (f a) k := by
  funext st
  unfold M.bind
  cases m st <;> rfl
def Mu.unbar (μ : Mu) (D : Addr) : Mu := ⟨μ.l, μ.b.filter fun a => decide (a ≠ D)⟩
theorem unbar_b {μ : Mu} {D a : Addr} : a ∈ (μ.unbar D).b ↔ a ∈ μ.b ∧ a ≠ D := by
  show a ∈ μ.b.filter _ ↔ _
  rw [List.mem_filter]
  simp
theorem not_unbar {μ : Mu} {D a : Addr} (h : a ∉ μ) : a ∉ μ.unbar D := fun m => by
  rcases m with m | m
  · exact h (.inl m)
  · exact h (.inr (unbar_b.mp m).1)
theorem gv_unbar {μ : Mu} {H : Hp} {D : Addr} : Gv μ H (μ.unbar D) H := ⟨⟨[], by simp [Mu.unbar]⟩, fun a o e _ n => ⟨e, not_unbar n⟩⟩
theorem sr_unbar {K : KW} {μ : Mu} {st : Sto} {H : Hp} {D : Addr} (s : SR K μ st H) : SR K (μ.unbar D) st H :=
  ⟨s.len, s.nd, fun a m => s.ban a (unbar_b.mp m).1, fun n c a e1 e2 => (s.cell n c a e1 e2).monov gv_unbar rfl⟩
theorem gr_unbar {K : KW} {μ0 μ : Mu} {st0 : Sto} {H0 H : Hp} {D : Addr} (s0 : SR K μ0 st0 H0) (hD : H0 D = none) (g : Gr μ0 H0 μ H) : Gr μ0 H0 (μ.unbar D) H := by
  refine ⟨g.pre, fun a m => unbar_b.mpr ⟨g.ban a m, fun z => ?_⟩, fun a m => g.bnew a (unbar_b.mp m).1, g.new, g.keep, g.fz⟩
  subst z
  obtain ⟨o, e⟩ := (s0.ban _ m).2
  rw [hD] at e; cases e
theorem gv_open {μ : Mu} {H : Hp} {D : Addr} (hb : D ∈ μ.b) : Gv μ H ((μ.unbar D).add D) H := ⟨⟨[D], rfl⟩, fun a o e _ n => ⟨e, fun m => by
  rcases m with m | m
  · rcases List.mem_append.mp m with m | m
    · exact n (.inl m)
    · rw [List.mem_singleton.mp m] at n; exact n (.inr hb)
  · exact n (.inr (unbar_b.mp m).1)⟩⟩
theorem sr_open {K : KW} {μ : Mu} {st : Sto} {H : Hp} {D : Addr} {acc : List PV} {va : List V} (s : SR K μ st H) (hb : D ∈ μ.b) (hd : H D = some (.lst va)) (r : VRs K H μ acc va) : SR K ((μ.unbar D).add D) (st ++ [.lst acc]) H := by
  have nD := (s.ban D hb).1
  refine ⟨by simp [Mu.add, Mu.unbar, s.len], ?_, fun a m => ?_, fun n d a e1 e2 => ?_⟩
  · refine List.nodup_append.mpr ⟨s.nd, by simp, fun a ha b hb => ?_⟩
    rw [List.mem_singleton.mp hb]
    rintro rfl
    exact nD ha
  · obtain ⟨m1, m2⟩ := unbar_b.mp m
    refine ⟨fun z => ?_, (s.ban a m1).2⟩
    rcases List.mem_append.mp z with z | z
    · exact (s.ban a m1).1 z
    · exact m2 (List.mem_singleton.mp z)
  · have e2 : (μ.l ++ [D])[n]? = some a := e2
    by_cases hn : n < st.length
    · rw [List.getElem?_append_left hn] at e1
      rw [List.getElem?_append_left (by rw [s.len]; exact hn)] at e2
      exact (s.cell n d a e1 e2).monov (gv_open hb) rfl
    · rw [List.getElem?_append_right (by omega)] at e1
      rw [List.getElem?_append_right (by rw [s.len]; omega), s.len] at e2
      have e0 : n - st.length = 0 := by
        have := (List.getElem?_eq_some_iff.mp e1).1
        simp at this
        omega
      rw [e0] at e1 e2
      simp at e1 e2
      subst e1 e2
      exact ⟨va, hd, VRs.monov (gv_open hb) _ _ r⟩
theorem gr_open {K : KW} {μ0 μ : Mu} {st0 : Sto} {H0 H : Hp} {D : Addr} (s0 : SR K μ0 st0 H0) (hD : H0 D = none) (g : Gr μ0 H0 μ H) : Gr μ0 H0 ((μ.unbar D).add D) H := by
  have u := gr_unbar s0 hD g
  obtain ⟨t, e⟩ := g.pre
  refine ⟨⟨t ++ [D], by show μ.l ++ [D] = _; rw [e, List.append_assoc]⟩, u.ban, u.bnew, fun a m => ?_, g.keep, g.fz⟩
  rcases List.mem_append.mp m with m | m
  · exact g.new a m
  · rw [List.mem_singleton.mp m]; exact .inr hD
def lcV (acc : List PV) : M PV := M.ret (.lst acc)
def lcN (acc : List PV) : M PV := fun st => .ok (.loc st.length) (st ++ [.lst acc])
def LcEnd (K : KW) (k : List PV → M PV) : Prop := ∀ (μ0 μ : Mu) (st0 st : Sto) (H0 H : Hp) (D : Addr) (acc : List PV) (va : List V) (E : XK) (Q : VK), SR K μ0 st0 H0 → H0 D = none → Gr μ0 H0 μ H → SR K μ st H → D ∈ μ.b → H D = some (.lst va) → VRs K H μ acc va →
  PostG K E (VR K) Q μ0 H0 (k acc st) → Q (.ref D) H
theorem lcV_end {K : KW} : LcEnd K lcV := fun μ0 μ st0 st H0 H D acc va E Q s0 hD g s hb hd r h =>
  h _ H _ (gr_unbar s0 hD g) (sr_unbar s) (show ∃ a vs, V.ref D = .ref a ∧ LstAt H (μ.unbar D) a vs ∧ VRs K H (μ.unbar D) acc vs from ⟨D, va, rfl, ⟨hd, fun m => by
    rcases m with m | m
    · exact (s.ban D hb).1 m
    · exact (unbar_b.mp m).2 rfl⟩, VRs.monov gv_unbar _ _ r⟩)
theorem lcN_end {K : KW} : LcEnd K lcN := fun μ0 μ st0 st H0 H D acc va E Q s0 hD g s hb hd r h =>
  h _ H _ (gr_open s0 hD g) (sr_open s hb hd r) (show ∃ a, V.ref D = .ref a ∧ ((μ.unbar D).add D).l[st.length]? = some a from ⟨D, rfl, by
    show (μ.l ++ [D])[st.length]? = some D
    rw [← s.len]; simp⟩)
abbrev W0 : WX := fun _ _ _ _ => False
theorem lc_imp {K : KW} {E : XK} {Q : VK} {J : It} {ps : List PV} {g0 : TG} {g : GM} {t : Rho → M Bool} {e : Rho → M PV} {k : List PV → M PV} {vs : List Nat} {μ : Mu} {H : Hp} {σ : St} {ρ : Rho} {st : Sto} {D : Addr} (su : Sup K J ps μ H) (er : ER K H μ ρ σ) (sr : SR K μ st H) (tg : TGo K vs g0 g) (le : LcEnd K k)
    (hD : H D = none) (h : PostG K E (VR K) Q μ H (M.bind (lcL g t e (wipeP ρ vs) ps []) k st)) :
    ∃ V : Nat → Nat → Hp → Prop, (∃ m, V 0 m (upd H D (.lst []))) ∧ ∀ i m H, V i m H →
      (J.stop i H ∧ Q (.ref D) H) ∨ (J.go i H ∧ ∃ Nx : Hp → Prop, (∀ H', Nx H' → ∃ m', m' < m ∧ V (i + 1) m' H') ∧ ∀ x H', J.yld i H x H' → g0 x (L2.wipe σ vs) H' fun σ2 H2 => L2.wipe σ2 vs = L2.wipe σ vs ∧ tMT K W0 t σ2 H2 fun b H3 =>
        if b = true then tM K W0 e σ2 H3 fun y H4 => ∃ acc, H4 D = some (.lst acc) ∧ acc.length < sizeLine ∧ Nx (upd H4 D (.lst (acc ++ [y]))) else Nx H3) := by
  let P : Nat → Hp → Prop := fun i H' => ∃ μ' st' acc va, Gr μ H μ' H' ∧ SR K μ' st' H' ∧ D ∈ μ'.b ∧ H' D = some (.lst va) ∧ VRs K H' μ' acc va ∧ PostG K E (VR K) Q μ H (M.bind (lcL g t e (wipeP ρ vs) (ps.drop i) acc) k st')
  refine ⟨fun i m H' => m = ps.length - i ∧ i ≤ ps.length ∧ P i H', ⟨ps.length, by simp, Nat.zero_le _, ?_⟩, ?_⟩
  · have gb : Gr μ H (μ.bar D) (upd H D (.lst [])) := ⟨⟨[], by simp [Mu.bar]⟩, fun a m => List.mem_cons_of_mem _ m, fun a m => by
      rcases List.mem_cons.mp m with z | z
      · rw [z]; exact .inr hD
      · exact .inl z, fun a m => .inl m, fun a o q _ => by rw [upd_ne (ne_of_none q hD)]; exact q, fun a o u q => by rw [upd_ne (ne_of_none q hD)]; exact q⟩
    refine ⟨μ.bar D, st, [], [], gb, ?_, List.mem_cons_self, upd_same, rfl, by rw [List.drop_zero]; exact h⟩
    refine ⟨sr.len, sr.nd, fun a m => ?_, fun n c a e1 e2 => (sr.cell n c a e1 e2).mono gb (upd_ne fun z => ?_)⟩
    · rcases List.mem_cons.mp m with z | z
      · subst z
        exact ⟨fun q => sr.free hD (.inl q), _, upd_same⟩
      · obtain ⟨n1, o, q⟩ := sr.ban a z
        exact ⟨n1, o, by rw [upd_ne (ne_of_none q hD)]; exact q⟩
    · obtain ⟨u, q⟩ := (sr.cell n c a e1 e2).has
      rw [z, hD] at q; cases q
  · rintro i m H1 ⟨rfl, hi, μ1, st1, acc, va, g1, s1, b1, d1, r1, h1⟩
    by_cases hlt : i < ps.length
    · have hp : ps[i]? = some ps[i] := by simp [hlt]
      obtain ⟨go, yl⟩ := (su μ1 H1 st1 g1 s1).1 i ps[i] hp
      refine .inr ⟨go, P (i + 1), fun H' q => ⟨ps.length - (i + 1), by omega, rfl, hlt, q⟩, fun x H2 y => ?_⟩
      obtain ⟨g2, s2, rx⟩ := yl x H2 y
      have gg2 := g1.trans g2 fun a m => (s2.ban a m).1
      rw [List.drop_eq_getElem_cons hlt] at h1
      unfold lcL at h1
      rw [M.bind_assoc] at h1
      refine tg x _ H2 _ μ1 st1 _ ps[i] ((er.mono gg2).wipe vs) s2 rx ((PostG.calm (PostG.bindAt h1 gg2)).mono fun σ3 H3 ⟨μ3, st3, ρ3, g3, s3, ⟨e3, w3⟩, h3⟩ => ⟨w3.trans (wipe_wipe fun _ z => z), ?_⟩)
      have gg3 := gg2.trans g3 fun a m => (s3.ban a m).1
      rw [M.bind_assoc] at h3
      refine ⟨μ3, st3, ρ3, e3, s3, (PostG.calm (PostG.bindAt h3 gg3)).mono fun c H4 ⟨μ4, st4, c', g4, s4, ec, h4⟩ => ?_⟩
      subst ec
      have gg4 := gg3.trans g4 fun a m => (s4.ban a m).1
      have keepD : ∀ {μa μb : Mu} {Ha Hb : Hp} {sa : Sto} {w : List V}, Gr μa Ha μb Hb → SR K μa sa Ha → D ∈ μa.b → Ha D = some (.lst w) → Hb D = some (.lst w) := fun g s m q => g.keep D _ q (s.ban D m).1
      have d2 := keepD g2 s1 b1 d1
      have b2 := g2.ban D b1
      have d3 := keepD g3 s2 b2 d2
      have b3 := g3.ban D b2
      have d4 := keepD g4 s3 b3 d3
      have b4 := g4.ban D b3
      have r4 : VRs K H4 μ4 acc va := VRs.mono g4 _ _ (VRs.mono g3 _ _ (VRs.mono g2 _ _ r1))
      cases c' with
      | false =>
        rw [if_neg Bool.false_ne_true] at h4 ⊢
        exact ⟨μ4, st4, acc, va, gg4, s4, b4, d4, r4, h4⟩
      | true =>
        rw [if_pos rfl] at h4 ⊢
        rw [M.bind_assoc] at h4
        refine ⟨μ4, st4, ρ3, e3.mono g4, s4, (PostG.calm (PostG.bindAt h4 gg4)).mono fun w H5 ⟨μ5, st5, py, g5, s5, rw5, h5⟩ => ?_⟩
        have gg5 := gg4.trans g5 fun a m => (s5.ban a m).1
        have d5 := keepD g5 s4 b4 d4
        have b5 := g5.ban D b4
        have r5 : VRs K H5 μ5 acc va := VRs.mono g5 _ _ r4
        by_cases hz : acc.length < SZ
        · rw [if_pos hz] at h5
          refine ⟨va, d5, by rw [← VRs.length r5, sz_eq]; exact hz, μ5, st5, acc ++ [py], va ++ [w], ?_, sr_bar b5 s5, b5, upd_same, VRs.monov (gv_bar b5) _ _ (VRs.append r5 (VRs.cons rw5 VRs.nil)), h5⟩
          exact ⟨gg5.pre, gg5.ban, gg5.bnew, gg5.new, fun a o q n => by rw [upd_ne (ne_of_none q hD)]; exact gg5.keep a o q n, fun a o u q => by rw [upd_ne (ne_of_none q hD)]; exact gg5.fz a o u q⟩
        · rw [if_neg hz] at h5
          exact h5.elim
    · have ei : i = ps.length := by omega
      subst ei
      rw [List.drop_length] at h1
      exact .inl ⟨(su μ1 H1 st1 g1 s1).2, le μ μ1 st st1 H H1 D acc va E Q sr hD g1 s1 b1 d1 r1 h1⟩
def eLc (k : List PV → M PV) (mi : Rho → M (List PV)) (g : GM) (t : Rho → M Bool) (e : Rho → M PV) (vs : List Nat) : Rho → M PV := fun ρ => M.bind (mi ρ) fun ps => M.bind (lcL g t e (wipeP ρ vs) ps []) k
def tYesM : Rho → M Bool := fun _ => M.ret true
def MTs (X : Cx) (W : WX) (ifs : List Expr) (m : Rho → M Bool) : Prop := PTs X ifs (tMT (kw X) W m)
section
variable {X : Cx} {W : WX}
theorem PTs.imp {ifs : List Expr} {t t' : TT} (h : PTs X ifs t) (i : ∀ σ H Q, t' σ H Q → t σ H Q) : PTs X ifs t' := ⟨fun pins s σ H Q I q => h.run pins s σ H Q I (i σ H Q q)⟩
theorem mts_nil : MTs X W [] tYesM := PTs.imp pts_nil fun σ H Q ⟨μ, st, ρ, er, sr, h⟩ => h μ H true (Gr.refl _ _) sr rfl
theorem mts_one {c : Expr} {m : Rho → M Bool} (h : MT X W c m) : MTs X W [c] m := pts_one h
theorem lc_tie {mi : Rho → M (List PV)} {g0 : TG} {g : GM} {t : Rho → M Bool} {e : Rho → M PV} {k : List PV → M PV} {vs : List Nat} (tg : TGo (kw X) vs g0 g) (le : LcEnd (kw X) k) : ∀ σ H Q, tM (kw X) W (eLc k mi g t e vs) σ H Q → tLc (tMI (kw X) W mi) g0 (tMT (kw X) W0 t) (tM (kw X) W0 e) vs σ H Q :=
  fun σ H Q ⟨μ, st, ρ, er, sr, h⟩ => ⟨μ, st, ρ, er, sr, (PostG.bind h).mono fun J H1 ⟨μ1, st1, ps, g1, s1, su, h1⟩ D hD => lc_imp su (er.mono g1) s1 tg le hD h1⟩
theorem me_lc {elt tgt iter : Expr} {ifs : List Expr} {scope : Scope} {own : List (Str × Nat)} {pos : Pos} {mi : Rho → M (List PV)} {g0 : TG} {g : GM} {t : Rho → M Bool} {e : Rho → M PV} {k : List PV → M PV} (hc : X.calm = true) (hN : X.N.Nodup) (hi : MI X W tgt iter mi) (ok : BlkOk X.N X.env.scope scope own) (tg : TGo (kw X) (own.map (·.2)) g0 g) (le : LcEnd (kw X) k)
    (hg : ∀ (s : Shared) (H : Hp) (C : Addr) (cl : List (Str × Addr)) (fp : List Addr), PG (X.blk s H scope (compEnvC scope cl C X.env) fp) tgt g0)
    (ht : ∀ (s : Shared) (H : Hp) (C : Addr) (cl : List (Str × Addr)) (fp : List Addr), MTs (X.blk s H scope (compEnvC scope cl C X.env) fp) W0 ifs t)
    (he : ∀ (s : Shared) (H : Hp) (C : Addr) (cl : List (Str × Addr)) (fp : List Addr), ME (X.blk s H scope (compEnvC scope cl C X.env) fp) W0 elt e) (hs : ∀ x, foldedSetIterable iter X.env x = pure x := by intro _; kernel_rfl) :
    ME X W (.ListComp elt [⟨tgt, iter, ifs, 0⟩] scope pos) (eLc k mi g t e (own.map (·.2))) := PE.imp (pe_lc (tt := tMT (kw X) W0 t) (te := tM (kw X) W0 e) hc hN hi ok hg ht he hs) (lc_tie tg le)
theorem ms_setLc {i : Nat} {y : Str} {py spos : Pos} {elt tgt iter : Expr} {ifs : List Expr} {scope : Scope} {own : List (Str × Nat)} {pos : Pos} {mi : Rho → M (List PV)} {g0 : TG} {g : GM} {t : Rho → M Bool} {e : Rho → M PV} {k : List PV → M PV} (hc : X.calm = true) (hN : X.N.Nodup) (hy : X.N[i]? = some y) (hyl : X.env.scope.names.lookup y = some .local)
    (hsw : swapsWith (.ListComp elt [⟨tgt, iter, ifs, 0⟩] scope pos) (some (.Name y py)) spos.line X.env = pure true) (hi : MI X W tgt iter mi) (ok : BlkOk X.N X.env.scope scope own) (tg : TGo (kw X) (own.map (·.2)) g0 g) (le : LcEnd (kw X) k)
    (hg : ∀ (s : Shared) (H : Hp) (C : Addr) (cl : List (Str × Addr)) (fp : List Addr), PG (X.blk s H scope (compEnvC scope cl C X.env) fp) tgt g0)
    (ht : ∀ (s : Shared) (H : Hp) (C : Addr) (cl : List (Str × Addr)) (fp : List Addr), MTs (X.blk s H scope (compEnvC scope cl C X.env) fp) W0 ifs t)
    (he : ∀ (s : Shared) (H : Hp) (C : Addr) (cl : List (Str × Addr)) (fp : List Addr), ME (X.blk s H scope (compEnvC scope cl C X.env) fp) W0 elt e) (hs : ∀ x, foldedSetIterable iter X.env x = pure x := by intro _; kernel_rfl) :
    MS X W (.Assign [.Name y py] (.ListComp elt [⟨tgt, iter, ifs, 0⟩] scope pos) spos) (sSet i (eLc k mi g t e (own.map (·.2)))) := PS.imp (ps_setLc (tt := tMT (kw X) W0 t) (te := tM (kw X) W0 e) hc hN hy hyl hsw hi ok hg ht he hs) fun D σ H ⟨μ, st, ρ, er, sr, h⟩ =>
      lc_tie tg le σ H _ ⟨μ, st, ρ, er, sr, (PostS.onErr h er).mono fun u H1 ⟨μ1, st1, x, g1, s1, rx, h1⟩ => h1 μ1 H1 _ (Gr.refl _ _) s1 ((er.mono g1).set rx i)⟩
end
end MP

set_option maxRecDepth 100000
set_option maxHeartbeats 1000000
namespace MP
open PySem L2
section
variable {X : Cx} {W : WX} {e : Expr} {pos : Pos} {me : Rho → M PV}
theorem ms_s {i : Nat} {x : Str} {pos' : Pos} (hN : X.N.Nodup) (he : ME X W e me) (hi : X.N[i]? = some x := by kernel_rfl) (hx : Loc X.env.scope x := by first | exact Or.inl rfl | exact Or.inr rfl) (hs : swapsWith e (some (.Name x pos')) pos.line X.env = pure false := by kernel_rfl)
    (hf : X.fn x = true ∨ X.env.scope.names.lookup x = some .local := by first | exact .inl rfl | exact .inr rfl) : MS X W (.Assign [.Name x pos'] e pos) (sSet i me) := ms_set hN hi hx he hs hf
theorem mg_n {i : Nat} {x : Str} (hN : X.N.Nodup) (hi : X.N[i]? = some x := by kernel_rfl) (hx : Loc X.env.scope x := by first | exact Or.inl rfl | exact Or.inr rfl) (hf : X.fn x = true ∨ X.env.scope.names.lookup x = some .local := by first | exact .inl rfl | exact .inr rfl) : MG X W (.Name x pos) (gN i) := mg_name hN hi hx hf
theorem pg_n {i : Nat} {x : Str} (hN : X.N.Nodup) (hi : X.N[i]? = some x := by kernel_rfl) (hx : Loc X.env.scope x := by first | exact Or.inl rfl | exact Or.inr rfl) (hf : X.fn x = true ∨ X.env.scope.names.lookup x = some .local := by first | exact .inl rfl | exact .inr rfl) : PG X (.Name x pos) (gName i) := pg_name hN hi hx hf
def truM (x : PV) : M Bool := fun st => match x with
  | .non => .ok false st
  | .bl b => .ok b st
  | .int i => .ok (i != 0) st
  | .str z => if z.length ≤ SZ then .ok (!z.isEmpty) st else .bad
  | x => match seqOf x st with
    | some xs => .ok (!xs.isEmpty) st
    | none => match dctOf x st with
      | some kvs => .ok (!kvs.isEmpty) st
      | none => .bad
end
def tyC (T : String) (x : PV) : M Unit := fun st => match x with
  | .str _ => if T = "str" then .ok () st else .bad
  | x => match listOf x st with
    | some _ => if T = "list" then .ok () st else .bad
    | none => match dctOf x st with
      | some _ => if T = "dict" then .ok () st else .bad
      | none => .bad
theorem tyC_at {K : KW} {H : Hp} {μ : Mu} {st st' : Sto} {T : String} {x : PV} {v : V} (sr : SR K μ st H) (r : VR K H μ x v) (h : tyC T x st = .ok () st') : tyV K T v H ∧ st' = st := by
  have l : ∀ xs, listOf x st = some xs → (if T = "list" then (Res.ok () st) else Res.bad) = .ok () st' → tyV K T v H ∧ st' = st := by
    intro xs hl h
    obtain ⟨a, vs, rfl, h1, _⟩ := listOf_at sr r hl
    by_cases hT : T = "list"
    · rw [if_pos hT] at h
      cases h
      exact ⟨.inl ⟨hT, vs, SqL.of h1⟩, rfl⟩
    · rw [if_neg hT] at h
      cases h
  have d : ∀ kvs, dctOf x st = some kvs → (if T = "dict" then (Res.ok () st) else Res.bad) = .ok () st' → tyV K T v H ∧ st' = st := by
    intro kvs hl h
    obtain ⟨n, a, kv, _, rfl, _, _, h1, _⟩ := dctOf_at sr r hl
    by_cases hT : T = "dict"
    · rw [if_pos hT] at h
      cases h
      exact ⟨.inr (.inr (.inl ⟨hT, .inl ⟨kv, h1⟩⟩)), rfl⟩
    · rw [if_neg hT] at h
      cases h
  have dflt : (match listOf x st with
    | some _ => if T = "list" then Res.ok () st else Res.bad
    | none => match dctOf x st with
      | some _ => if T = "dict" then Res.ok () st else Res.bad
      | none => Res.bad) = .ok () st' → tyV K T v H ∧ st' = st := by
    intro h
    cases q : listOf x st with
    | some xs => rw [q] at h; exact l xs q h
    | none =>
      rw [q] at h
      dsimp only at h
      cases q2 : dctOf x st with
      | some kvs => rw [q2] at h; exact d kvs q2 h
      | none => rw [q2] at h; cases h
  cases x with
  | str z =>
    cases (show v = V.str ⟨z.toArray⟩ from r)
    unfold tyC at h
    dsimp only at h
    by_cases hT : T = "str"
    · rw [if_pos hT] at h
      cases h
      exact ⟨hT, rfl⟩
    · rw [if_neg hT] at h
      cases h
  | _ => exact dflt h
def eMeth (T : String) (f : PV → List PV → M PV) (mo : Rho → M PV) (ma : Rho → M (List PV)) : Rho → M PV := fun ρ => M.bind (mo ρ) fun o => M.bind (tyC T o) fun _ => M.bind (ma ρ) fun xs => f o xs
def TMe (K : KW) (r : V → List V → Hp → VK → Prop) (f : PV → List PV → M PV) : Prop := ∀ (μ : Mu) (st : Sto) (H : Hp) (o : PV) (xs : List PV) (u : V) (us : List V) (E : XK) (Q : VK), SR K μ st H → VR K H μ o u → VRs K H μ xs us → PostG K E (VR K) Q μ H (f o xs st) → r u us H Q
section
variable {X : Cx} {W : WX} {o e : Expr} {es : List Expr} {name : Str} {apos cpos : Pos} {T id : String} {r : V → List V → Hp → VK → Prop} {f : PV → List PV → M PV} {mo : Rho → M PV} {ma : Rho → M (List PV)}
theorem meth_ty {μ : Mu} {st : Sto} {H : Hp} {x : PV} {v : V} {α β : Type} {E : XK} {R : Hp → Mu → α → β → Prop} {Q : β → Hp → Prop} {k : Unit → M α} (sr : SR (kw X) μ st H) (rx : VR X.K H μ x v) (h : PostG (kw X) E R Q μ H (M.bind (tyC T x) k st)) : tyV X.K T v H ∧ PostG (kw X) E R Q μ H (k () st) := by
  unfold M.bind at h
  cases q : tyC T x st with
  | ok a st' =>
    rw [q] at h
    obtain ⟨h1, rfl⟩ := tyC_at sr rx q
    exact ⟨h1, h⟩
  | err y st' =>
    exfalso
    unfold tyC at q
    repeat (first | split at q | cases q)
  | bad => rw [q] at h; exact h.elim
theorem me_meth (pa : PySem.PlainAttrs T) (slot : PySem.Slot T name id) (hty : typeOf (.builtin id) = pure (.type "method_descriptor")) (hm : MtR X id r) (t : TMe (kw X) r f) (ho : ME X W o mo) (ha : MA X W (e :: es) ma)
    (hbase : attributeBase o name X.env (eval o X.env) = eval o X.env := by kernel_rfl)
    (hfew : ((backTo cpos (starEach (e :: es) X.env)).all (fun x => !x.1) && (backToKw cpos (keywordEach [] X.env)).all (fun x => x.1.isSome)
      && decide ((e :: es).length + ([] : List Keyword).length + (if ([] : List Keyword).isEmpty then 0 else 1) < 30)) = true := by kernel_rfl)
    (hline : (apos.endLine == cpos.line) = true := by kernel_rfl) (hs : starEach (e :: es) X.env = (false, eval e X.env) :: starEach es X.env := by kernel_rfl) (hplain : (backTo cpos (starEach es X.env)).any (·.1) = false := by kernel_rfl) :
    ME X W (.Call (.Attribute o name apos) (e :: es) [] cpos) (eMeth T f mo ma) :=
  PE.imp (pe_bm pa slot hty hm ho ha hbase hfew hline hs hplain) fun σ H Q ⟨μ, st, ρ, er, sr, h⟩ => ⟨μ, st, ρ, er, sr, (PostG.bind h).mono fun u H1 ⟨μ1, st1, x, g1, s1, rx, h1⟩ => by
    obtain ⟨h2, h3⟩ := meth_ty s1 rx h1
    exact ⟨h2, μ1, st1, ρ, er.mono g1, s1, (PostG.bind h3).mono fun us H2 ⟨μ2, st2, xs, g2, s2, rxs, h4⟩ => t μ2 st2 H2 x xs u us _ Q s2 (VR.mono g2 x u rx) rxs h4⟩⟩
theorem me_meth0 (pa : PySem.PlainAttrs T) (slot : PySem.Slot T name id) (hty : typeOf (.builtin id) = pure (.type "method_descriptor")) (hm : MtR X id r) (t : TMe (kw X) r f) (ho : ME X W o mo)
    (hbase : attributeBase o name X.env (eval o X.env) = eval o X.env := by kernel_rfl) (hline : (apos.endLine == cpos.line) = true := by kernel_rfl) : ME X W (.Call (.Attribute o name apos) [] [] cpos) (eMeth T f mo aNil) :=
  PE.imp (pe_bm0 pa slot hty hm ho hbase hline) fun σ H Q ⟨μ, st, ρ, er, sr, h⟩ => ⟨μ, st, ρ, er, sr, (PostG.bind h).mono fun u H1 ⟨μ1, st1, x, g1, s1, rx, h1⟩ => by
    obtain ⟨h2, h3⟩ := meth_ty s1 rx h1
    exact ⟨h2, t μ1 st1 H1 x [] u [] _ Q s1 rx rfl h3⟩⟩
end
def lstCell (o : PV) (st : Sto) : Option (Nat × List PV) := match o with
  | .loc n => match st[n]? with
    | some (.lst xs) => some (n, xs)
    | _ => none
  | _ => none
theorem lstCell_at {K : KW} {H : Hp} {μ : Mu} {st : Sto} {x : PV} {v : V} {n : Nat} {xs : List PV} (sr : SR K μ st H) (r : VR K H μ x v) (h : lstCell x st = some (n, xs)) : ∃ a vs, v = .ref a ∧ μ.l[n]? = some a ∧ H a = some (.lst vs) ∧ VRs K H μ xs vs := by
  cases x with
  | loc m =>
    obtain ⟨a, rfl, ha⟩ := loc_at r
    unfold lstCell at h
    dsimp only at h
    cases q : st[m]? with
    | none => rw [q] at h; cases h
    | some c =>
      rw [q] at h
      cases c with
      | lst ys =>
        cases h
        obtain ⟨vs, h1, h2⟩ := sr.cell n _ a q ha
        exact ⟨a, vs, rfl, ha, h1, h2⟩
      | dct kvs => cases h
      | ins C fs => cases h
      | dcl kvs => cases h
      | dcn kvs => cases h
      | lck kvs => cases h
  | _ => cases h
def appendM (o : PV) (xs : List PV) : M PV := fun st => match lstCell o st with
  | some (n, ys) => match xs with
    | [x] => if ys.length < SZ then .ok .non (st.set n (.lst (ys ++ [x]))) else .bad
    | _ => .bad
  | none => .bad
theorem t_append {K : KW} : TMe K rAppend appendM := by
  intro μ st H o xs u us E Q sr ro rs h
  unfold appendM at h
  cases q : lstCell o st with
  | none => rw [q] at h; exact h.elim
  | some p =>
    obtain ⟨n, ys⟩ := p
    rw [q] at h
    dsimp only at h
    cases xs with
    | nil => exact h.elim
    | cons x t =>
      cases t with
      | cons y t => exact h.elim
      | nil =>
        dsimp only at h
        by_cases hz : ys.length < SZ
        · rw [if_pos hz] at h
          obtain ⟨a, vs, rfl, ha, h1, h2⟩ := lstCell_at sr ro q
          obtain ⟨w, rfl, rw'⟩ := one_of rs
          refine ⟨a, vs, w, rfl, rfl, h1, by rw [← VRs.length h2, sz_eq]; exact hz, ?_⟩
          exact h μ _ .non (gr_put ha h1 rfl) (sr.put ha ⟨_, upd_same, VRs.monov (gv_put ha) _ _ (VRs.append h2 (VRs.cons rw' VRs.nil))⟩) rfl
        · rw [if_neg hz] at h
          exact h.elim
def popM (o : PV) (xs : List PV) : M PV := fun st => match lstCell o st with
  | some (n, ys) => match xs with
    | [] => match ys[ys.length - 1]? with
      | some y => .ok y (st.set n (.lst ys.dropLast))
      | none => .bad
    | _ => .bad
  | none => .bad
theorem VRs.dropLast {K : PySem.W.Frag} {H : Hp} {μ : Mu} {ps : List PV} {vs : List V} (r : VRs K H μ ps vs) : VRs K H μ ps.dropLast vs.dropLast := by
  rw [List.dropLast_eq_take, List.dropLast_eq_take, VRs.length r]
  exact VRs.take _ r
theorem t_pop {K : KW} : TMe K rPop popM := by
  intro μ st H o xs u us E Q sr ro rs h
  unfold popM at h
  cases q : lstCell o st with
  | none => rw [q] at h; exact h.elim
  | some p =>
    obtain ⟨n, ys⟩ := p
    rw [q] at h
    dsimp only at h
    cases xs with
    | cons x t => exact h.elim
    | nil =>
      dsimp only at h
      cases qy : ys[ys.length - 1]? with
      | none => rw [qy] at h; exact h.elim
      | some y =>
        rw [qy] at h
        obtain ⟨a, vs, rfl, ha, h1, h2⟩ := lstCell_at sr ro q
        obtain ⟨w, e, rw'⟩ := VRs.get h2 qy
        refine ⟨a, vs, w, rfl, rs, h1, by rw [← VRs.length h2]; exact e, ?_⟩
        exact h μ _ w (gr_put ha h1 rfl) (sr.put ha ⟨_, upd_same, VRs.monov (gv_put ha) _ _ (VRs.dropLast h2)⟩) (VR.monov (gv_put ha) _ _ rw')
section
variable {X : Cx} {W : WX} {o e : Expr} {apos cpos : Pos} {mo : Rho → M PV} {ma : Rho → M (List PV)}
theorem me_append (ho : ME X W o mo) (ha : MA X W [e] ma)
    (hbase : attributeBase o "append" X.env (eval o X.env) = eval o X.env := by kernel_rfl)
    (hfew : ((backTo cpos (starEach [e] X.env)).all (fun x => !x.1) && (backToKw cpos (keywordEach [] X.env)).all (fun x => x.1.isSome)
      && decide ([e].length + ([] : List Keyword).length + (if ([] : List Keyword).isEmpty then 0 else 1) < 30)) = true := by kernel_rfl)
    (hline : (apos.endLine == cpos.line) = true := by kernel_rfl) (hs : starEach [e] X.env = (false, eval e X.env) :: starEach [] X.env := by kernel_rfl) :
    ME X W (.Call (.Attribute o "append" apos) [e] [] cpos) (eMeth "list" appendM mo ma) :=
  me_meth PySem.F.plainAttrs_list PySem.F.slot_list_append PySem.F.type_list_append mt_append t_append ho ha hbase hfew hline hs rfl
theorem me_pop (ho : ME X W o mo) (hbase : attributeBase o "pop" X.env (eval o X.env) = eval o X.env := by kernel_rfl) (hline : (apos.endLine == cpos.line) = true := by kernel_rfl) :
    ME X W (.Call (.Attribute o "pop" apos) [] [] cpos) (eMeth "list" popM mo aNil) :=
  me_meth0 PySem.F.plainAttrs_list PySem.F.slot_list_pop PySem.F.type_list_pop mt_pop t_pop ho hbase hline
end
theorem FnOk.ex {P : Program} {w : World} {K : PySem.W.Frag} {mg : Str → Option Value} {base : Heap} {CX : CXT} {k : Nat} {f : Addr} {fd : FuncData} {ps : List Str} {sp : Nat → Sp} (F : ∀ n, FnOk P w K mg base CX k f fd ps (sp n)) : FnOk P w K mg base CX k f fd ps (fun vs H Q E => ∃ n, sp n vs H Q E) :=
  ⟨fun vs H Q E ⟨n, h⟩ => (F n).len vs H Q E h, fun A outer s H args us vs Q E hr he hb hv ⟨n, h⟩ => (F n).run A outer s H args us vs Q E hr he hb hv h⟩
theorem law_sp {K : KW} {m : Nat → List PV → M PV} {ns : List Int} {n : Nat} {st : Sto} {H : Hp} {a : Addr} (hS : SqL K H a (ns.map V.int)) (h : m n [.frz (ns.map .int)] [] = .ok (.bl true) st) :
    ∃ n, spM K (m n) 1 [.ref a] H (fun v _ => v = .bl true) (fun _ _ _ => False) := by
  refine ⟨n, ⟨[], []⟩, [], [.frz (ns.map .int)], ⟨rfl, List.nodup_nil, fun a m => (nomatch m), fun n c a e => by simp at e⟩, VRs.cons ?_ VRs.nil, rfl, ?_⟩
  · refine (show ∃ b vs, V.ref a = .ref b ∧ FrzAt K H ⟨[], []⟩ b vs ∧ VRs K H ⟨[], []⟩ (ns.map .int) vs from ⟨a, _, rfl, ?_, VRs.ints⟩)
    rcases hS with hS | hS
    · exact .inl ⟨hS, fun m => by rcases m with m | m <;> exact (nomatch m)⟩
    · exact .inr hS
  · rw [h]
    exact fun μ' H' b g s r => r
theorem cx_false {P : Program} {w : World} (H : Hp) (s : Shared) (e : Value) (s' : Shared) (h : L2.CX P w [] H s (fun _ _ _ => False) e s') : False := by
  obtain ⟨_, _, _, _, _, _, _, _, _, _, _, _, z⟩ := h
  exact z.elim
end MP

set_option maxRecDepth 100000
set_option maxHeartbeats 1000000
namespace MP
open PySem L2
section
variable {X : Cx} {W : WX} {e a b c : Expr} {pos : Pos} {me : Rho → M PV}
theorem me_globI' {x : Str} {i : Int} (hg : Gl X x) (hm : ∃ t, X.mg x = some (.int i t)) (hd : (x == ("__debug__" : Str)) = false := by kernel_rfl) : ME X W (.Name x pos) (eC (.int i)) := let ⟨_, h⟩ := hm; me_globI hg h hd
theorem me_globS' {x : Str} {l : List Nat} (hg : Gl X x) (hm : ∃ t, X.mg x = some (.str ⟨l.toArray⟩ t)) (hd : (x == ("__debug__" : Str)) = false := by kernel_rfl) : ME X W (.Name x pos) (eC (.str l)) := let ⟨_, h⟩ := hm; me_globS hg h hd
def KV1 (K : PySem.W.Frag) (p : PV) (u : Value) : Prop := ∃ v, RelV v u ∧ ∀ H μ, VR K H μ p v
def KVs (K : PySem.W.Frag) : List PV → List Value → Prop
  | [], us => us = []
  | p :: ps, us => ∃ u t, us = u :: t ∧ KV1 K p u ∧ KVs K ps t
theorem KVs.vals {K : PySem.W.Frag} : ∀ {ps : List PV} {us : List Value}, KVs K ps us → ∃ vs, Vals vs us ∧ ∀ H μ, VRs K H μ ps vs
  | [], us, h => by have e : us = [] := h; subst e; exact ⟨[], .nil, fun _ _ => rfl⟩
  | p :: ps, us, h => by
    obtain ⟨u, t, rfl, ⟨v, r, hv⟩, ht⟩ := h
    obtain ⟨vs, r2, h2⟩ := KVs.vals ht
    exact ⟨v :: vs, .cons r r2, fun H μ => VRs.cons (hv H μ) (h2 H μ)⟩
def TupIn (K : PySem.W.Frag) (a : Addr) (ps : List PV) : Prop := ∃ (o : Obj) (its : List Value) (n : Nat), K.lookup a = some o ∧ o.cls = .type "tuple" ∧ o.data = .seq its.toArray n ∧ its.length ≤ SZ ∧ KVs K ps its
theorem TupIn.kt {K : PySem.W.Frag} {a : Addr} {ps : List PV} (h : TupIn K a ps) : ∃ vs, KT K a vs ∧ ∀ H μ, VRs K H μ ps vs := by
  obtain ⟨o, its, n, h1, h2, h3, h4, h5⟩ := h
  obtain ⟨vs, r, hv⟩ := KVs.vals h5
  exact ⟨vs, ⟨o, its.toArray, n, h1, h2, h3, by rw [List.size_toArray, sz_eq]; exact h4, by simpa using r⟩, hv⟩
theorem TupIn.val {K : PySem.W.Frag} {a : Addr} {ps : List PV} (h : TupIn K a ps) : KV1 K (.tup ps) (.ref a) := by
  obtain ⟨vs, kt, hv⟩ := h.kt
  exact ⟨.ref a, rfl, fun H μ => (show ∃ b ws, V.ref a = .ref b ∧ TupAt K H μ b ws ∧ VRs K H μ ps ws from ⟨a, vs, rfl, .inr kt, hv H μ⟩)⟩
def TupleAt (K : PySem.W.Frag) (mg : Str → Option Value) (x : Str) (ps : List PV) : Prop := ∃ a, mg x = some (.ref a) ∧ TupIn K a ps
theorem me_globT' {x : Str} {ps : List PV} (hg : Gl X x) (hm : TupleAt X.K X.mg x ps) (hd : (x == ("__debug__" : Str)) = false := by kernel_rfl) : ME X W (.Name x pos) (eC (.tup ps)) := by
  obtain ⟨a, h1, h2⟩ := hm
  obtain ⟨vs, kt, hv⟩ := h2.kt
  exact me_globT hg h1 kt hv hd
def RowsT (K : PySem.W.Frag) : List (List Nat × PV) → List DictEntry → Prop
  | [], es => es = []
  | p :: r, es => ∃ e t, es = e :: t ∧ (∃ tk, e.key = .str ⟨p.1.toArray⟩ tk) ∧ KV1 K p.2 e.val ∧ RowsT K r t
def TabIn (w : World) (K : PySem.W.Frag) (a : Addr) (tab : List (List Nat × PV)) : Prop := ∃ (es : List DictEntry) (n : Nat), K.lookup a = some ⟨.type "dict", none, .dict es.toArray n, #[]⟩ ∧ PySem.W.KeysLit w.params es ∧ (a == sysModules) = false ∧ RowsT K tab es
def TabAt (w : World) (K : PySem.W.Frag) (mg : Str → Option Value) (x : Str) (tab : List (List Nat × PV)) : Prop := ∃ a, mg x = some (.ref a) ∧ TabIn w K a tab
def lookT : List (List Nat × PV) → List Nat → Option PV
  | [], _ => none
  | p :: r, k => if p.1 = k then some p.2 else lookT r k
theorem RowsT.find {K : PySem.W.Frag} {z : List Nat} : ∀ {tab : List (List Nat × PV)} {es : List DictEntry}, RowsT K tab es → (lookT tab z = none → (es.find? fun e => Value.isStrOf ⟨z.toArray⟩ e.key) = none) ∧ ∀ p, lookT tab z = some p → ∃ e, (es.find? fun e => Value.isStrOf ⟨z.toArray⟩ e.key) = some e ∧ KV1 K p e.val
  | [], es, h => by have e : es = [] := h; subst e; exact ⟨fun _ => rfl, fun p q => (nomatch q)⟩
  | q :: r, es, h => by
    obtain ⟨e, t, rfl, ⟨tk, ek⟩, hv, hr⟩ := h
    obtain ⟨i1, i2⟩ := RowsT.find (z := z) hr
    have hk : Value.isStrOf ⟨z.toArray⟩ e.key = decide (q.1 = z) := by
      rw [ek]
      show ((⟨q.1.toArray⟩ : Str) == ⟨z.toArray⟩) = decide (q.1 = z)
      rw [Bool.eq_iff_iff]
      simp
    unfold lookT
    rw [List.find?_cons, hk]
    by_cases hq : q.1 = z
    · rw [if_pos hq, decide_eq_true hq]
      exact ⟨fun z => (nomatch z), fun p hp => by cases hp; exact ⟨e, rfl, hv⟩⟩
    · rw [if_neg hq, decide_eq_false hq]
      exact ⟨i1, i2⟩
def getTab (tab : List (List Nat × PV)) (x : PV) : M PV := match x with
  | .str z => M.ret ((lookT tab z).getD .non)
  | _ => M.fail
theorem me_getTab {x : Str} {tab : List (List Nat × PV)} {p apos : Pos} (hm : TabAt X.w X.K X.mg x tab) (he : ME X W e me) (hg : Gl X x := by exact gl_of (by kernel_rfl)) (hd : (x == ("__debug__" : Str)) = false := by kernel_rfl)
    (m : M1 X (.Name x p) "get" apos e pos := by exact ⟨by kernel_rfl, by kernel_rfl, by kernel_rfl, by kernel_rfl⟩) : ME X W (.Call (.Attribute (.Name x p) "get" apos) [e] [] pos) (eUn (getTab tab) me) := by
  obtain ⟨a, h1, es, n, hl, hk, low, rows⟩ := hm
  refine PE.imp (t := fun σ H Q => tM (kw X) W me σ H fun y H2 => ∃ z, y = .str z ∧ ∀ v, RelV v ((PySem.findBy Value.isStrOf es.toArray z).getD .none) → Q v H2) ⟨fun pins s σ H Q I h => ?_⟩ fun σ H Q ⟨μ, st, ρ, er, sr, h⟩ => ⟨μ, st, ρ, er, sr, (PostG.bind h).mono fun u H1 ⟨μ1, st1, y, g1, s1, ry, h1⟩ => ?_⟩
  · refine wpAny_Call_method m.base m.few m.line PySem.F.plainAttrs_dict PySem.F.slot_dict_get PySem.F.type_dict_get (ld_glob I hg h1 ?_ hd)
    have mp := PySem.W.mapOf_K (prog := X.prog) (w := X.w) I.kIn hl (by simpa using hk)
    refine ⟨mp.typeIs, fun b q => by cases q; exact ⟨_, I.kIn _ _ hl, rfl⟩, ?_⟩
    rw [m.trees]
    refine Calls.callWith_builtin rfl (Calls.evalArgs_plain (Calls.spliced_cons (thn (he.run pins s σ H _ I h) fun iv s2 ⟨y, H2, I2, ry, z, ey, q2⟩ => Calls.spliced_nil ?_)))
    subst ey
    obtain ⟨t, rfl⟩ := ry
    have mp2 := PySem.W.mapOf_K (prog := X.prog) (w := X.w) I2.kIn hl (by simpa using hk)
    refine call_meetsIn PySem.F.slot_dict_get mp2.typeIs PySem.F.entry_dict_get (PySem.F.args_dict_get_2 _ _) (meets_dict_get (strKind X.prog X.w) a (strKind_is X.prog X.w z t) low) ⟨_, mp2, ?_⟩
    have fr : ∃ v, RelV v ((PySem.findBy Value.isStrOf es.toArray z).getD .none) := by
      have q := RowsT.find (z := z.cps.toList) rows
      have ez : (⟨z.cps.toList.toArray⟩ : Str) = z := by simp
      rw [ez] at q
      unfold PySem.findBy
      rw [List.find?_toArray]
      cases hq : lookT tab z.cps.toList with
      | none => rw [q.1 hq]; exact ⟨.non, rfl⟩
      | some p =>
        obtain ⟨e, e1, v, r, _⟩ := q.2 p hq
        rw [e1]
        exact ⟨v, r⟩
    obtain ⟨v, rv⟩ := fr
    exact ⟨v, H2, I2.tok _, rv, q2 v rv⟩
  · cases y with
    | str z =>
      refine ⟨⟨z.toArray⟩, ry, fun v rv => ?_⟩
      have q := RowsT.find (z := z) rows
      unfold PySem.findBy at rv
      rw [List.find?_toArray] at rv
      have h2 : PostG (kw X) (fun c d H' => W c d σ H') (VR X.K) Q μ1 H1 (.ok ((lookT tab z).getD .non) st1) := h1
      cases hq : lookT tab z with
      | none =>
        rw [q.1 hq] at rv
        rw [hq] at h2
        have ev : v = .non := RelV.inj rv (show RelV .non Value.none from rfl)
        subst ev
        exact post_same h2 s1 rfl
      | some p =>
        obtain ⟨e, e1, v', r, hv⟩ := q.2 p hq
        rw [e1] at rv
        rw [hq] at h2
        have ev : v = v' := RelV.inj rv r
        subst ev
        exact post_same h2 s1 (hv H1 μ1)
    | _ => exact h1.elim
def eChain (f g : PV → PV → M PV) (ma mb mc : Rho → M PV) : Rho → M PV := fun ρ => M.bind (ma ρ) fun x => M.bind (mb ρ) fun y => M.bind (f x y) fun z => M.bind (asB z) fun k => if k = true then M.bind (mc ρ) fun w => g y w else M.ret (.bl false)
variable {ma mb mc : Rho → M PV} {f g : PV → PV → M PV} {r r' : R2}
theorem chain_imp (t : T2 (kw X) r f) (t' : T2 (kw X) r' g) : ∀ σ H Q, tM (kw X) W (eChain f g ma mb mc) σ H Q → tChain r r' (tM (kw X) W ma) (tM (kw X) W mb) (tM (kw X) W mc) σ H Q := fun σ H Q ⟨μ, st, ρ, er, sr, h⟩ =>
  ⟨μ, st, ρ, er, sr, (PostG.bind h).mono fun u H1 ⟨μ1, st1, x, g1, s1, rx, h1⟩ => ⟨μ1, st1, ρ, er.mono g1, s1, (PostG.bind h1).mono fun v H2 ⟨μ2, st2, y, g2, s2, ry, h2⟩ =>
    t μ2 st2 H2 x y u v (fun c d H' => W c d σ H') _ s2 (VR.mono g2 x u rx) ry ((PostG.bind (R' := VR X.K) h2).mono fun z H3 ⟨μ3, st3, z', g3, s3, rz, h3⟩ => by
      obtain ⟨k, e, h4⟩ := asB_bind rz h3
      refine ⟨k, e, ?_⟩
      cases k with
      | true =>
        rw [if_pos rfl] at h4 ⊢
        exact ⟨μ3, st3, ρ, ((er.mono g1).mono g2).mono g3, s3, (PostG.bind h4).mono fun w H4 ⟨μ4, st4, w', g4, s4, rw', h5⟩ => t' μ4 st4 H4 y w' v w _ Q s4 (VR.mono g4 y v (VR.mono g3 y v ry)) rw' h5⟩
      | false => rw [if_neg Bool.false_ne_true] at h4 ⊢; exact h4 μ3 H3 _ (Gr.refl _ _) s3 rfl)⟩⟩
theorem me_chain {op op' : CmpOp} (ho : OpR X (compareOp op) r) (t : T2 (kw X) r f) (ho' : OpR X (compareOp op') r') (t' : T2 (kw X) r' g) (ha : ME X W a ma) (hb : ME X W b mb) (hc : ME X W c mc) (hm : lastMarks [op, op'] [b, c] = false := by kernel_rfl) :
    ME X W (.Compare a [op, op'] [b, c] pos) (eChain f g ma mb mc) := PE.imp (pe_chain ho ho' ha hb hc hm) (chain_imp t t')
theorem mt_chain {op op' : CmpOp} (ho : OpR X (compareOp op) r) (t : T2 (kw X) r f) (ho' : OpR X (compareOp op') r') (t' : T2 (kw X) r' g) (ha : ME X W a ma) (hb : ME X W b mb) (hc : ME X W c mc) (hm : lastMarks [op, op'] [b, c] = false := by kernel_rfl) :
    MT X W (.Compare a [op, op'] [b, c] pos) (eB (eChain f g ma mb mc)) := PT.imp (pt_chain ho ho' ha hb hc hm) fun σ H Q h => chain_imp t t' σ H _ (test_imp (X := X) (W := W) (m := eChain f g ma mb mc) σ H Q h)
end
end MP

set_option maxRecDepth 100000
set_option maxHeartbeats 1000000
namespace MP
open PySem L2
section
variable {w : World} {K : PySem.W.Frag} {a : Addr}
theorem TabIn.of {es : Array DictEntry} {n : Nat} {tab : List (List Nat × PV)} (hl : K.lookup a = some ⟨.type "dict", none, .dict es n, #[]⟩) (hk : PySem.W.KeysLit w.params es.toList) (low : (a == sysModules) = false) (rows : RowsT K tab es.toList) : TabIn w K a tab := ⟨es.toList, n, by simpa using hl, hk, low, rows⟩
theorem RowsT.nil : RowsT K [] [] := rfl
theorem RowsT.row {s : String} {l : List Nat} {p : PV} {r : List (List Nat × PV)} {h : Int} {tk : Tok} {v : Value} {es : List DictEntry} (e : Str.ofString s = ⟨l.toArray⟩) (hv : KV1 K p v) (hr : RowsT K r es) : RowsT K ((l, p) :: r) (⟨h, .str (Str.ofString s) tk, v⟩ :: es) :=
  ⟨_, _, rfl, ⟨tk, by rw [e]⟩, hv, hr⟩
theorem KV1.non : KV1 K .non Value.none := ⟨.non, rfl, fun _ _ => rfl⟩
theorem KV1.bl {b : Bool} : KV1 K (.bl b) (Value.bool b) := ⟨.bl b, rfl, fun _ _ => rfl⟩
theorem KV1.int {i : Int} {t : Tok} : KV1 K (.int i) (Value.int i t) := ⟨.int i, ⟨t, rfl⟩, fun _ _ => rfl⟩
theorem KV1.str {l : List Nat} {s : String} {t : Tok} (e : Str.ofString s = ⟨l.toArray⟩) : KV1 K (.str l) (Value.str (Str.ofString s) t) := ⟨.str ⟨l.toArray⟩, ⟨t, by rw [e]⟩, fun _ _ => rfl⟩
theorem KVs.nil : KVs K [] [] := rfl
theorem KVs.cons {p : PV} {ps : List PV} {v : Value} {vs : List Value} (h : KV1 K p v) (r : KVs K ps vs) : KVs K (p :: ps) (v :: vs) := ⟨v, vs, rfl, h, r⟩
theorem TupIn.of {its : Array Value} {n : Nat} {dd : Option Addr} {sl : Array (Option Value)} {ps : List PV} (hl : K.lookup a = some ⟨.type "tuple", dd, .seq its n, sl⟩) (hn : its.toList.length ≤ SZ) (hv : KVs K ps its.toList) : TupIn K a ps := ⟨_, its.toList, n, hl, rfl, by simp, hn, hv⟩
end
theorem def_okF {P : Program} {w : World} {K : PySem.W.Frag} {mg : Str → Option Value} {base : Heap} {x qual : Str} {st : Stmt} {f : Addr} {fd : FuncData} (N ps : List Str) {k kk nn : Nat} (m : Rho → M Fl) {g : List PV → M PV} (hg : g = runB m kk) (hN : N.length = kk) (hn : ps.length = nn) (F : Fun K x qual st f fd) (S : FnScope N ps (defScope st))
    (hb : ∀ (cdv : Value) (A : Around) (outer : List Env) (s : Shared) (H : Hp) (E : XK), Room k (A.deeper (PyProof.Rows.envOfC qual (defScope st) s.heap.objs.size f cdv)) →
      MSs (cxOf (L2.CX P w) P w K mg base N qual (defScope st) f cdv A outer s H E) (fun c d _ H => E c d H) (defBody st) m) :
    FnOk P w K mg base (L2.CX P w) (k + 1) f fd ps (spM ⟨w, K⟩ g nn) := by
  subst hg hN hn
  exact def_ok F S hb
end MP

set_option maxRecDepth 100000
set_option maxHeartbeats 1000000
namespace MP
open PySem L2
def strsOf : List PV → Option (List (List Nat))
  | [] => some []
  | .str z :: r => (strsOf r).map (z :: ·)
  | _ :: _ => none
theorem strsOf_at {K : PySem.W.Frag} {H : Hp} {μ : Mu} : ∀ {ps : List PV} {vs : List V} {zs : List (List Nat)}, VRs K H μ ps vs → strsOf ps = some zs → vs = (zs.map SX.S).map V.str
  | [], vs, zs, r, h => by cases h; exact r
  | p :: ps, vs, zs, r, h => by
    obtain ⟨v, t, rfl, r1, r2⟩ := (show ∃ v t, vs = v :: t ∧ VR K H μ p v ∧ VRs K H μ ps t from r)
    cases p with
    | str b =>
      unfold strsOf at h
      cases q : strsOf ps with
      | none => rw [q] at h; cases h
      | some cs =>
        rw [q] at h
        cases h
        cases (show v = V.str ⟨b.toArray⟩ from r1)
        rw [strsOf_at r2 q]
        rfl
    | _ => cases h
def joinM (o : PV) (xs : List PV) : M PV := fun st => match o with
  | .str a => match xs with
    | [x] => match seqOf x st with
      | some ys => match strsOf ys with
        | some zs => if (zs.map (·.length)).sum + zs.length * a.length ≤ SZ then .ok (.str (TL.joinL a zs)) st else .bad
        | none => .bad
      | none => .bad
    | _ => .bad
  | _ => .bad
theorem S_len (l : List Nat) : (SX.S l).length = l.length := by show l.toArray.size = _; simp
theorem t_join {K : KW} : TMe K (fun x xs H Q => ∃ a p, ∃ ys : List Str, x = .str a ∧ xs = [.ref p] ∧ (SqL K H p (ys.map V.str) ∨ SqT K H p (ys.map V.str)) ∧
    (ys.map (·.length)).sum + ys.length * a.length ≤ 16777216 ∧ Q (.str (Txt.join a ys)) H) joinM := by
  intro μ st H o xs u us E Q sr ro rs h
  unfold joinM at h
  cases o with
  | str a =>
    cases (show u = V.str ⟨a.toArray⟩ from ro)
    cases xs with
    | nil => exact h.elim
    | cons x t =>
      cases t with
      | cons y t => exact h.elim
      | nil =>
        dsimp only at h
        obtain ⟨w, rfl, rx⟩ := one_of rs
        cases q : seqOf x st with
        | none => rw [q] at h; exact h.elim
        | some ys =>
          rw [q] at h
          dsimp only at h
          cases q2 : strsOf ys with
          | none => rw [q2] at h; exact h.elim
          | some zs =>
            rw [q2] at h
            dsimp only at h
            by_cases hz : (zs.map (·.length)).sum + zs.length * a.length ≤ SZ
            · rw [if_pos hz] at h
              obtain ⟨p, vs, rfl, hq, r⟩ := seqOf_at sr rx q
              have e := strsOf_at r q2
              subst e
              refine ⟨_, p, zs.map SX.S, rfl, rfl, hq, ?_, ?_⟩
              · rw [SX.lens, List.length_map]
                have e2 : (⟨a.toArray⟩ : Str).length = a.length := S_len a
                rw [e2]
                exact hz
              · have e3 : Txt.join (⟨a.toArray⟩ : Str) (zs.map SX.S) = SX.S (TL.joinL a zs) := SX.join_S a zs
                rw [e3]
                exact post_same h sr rfl
            · rw [if_neg hz] at h; exact h.elim
  | _ => exact h.elim
def splitM (o : PV) (xs : List PV) : M PV := fun st => match o with
  | .str a => match xs with
    | [.str b] => if (b.all (· < 256)) = true ∧ b ≠ [] ∧ a.length + 2 ≤ SZ then .ok (.lst ((TL.spl b 0 [] a).map .str)) st else .bad
    | _ => .bad
  | _ => .bad
theorem VRs.strs {K : PySem.W.Frag} {H : Hp} {μ : Mu} : ∀ zs : List (List Nat), VRs K H μ (zs.map .str) ((zs.map SX.S).map V.str)
  | [] => rfl
  | z :: zs => VRs.cons rfl (VRs.strs zs)
theorem t_split {K : KW} : TMe K (fun x xs H Q => ∃ a b, x = .str a ∧ xs = [.str b] ∧ (b.length == 0) = false ∧ a.length + 2 ≤ sizeLine ∧ rNewStrs (Txt.split a b) H Q) splitM := by
  intro μ st H o xs u us E Q sr ro rs h
  unfold splitM at h
  cases o with
  | str a =>
    cases (show u = V.str ⟨a.toArray⟩ from ro)
    cases xs with
    | nil => exact h.elim
    | cons x t =>
      cases t with
      | cons y t => cases x <;> exact h.elim
      | nil =>
        obtain ⟨w, rfl, rx⟩ := one_of rs
        cases x with
        | str b =>
          cases (show w = V.str ⟨b.toArray⟩ from rx)
          dsimp only at h
          by_cases hz : (b.all (· < 256)) = true ∧ b ≠ [] ∧ a.length + 2 ≤ SZ
          · rw [if_pos hz] at h
            refine ⟨_, _, rfl, rfl, ?_, ?_, fun p hp => ?_⟩
            · show (b.toArray.size == 0) = false
              rw [List.size_toArray]
              cases b with
              | nil => exact absurd rfl hz.2.1
              | cons c r => rfl
            · show a.toArray.size + 2 ≤ sizeLine
              rw [List.size_toArray, sz_eq]
              exact hz.2.2
            · have e3 : Txt.split (⟨a.toArray⟩ : Str) ⟨b.toArray⟩ = (TL.spl b 0 [] a).map SX.S := SX.split_S hz.2.1 hz.1
              rw [e3]
              exact post_lst sr (VRs.strs _) hp h
          · rw [if_neg hz] at h; exact h.elim
        | _ => exact h.elim
  | _ => exact h.elim
def insertM (o : PV) (xs : List PV) : M PV := fun st => match lstCell o st with
  | some (n, ys) => match xs with
    | [.int i, x] => if ys.length < SZ ∧ 0 ≤ i ∧ i < 4611686018427387904 then .ok .non (st.set n (.lst (ys.take i.toNat ++ [x] ++ ys.drop i.toNat))) else .bad
    | _ => .bad
  | none => .bad
theorem t_insert {K : KW} : TMe K (fun x vs H Q => ∃ (l : Addr) (xs : List V) (i : Int) (y : V), x = .ref l ∧ vs = [.int i, y] ∧ H l = some (.lst xs) ∧ xs.length < sizeLine ∧ 0 ≤ i ∧ i < 2 ^ 63 ∧
    Q .non (upd H l (.lst (xs.take i.toNat ++ [y] ++ xs.drop i.toNat)))) insertM := by
  intro μ st H o xs u us E Q sr ro rs h
  unfold insertM at h
  cases q : lstCell o st with
  | none => rw [q] at h; exact h.elim
  | some p =>
    obtain ⟨n, ys⟩ := p
    rw [q] at h
    dsimp only at h
    split at h
    · rename_i i x
      by_cases hz : ys.length < SZ ∧ 0 ≤ i ∧ i < 4611686018427387904
      · rw [if_pos hz] at h
        obtain ⟨a, vs, rfl, ha, h1, h2⟩ := lstCell_at sr ro q
        obtain ⟨v, w, rfl, rv, rw'⟩ := two_of rs
        cases (show v = V.int i from rv)
        refine ⟨a, vs, i, w, rfl, rfl, h1, by rw [← VRs.length h2, sz_eq]; exact hz.1, hz.2.1, by omega, ?_⟩
        exact h μ _ .non (gr_put ha h1 rfl) (sr.put ha ⟨_, upd_same, VRs.monov (gv_put ha) _ _ (VRs.append (VRs.append (VRs.take _ h2) (VRs.cons rw' VRs.nil)) (VRs.drop _ h2))⟩) rfl
      · rw [if_neg hz] at h; exact h.elim
    · exact h.elim
section
variable {X : Cx} {W : WX} {o e e2 : Expr} {apos cpos : Pos} {mo : Rho → M PV} {ma : Rho → M (List PV)}
theorem me_join (ho : ME X W o mo) (ha : MA X W [e] ma)
    (hbase : attributeBase o "join" X.env (eval o X.env) = eval o X.env := by kernel_rfl)
    (hfew : ((backTo cpos (starEach [e] X.env)).all (fun x => !x.1) && (backToKw cpos (keywordEach [] X.env)).all (fun x => x.1.isSome)
      && decide ([e].length + ([] : List Keyword).length + (if ([] : List Keyword).isEmpty then 0 else 1) < 30)) = true := by kernel_rfl)
    (hline : (apos.endLine == cpos.line) = true := by kernel_rfl) (hs : starEach [e] X.env = (false, eval e X.env) :: starEach [] X.env := by kernel_rfl) :
    ME X W (.Call (.Attribute o "join" apos) [e] [] cpos) (eMeth "str" joinM mo ma) :=
  me_meth PySem.F.plainAttrs_str PySem.F.slot_str_join PySem.F.type_str_join mt_join t_join ho ha hbase hfew hline hs rfl
theorem me_split (ho : ME X W o mo) (ha : MA X W [e] ma)
    (hbase : attributeBase o "split" X.env (eval o X.env) = eval o X.env := by kernel_rfl)
    (hfew : ((backTo cpos (starEach [e] X.env)).all (fun x => !x.1) && (backToKw cpos (keywordEach [] X.env)).all (fun x => x.1.isSome)
      && decide ([e].length + ([] : List Keyword).length + (if ([] : List Keyword).isEmpty then 0 else 1) < 30)) = true := by kernel_rfl)
    (hline : (apos.endLine == cpos.line) = true := by kernel_rfl) (hs : starEach [e] X.env = (false, eval e X.env) :: starEach [] X.env := by kernel_rfl) :
    ME X W (.Call (.Attribute o "split" apos) [e] [] cpos) (eMeth "str" splitM mo ma) :=
  me_meth PySem.F.plainAttrs_str PySem.F.slot_str_split PySem.F.type_str_split mt_split t_split ho ha hbase hfew hline hs rfl
theorem me_insert (ho : ME X W o mo) (ha : MA X W [e, e2] ma)
    (hbase : attributeBase o "insert" X.env (eval o X.env) = eval o X.env := by kernel_rfl)
    (hfew : ((backTo cpos (starEach [e, e2] X.env)).all (fun x => !x.1) && (backToKw cpos (keywordEach [] X.env)).all (fun x => x.1.isSome)
      && decide ([e, e2].length + ([] : List Keyword).length + (if ([] : List Keyword).isEmpty then 0 else 1) < 30)) = true := by kernel_rfl)
    (hline : (apos.endLine == cpos.line) = true := by kernel_rfl) (hs : starEach [e, e2] X.env = (false, eval e X.env) :: starEach [e2] X.env := by kernel_rfl) (hplain : (backTo cpos (starEach [e2] X.env)).any (·.1) = false := by kernel_rfl) :
    ME X W (.Call (.Attribute o "insert" apos) [e, e2] [] cpos) (eMeth "list" insertM mo ma) :=
  me_meth PySem.F.plainAttrs_list PySem.F.slot_list_insert PySem.F.type_list_insert mt_insert t_insert ho ha hbase hfew hline hs hplain
end
end MP

set_option maxRecDepth 100000
set_option maxHeartbeats 1000000
namespace MP
open PySem L2 PySem.Spec PyProof.Rows
def inTab (n : Bool) (tab : List (List Nat × PV)) (x : PV) : M PV := match x with
  | .str z => M.ret (.bl (ng n (lookT tab z).isSome))
  | _ => M.fail
def ixTab (tab : List (List Nat × PV)) (x : PV) : M PV := match x with
  | .str z => match lookT tab z with
    | some p => M.ret p
    | none => M.fail
  | _ => M.fail
theorem TabIn.isSome {w : World} {K : PySem.W.Frag} {tab : List (List Nat × PV)} {es : List DictEntry} (rows : RowsT K tab es) (z : List Nat) : (PySem.findBy Value.isStrOf es.toArray (⟨z.toArray⟩ : Str)).isSome = (lookT tab z).isSome := by
  have q := RowsT.find (z := z) rows
  unfold PySem.findBy
  rw [List.find?_toArray]
  cases hq : lookT tab z with
  | none => rw [q.1 hq]; rfl
  | some p => obtain ⟨e, e1, _⟩ := q.2 p hq; rw [e1]; rfl
section
variable {X : Cx} {W : WX} {e : Expr} {pos : Pos} {me : Rho → M PV} {x : Str} {tab : List (List Nat × PV)} {p : Pos}
theorem op_inTab {n : Bool} {op : CmpOp} (hop : op = if n = true then .NotIn else .In) {a : Addr} (h : TabIn X.w X.K a tab) : OpR X (compareOp op) (fun u v H Q => ∃ z, u = .str z ∧ v = .ref a ∧ Q (.bl (ng n (lookT tab z.cps.toList).isSome)) H) := by
  intro pins s σ H u v u' v' Q I ru rv q
  obtain ⟨es, k, hl, hk, low, rows⟩ := h
  obtain ⟨z, rfl, rfl, q⟩ := q
  obtain ⟨t, rfl⟩ := ru
  cases rv
  have mp := PySem.W.mapOf_K (prog := X.prog) (w := X.w) I.kIn hl (by simpa using hk)
  have e := TabIn.isSome (w := X.w) rows z.cps.toList
  rw [show (⟨z.cps.toList.toArray⟩ : Str) = z by simp] at e
  cases n with
  | false =>
    rw [if_neg Bool.false_ne_true] at hop
    subst hop
    refine wpAny_in_of (strKind_is X.prog X.w z t) low mp ?_
    rw [e]
    exact ⟨.bl (lookT tab z.cps.toList).isSome, H, I.tok _, rfl, q⟩
  | true =>
    rw [if_pos rfl] at hop
    subst hop
    refine wpAny_notIn_of (strKind_is X.prog X.w z t) low mp ?_
    rw [e]
    exact ⟨.bl (!(lookT tab z.cps.toList).isSome), H, I.tok _, rfl, q⟩
theorem inTab_imp {n : Bool} {a : Addr} : ∀ σ H Q, tM (kw X) W (eUn (inTab n tab) me) σ H Q → tOp (fun u v H Q => ∃ z, u = .str z ∧ v = .ref a ∧ Q (.bl (ng n (lookT tab z.cps.toList).isSome)) H) (tM (kw X) W me) (tC (.ref a)) σ H Q := fun σ H Q ⟨μ, st, ρ, er, sr, h⟩ =>
  ⟨μ, st, ρ, er, sr, (PostG.bind h).mono fun u H1 ⟨μ1, st1, y, g1, s1, ry, h1⟩ => by
    cases y with
    | str z =>
      cases (show u = V.str ⟨z.toArray⟩ from ry)
      exact ⟨⟨z.toArray⟩, rfl, rfl, by simpa using post_same (v := V.bl (ng n (lookT tab z).isSome)) h1 s1 rfl⟩
    | _ => exact h1.elim⟩
theorem me_inTabG {n : Bool} {op : CmpOp} (hop : op = if n = true then .NotIn else .In) (hm : TabAt X.w X.K X.mg x tab) (he : ME X W e me) (hg : Gl X x) (hd : (x == ("__debug__" : Str)) = false) (hb : behindInMarks op (.Name x p) = false) : ME X W (.Compare e [op] [.Name x p] pos) (eUn (inTab n tab) me) := by
  obtain ⟨a, h1, h2⟩ := hm
  exact PE.imp (pe_cmpR (op_inTab hop h2) he (pe_glob (v := .ref a) hg h1 rfl hd) hb) inTab_imp
theorem mt_inTabG {n : Bool} {op : CmpOp} (hop : op = if n = true then .NotIn else .In) (hm : TabAt X.w X.K X.mg x tab) (he : ME X W e me) (hg : Gl X x) (hd : (x == ("__debug__" : Str)) = false) (hb : behindInMarks op (.Name x p) = false) : MT X W (.Compare e [op] [.Name x p] pos) (eB (eUn (inTab n tab) me)) := by
  obtain ⟨a, h1, h2⟩ := hm
  exact PT.imp (pt_cmpR (op_inTab hop h2) he (pe_glob (v := .ref a) hg h1 rfl hd) hb) fun σ H Q h => inTab_imp σ H _ (test_imp (X := X) (W := W) (m := eUn (inTab n tab) me) σ H Q h)
theorem me_inTab (hm : TabAt X.w X.K X.mg x tab) (he : ME X W e me) (hg : Gl X x := by exact gl_of (by kernel_rfl)) (hd : (x == ("__debug__" : Str)) = false := by kernel_rfl) : ME X W (.Compare e [.In] [.Name x p] pos) (eUn (inTab false tab) me) := me_inTabG rfl hm he hg hd rfl
theorem me_notinTab (hm : TabAt X.w X.K X.mg x tab) (he : ME X W e me) (hg : Gl X x := by exact gl_of (by kernel_rfl)) (hd : (x == ("__debug__" : Str)) = false := by kernel_rfl) : ME X W (.Compare e [.NotIn] [.Name x p] pos) (eUn (inTab true tab) me) := me_inTabG rfl hm he hg hd rfl
theorem mt_inTab (hm : TabAt X.w X.K X.mg x tab) (he : ME X W e me) (hg : Gl X x := by exact gl_of (by kernel_rfl)) (hd : (x == ("__debug__" : Str)) = false := by kernel_rfl) : MT X W (.Compare e [.In] [.Name x p] pos) (eB (eUn (inTab false tab) me)) := mt_inTabG rfl hm he hg hd rfl
theorem mt_notinTab (hm : TabAt X.w X.K X.mg x tab) (he : ME X W e me) (hg : Gl X x := by exact gl_of (by kernel_rfl)) (hd : (x == ("__debug__" : Str)) = false := by kernel_rfl) : MT X W (.Compare e [.NotIn] [.Name x p] pos) (eB (eUn (inTab true tab) me)) := mt_inTabG rfl hm he hg hd rfl
theorem ix_tab {a : Addr} (h : TabIn X.w X.K a tab) : IxR X (fun u v H Q => ∃ z p, u = .ref a ∧ v = .str ⟨z.toArray⟩ ∧ lookT tab z = some p ∧ ∀ w, (∀ μ, VR X.K H μ p w) → Q w H) := by
  intro value slice pins s σ H u v u' v' Q I ru rv q hs
  obtain ⟨es, k, hl, hk, low, rows⟩ := h
  obtain ⟨z, p, rfl, rfl, hz, q⟩ := q
  cases (show u' = Value.ref a from ru)
  obtain ⟨t, rfl⟩ := rv
  have mp := PySem.W.mapOf_K (prog := X.prog) (w := X.w) I.kIn hl (by simpa using hk)
  obtain ⟨en, e1, w, rw', hv⟩ := (RowsT.find (z := z) rows).2 p hz
  have e2 : PySem.findBy Value.isStrOf es.toArray (⟨z.toArray⟩ : Str) = some en.val := by
    unfold PySem.findBy
    rw [List.find?_toArray, e1]
    rfl
  exact tail_any mp.typeIs slot_dict_getitem.lookup (wpAny_getItem_of (strKind_is X.prog X.w _ t) mp e2 ⟨w, H, I.tok _, rw', q w fun μ => hv H μ⟩) hs
theorem me_ixTab (hm : TabAt X.w X.K X.mg x tab) (he : ME X W e me) (hs : PlainIx e) (hg : Gl X x := by exact gl_of (by kernel_rfl)) (hd : (x == ("__debug__" : Str)) = false := by kernel_rfl) : ME X W (.Subscript (.Name x p) e pos) (eUn (ixTab tab) me) := by
  obtain ⟨a, h1, h2⟩ := hm
  refine PE.imp (pe_ix (ix_tab h2) (pe_glob (v := .ref a) hg h1 rfl hd) he hs) fun σ H Q ⟨μ, st, ρ, er, sr, h⟩ => ?_
  refine ⟨μ, st, ρ, er, sr, (PostG.bind h).mono fun u H1 ⟨μ1, st1, y, g1, s1, ry, h1⟩ => ?_⟩
  cases y with
  | str z =>
    unfold ixTab at h1
    dsimp only at h1
    cases hq : lookT tab z with
    | none => rw [hq] at h1; exact h1.elim
    | some p =>
      rw [hq] at h1
      exact ⟨z, p, rfl, ry, hq, fun w hw => post_same h1 s1 (hw μ1)⟩
  | _ => exact h1.elim
end
def intS (i : Int) : List Nat := (PySem.Str.ofString (toString i)).cps.toList
def strM (xs : List PV) : M PV := match xs with
  | [.int i] => if i.natAbs.log2 < 1920 then M.ret (.str (intS i)) else M.fail
  | [.str a] => M.ret (.str a)
  | _ => M.fail
theorem t_strM {K : KW} : TL K (fun xs H Q => (∃ i, xs = [.int i] ∧ i.natAbs.log2 < 1920 ∧ Q (.str (toString i)) H) ∨ ∃ a, xs = [.str a] ∧ Q (.str a) H) strM := by
  intro μ st H xs us E Q sr r h
  cases xs with
  | nil => exact h.elim
  | cons x t =>
    cases t with
    | cons y t => cases x <;> exact h.elim
    | nil =>
      obtain ⟨u, rfl, rx⟩ := one_of r
      cases x with
      | int i =>
        cases (show u = V.int i from rx)
        unfold strM at h
        dsimp only at h
        by_cases hz : i.natAbs.log2 < 1920
        · rw [if_pos hz] at h
          refine .inl ⟨i, rfl, hz, ?_⟩
          have e : (⟨(intS i).toArray⟩ : Str) = PySem.Str.ofString (toString i) := by unfold intS; simp
          have q := post_same (v := V.str ⟨(intS i).toArray⟩) h sr rfl
          rw [e] at q
          exact q
        · rw [if_neg hz] at h; exact h.elim
      | str a => cases (show u = V.str ⟨a.toArray⟩ from rx); exact .inr ⟨_, rfl, post_same h sr rfl⟩
      | _ => exact h.elim
section
variable {X : Cx}
theorem CallR.or {f : Value} {r r' : List V → Hp → VK → Prop} (h : CallR X f r) (h' : CallR X f r') : CallR X f (fun xs H Q => r xs H Q ∨ r' xs H Q) := by
  intro pins s σ H xs us Q I rs q
  rcases q with q | q
  · exact h pins s σ H xs us Q I rs q
  · exact h' pins s σ H xs us Q I rs q
variable {W : WX} {e : Expr} {p pos : Pos} {ma : Rho → M (List PV)}
theorem me_strOf (hg : Gl X "str") (hm : X.mg "str" = none) (ha : MA X W [e] ma) (he : starEach [e] X.env = (false, eval e X.env) :: starEach [] X.env := by kernel_rfl) : ME X W (.Call (.Name "str" p) [e] [] pos) (eCall strM ma) :=
  me_callTy (CallR.or call_str_int SkE.call_str_str) t_strM hg hm (by kernel_rfl) ha (he := he) (hpl := rfl)
end
def intsOf : List PV → Option (List Int)
  | [] => some []
  | .int i :: r => (intsOf r).map (i :: ·)
  | _ :: _ => none
theorem intsOf_at {K : PySem.W.Frag} {H : Hp} {μ : Mu} : ∀ {ps : List PV} {vs : List V} {ns : List Int}, VRs K H μ ps vs → intsOf ps = some ns → vs = ns.map V.int
  | [], vs, ns, r, h => by cases h; exact r
  | p :: ps, vs, ns, r, h => by
    obtain ⟨v, t, rfl, r1, r2⟩ := (show ∃ v t, vs = v :: t ∧ VR K H μ p v ∧ VRs K H μ ps t from r)
    cases p with
    | int b =>
      unfold intsOf at h
      cases q : intsOf ps with
      | none => rw [q] at h; cases h
      | some cs =>
        rw [q] at h
        cases h
        cases (show v = V.int b from r1)
        rw [intsOf_at r2 q]
        rfl
    | _ => cases h
def lstOf (p : PV) (st : Sto) : Option (List PV) := match p with
  | .frz xs => some xs
  | p => listOf p st
theorem lstOf_at {K : KW} {H : Hp} {μ : Mu} {st : Sto} {x : PV} {v : V} {ps : List PV} (sr : SR K μ st H) (r : VR K H μ x v) (h : lstOf x st = some ps) : ∃ a vs, v = .ref a ∧ SqL K H a vs ∧ VRs K H μ ps vs := by
  have g : listOf x st = some ps → ∃ a vs, v = .ref a ∧ SqL K H a vs ∧ VRs K H μ ps vs := fun h => by
    obtain ⟨a, vs, e, l, rs⟩ := listOf_at sr r h
    exact ⟨a, vs, e, SqL.of l, rs⟩
  cases x with
  | frz xs =>
    cases h
    obtain ⟨a, vs, e, l, rs⟩ := frz_at r
    exact ⟨a, vs, e, l.sq, rs⟩
  | _ => exact g h
def sumM (xs : List PV) : M PV := fun st => match xs with
  | [x] => match lstOf x st with
    | some ys => match intsOf ys with
      | some ns => .ok (.int ns.sum) st
      | none => .bad
    | none => .bad
  | _ => .bad
theorem t_sumM {K : KW} : TL K (rSum K) sumM := by
  intro μ st H xs us E Q sr r h
  unfold sumM at h
  cases xs with
  | nil => exact h.elim
  | cons x t =>
    cases t with
    | cons y t => exact h.elim
    | nil =>
      obtain ⟨u, rfl, rx⟩ := one_of r
      dsimp only at h
      cases q : lstOf x st with
      | none => rw [q] at h; exact h.elim
      | some ys =>
        rw [q] at h
        dsimp only at h
        cases q2 : intsOf ys with
        | none => rw [q2] at h; exact h.elim
        | some ns =>
          rw [q2] at h
          obtain ⟨a, vs, rfl, l, rs⟩ := lstOf_at sr rx q
          have e := intsOf_at rs q2
          subst e
          exact ⟨a, ns, rfl, l, post_same h sr rfl⟩
section
variable {X : Cx} {W : WX} {e : Expr} {p pos : Pos} {ma : Rho → M (List PV)}
theorem me_sum (hc : X.calm = true) (hg : Gl X "sum") (hm : X.mg "sum" = none) (ha : MA X W [e] ma) (he : starEach [e] X.env = (false, eval e X.env) :: starEach [] X.env := by kernel_rfl) : ME X W (.Call (.Name "sum" p) [e] [] pos) (eCall sumM ma) :=
  me_callB (cr_sum hc) t_sumM hg hm (by kernel_rfl) ha (he := he) (hpl := rfl)
end
def indexM (o : PV) (xs : List PV) : M PV := match o, xs with
  | .str a, [.str b] => match Builtin.Str.occurrences ⟨a.toArray⟩ ⟨b.toArray⟩ 0 a.length 1 with
    | i :: _ => M.ret (.int (i : Nat))
    | [] => M.fail
  | _, _ => M.fail
theorem t_index {K : KW} : TMe K (fun x xs H Q => ∃ a b i rest, x = .str a ∧ xs = [.str b] ∧ Builtin.Str.occurrences a b 0 a.length 1 = i :: rest ∧ Q (.int (i : Nat)) H) indexM := by
  intro μ st H o xs u us E Q sr ro rs h
  unfold indexM at h
  split at h
  · rename_i a b
    obtain ⟨w, rfl, rx⟩ := one_of rs
    cases (show u = V.str ⟨a.toArray⟩ from ro)
    cases (show w = V.str ⟨b.toArray⟩ from rx)
    cases q : Builtin.Str.occurrences ⟨a.toArray⟩ ⟨b.toArray⟩ 0 a.length 1 with
    | nil => rw [q] at h; exact h.elim
    | cons i r =>
      rw [q] at h
      exact ⟨_, _, i, r, rfl, rfl, by rw [str_len]; exact q, post_same h sr rfl⟩
  · exact h.elim
section
variable {X : Cx} {W : WX} {o e : Expr} {apos cpos : Pos} {mo : Rho → M PV} {ma : Rho → M (List PV)}
theorem me_indexS (ho : ME X W o mo) (ha : MA X W [e] ma)
    (hbase : attributeBase o "index" X.env (eval o X.env) = eval o X.env := by kernel_rfl)
    (hfew : ((backTo cpos (starEach [e] X.env)).all (fun x => !x.1) && (backToKw cpos (keywordEach [] X.env)).all (fun x => x.1.isSome)
      && decide ([e].length + ([] : List Keyword).length + (if ([] : List Keyword).isEmpty then 0 else 1) < 30)) = true := by kernel_rfl)
    (hline : (apos.endLine == cpos.line) = true := by kernel_rfl) (hs : starEach [e] X.env = (false, eval e X.env) :: starEach [] X.env := by kernel_rfl) :
    ME X W (.Call (.Attribute o "index" apos) [e] [] cpos) (eMeth "str" indexM mo ma) :=
  me_meth PySem.F.plainAttrs_str PySem.F.slot_str_index PySem.F.type_str_index mt_sindex t_index ho ha hbase hfew hline hs rfl
end
end MP

set_option maxRecDepth 100000
set_option maxHeartbeats 1000000
namespace MP
open PySem L2 PySem.Spec PyProof.Rows
inductive Sk where
  | l (a : Addr)
  | t (a : Addr)
  | s (x : Str)
def Sk.val : Sk → V
  | .l a => .ref a
  | .t a => .ref a
  | .s x => .str x
def Sk.ty : Sk → String
  | .l _ => "list_iterator"
  | .t _ => "tuple_iterator"
  | .s x => strIterType x
def Sk.at (K : PySem.W.Frag) (H : Hp) : Sk → List V → Prop
  | .l a, xs => SqL K H a xs
  | .t a, xs => SqT K H a xs
  | .s x, xs => xs = x.cps.toList.map fun c => V.str ⟨#[c]⟩
def ItS (T : String) (u : Value) (it : Addr) (i : Nat) (h : Heap) : Prop := ∃ o, h.get? it = some o ∧ o.cls = .type T ∧ o.data = .fields #[u, .int i 0]
theorem ItS.at {T : String} {u : Value} {it : Addr} {i : Nat} {h h' : Heap} (st : ItS T u it i h) (k : ∀ o, h.get? it = some o → h'.get? it = some o) : ItS T u it i h' :=
  let ⟨o, e, r⟩ := st
  ⟨o, k o e, r⟩
def IterOf (u : Value) (T : String) (h : Heap) : Prop :=
  (∃ l items, u = .ref l ∧ T = "list_iterator" ∧ h.IsList l items) ∨ (∃ l items, u = .ref l ∧ T = "tuple_iterator" ∧ h.IsTuple l items) ∨ ∃ x t, u = .str x t ∧ T = strIterType x
theorem IterOf.push {u : Value} {T : String} {h : Heap} (k : IterOf u T h) (o : Obj) : IterOf u T (h.push o) := by
  rcases k with ⟨l, is, e, e', k⟩ | ⟨l, is, e, e', k⟩ | k
  · exact .inl ⟨l, is, e, e', k.push _⟩
  · exact .inr (.inl ⟨l, is, e, e', k.push _⟩)
  · exact .inr (.inr k)
section
variable {prog : Program} {w : World} {A : Around} {E : Value → Shared → Prop} {s : Shared}
theorem iter_of {u : Value} {T : String} {Q : Value → Shared → Prop} (k : IterOf u T s.heap) (hQ : Q (.ref s.heap.objs.size) { s with heap := s.heap.push { cls := .type T, data := .fields #[u, .int 0 0] } }) :
    wpAny (model prog w) A (pyIter u) Q E s := by
  rcases k with ⟨l, is, e, e', k⟩ | ⟨l, is, e, e', k⟩ | ⟨x, t, e, e'⟩
  · subst e e'; exact wpAny_pyIter_list k hQ
  · subst e e'; exact wpAny_pyIter_tuple k hQ
  · subst e e'; exact wpAny_pyIter_strU hQ
end
abbrev zG1 (h : Heap) (T1 : String) (u1 : Value) : Heap := h.push { cls := .type T1, data := .fields #[u1, .int 0 0] }
abbrev zG2 (h : Heap) (T1 T2 : String) (u1 u2 : Value) : Heap := (zG1 h T1 u1).push { cls := .type T2, data := .fields #[u2, .int 0 0] }
abbrev zG3 (h : Heap) (T1 T2 : String) (u1 u2 : Value) : Heap := (zG2 h T1 T2 u1 u2).push { cls := .type "tuple", data := .seq #[.ref h.objs.size, .ref (zG1 h T1 u1).objs.size] }
abbrev zG4 (h : Heap) (T1 T2 : String) (u1 u2 : Value) : Heap := (zG3 h T1 T2 u1 u2).push { cls := .type "tuple", data := .seq #[.none, .none] }
abbrev zG5 (h : Heap) (T1 T2 : String) (u1 u2 : Value) : Heap := (zG4 h T1 T2 u1 u2).push { cls := .type "zip", data := .fields #[.none, .bool false, .bool false, .ref (zG2 h T1 T2 u1 u2).objs.size, .ref (zG3 h T1 T2 u1 u2).objs.size] }
theorem meets_zipG_new (T1 T2 : String) (u1 u2 : Value) :
    Meets (Builtin.«zip.__new__» ⟨[.type "zip", u1, u2], []⟩) (fun _ R s => IterOf u1 T1 s.heap ∧ IterOf u2 T2 s.heap ∧
      R (.ok (.ret (.ref (zG4 s.heap T1 T2 u1 u2).objs.size))) { s with heap := zG5 s.heap T1 T2 u1 u2 }) :=
  .of_wp fun prog w A R s h => by
    obtain ⟨hp, g, d, tk, os⟩ := s; obtain ⟨hl1, hl2, h⟩ := h
    have hsub := sub_zip
    have hL1 : IterOf u1 T1 (Shared.heap ⟨hp, g, d, tk, os⟩) := hl1
    have hL2 : IterOf u2 T2 (Shared.heap ⟨hp.push { cls := .type T1, data := .fields #[u1, .int 0 0] }, g, d, tk, os⟩) := hl2.push _
    wp_walk using iter_of hL1, iter_of hL2
    exact ⟨_, rfl, h⟩
section
variable {prog : Program} {w : World} {A : Around} {E : Value → Shared → Prop} {s : Shared}
theorem call_zipG {T1 T2 : String} {u1 u2 : Value} {Q : Value → Shared → Prop} (hl1 : IterOf u1 T1 s.heap) (hl2 : IterOf u2 T2 s.heap)
    (h : ∀ h', IsZip h' (s.heap.objs.size + 4) (s.heap.objs.size + 2) (s.heap.objs.size + 3) .none → IsPair h' (s.heap.objs.size + 2) (.ref s.heap.objs.size) (.ref (s.heap.objs.size + 1)) →
      IsPair h' (s.heap.objs.size + 3) .none .none → ItS T1 u1 s.heap.objs.size 0 h' → ItS T2 u2 (s.heap.objs.size + 1) 0 h' → h'.objs.size = s.heap.objs.size + 5 →
      (∀ c o, s.heap.get? c = some o → h'.get? c = some o) → Q (.ref (s.heap.objs.size + 4)) { s with heap := h' }) :
    wpAny (model prog w) A (call (.type "zip") [u1, u2]) Q E s := by
  refine callType_new F.called_zip (by decide) (F.typeCall_zip_2 _ _) (F.newCall_zip_2 _ _) (fun obj => F.args_object_init_3 obj _ _) F.entry_zip_new
    (meets_zipG_new T1 T2 u1 u2) ⟨hl1, hl2, ?_⟩
  have z1 : (zG1 s.heap T1 u1).objs.size = s.heap.objs.size + 1 := Heap.size_push ..
  have z2 : (zG2 s.heap T1 T2 u1 u2).objs.size = s.heap.objs.size + 2 := by rw [Heap.size_push, z1]
  have z3 : (zG3 s.heap T1 T2 u1 u2).objs.size = s.heap.objs.size + 3 := by rw [Heap.size_push, z2]
  have z4 : (zG4 s.heap T1 T2 u1 u2).objs.size = s.heap.objs.size + 4 := by rw [Heap.size_push, z3]
  have z5 : (zG5 s.heap T1 T2 u1 u2).objs.size = s.heap.objs.size + 5 := by rw [Heap.size_push, z4]
  have g5 : (zG5 s.heap T1 T2 u1 u2).get? (zG4 s.heap T1 T2 u1 u2).objs.size = some _ := Heap.get?_push_size _ rfl
  have g4 : (zG5 s.heap T1 T2 u1 u2).get? (zG3 s.heap T1 T2 u1 u2).objs.size = some _ := Heap.get?_push_of_some _ (Heap.get?_push_size _ rfl)
  have g3 : (zG5 s.heap T1 T2 u1 u2).get? (zG2 s.heap T1 T2 u1 u2).objs.size = some _ := Heap.get?_push_of_some _ (Heap.get?_push_of_some _ (Heap.get?_push_size _ rfl))
  have g2 : (zG5 s.heap T1 T2 u1 u2).get? (zG1 s.heap T1 u1).objs.size = some _ := Heap.get?_push_of_some _ (Heap.get?_push_of_some _ (Heap.get?_push_of_some _ (Heap.get?_push_size _ rfl)))
  have g1 : (zG5 s.heap T1 T2 u1 u2).get? s.heap.objs.size = some _ := Heap.get?_push_of_some _ (Heap.get?_push_of_some _ (Heap.get?_push_of_some _ (Heap.get?_push_of_some _ (Heap.get?_push_size _ rfl))))
  show _ ∧ _
  rw [z2, z3, z4] at g5
  rw [z1, z2] at g3
  rw [z3] at g4
  rw [z1] at g2
  rw [z4]
  exact ⟨⟨_, g5, rfl⟩, h _ g5 g3 g4 ⟨_, g1, rfl, rfl⟩ ⟨_, g2, rfl, rfl⟩ z5 fun c o x =>
    Heap.get?_push_of_some _ (Heap.get?_push_of_some _ (Heap.get?_push_of_some _ (Heap.get?_push_of_some _ (Heap.get?_push_of_some _ x))))⟩
theorem draws_tuple (hh : A.handled = none) (it l : Addr) (hne : l ≠ it) (items : Array Value) :
    Draws prog w A it [it, l] items.size (fun i v => items[i]? = some v) (fun i h => h.IsTupleIter it l i ∧ h.IsTuple l items) where
  live := fun _ _ st => let ⟨o, ho, _⟩ := st.1; ⟨o, ho⟩
  frame := fun _ _ _ st hk => ⟨st.1.at fun o e => hk it (by simp) o e, let ⟨o, ho, r⟩ := st.2; ⟨o, hk l (by simp) o ho, r⟩⟩
  item := fun i s Q E hi st hQ => by
    refine RZ.nextOf_tuple_item st.1 st.2 (x := items[i]) (by simp [hi]) fun h' hit' hs' => ?_
    exact hQ _ h' s.toks (by simp [hi]) ⟨hit', let ⟨o, ho, r⟩ := st.2; ⟨o, hs'.extBut _ _ hne ho, r⟩⟩ hs'
  done := fun s Q E st hE => RZ.nextOf_tuple_end hh st.1 st.2 (by simp) hE
end
theorem vals_back : ∀ {xs : List V} {us : List Value} {i : Nat} {u : Value}, Vals xs us → us[i]? = some u → ∃ x, xs[i]? = some x ∧ RelV x u
  | [], _, i, u, .nil, e => by simp at e
  | x :: xs, _, 0, u, .cons r _, e => by simp at e; subst e; exact ⟨x, rfl, r⟩
  | x :: xs, _, i + 1, u, .cons _ r, e => by simpa using vals_back r (by simpa using e)
theorem fpc {c it a : Addr} (h : c = it ∨ c = a) : c = it ∨ Value.ref a = .ref c := h.imp_right fun e => by rw [e]
theorem draws_of {X : Cx} {A : Around} {pins : List (Addr × Obj)} {σ : L2.St} {H : Hp} {s : Shared} (hh : A.handled = none) (I : Inv X pins σ H s) {k : Sk} {xs : List V} (ha : k.at X.K H xs) {u : Value} (r : RelV k.val u) {it : Addr} {i : Nat}
    (hne : ∀ a, u = .ref a → a ≠ it) (st : ItS k.ty u it i s.heap) :
    ∃ (fp : List Addr) (P : Nat → Value → Prop) (St : Nat → Heap → Prop), Draws X.prog X.w A it fp xs.length P St ∧ St i s.heap ∧ it ∈ fp ∧ (∀ c, c ∈ fp → c = it ∨ u = .ref c) ∧ (∀ j h', St j h' → ItS k.ty u it j h') ∧ ∀ v, P i v → ∃ x, xs[i]? = some x ∧ RelV x v := by
  cases k with
  | l a =>
    cases r
    obtain ⟨its, rv, p, _⟩ := I.list (show SqL X.K H a xs from ha)
    have e : xs.length = its.toArray.size := by rw [rv.length]; simp
    rw [e]
    refine ⟨_, _, _, Draws.list hh it a (hne a rfl) its.toArray, ⟨st, p.isList⟩, by simp, fun c hc => fpc (by simpa using hc), fun j h' q => q.1, fun v hv => ?_⟩
    exact vals_back rv (by simpa using hv)
  | t a =>
    cases r
    obtain ⟨its, rv, p, _⟩ := I.tuple (show SqT X.K H a xs from ha)
    have e : xs.length = its.toArray.size := by rw [rv.length]; simp
    rw [e]
    refine ⟨_, _, _, draws_tuple hh it a (hne a rfl) its.toArray, ⟨st, p⟩, by simp, fun c hc => fpc (by simpa using hc), fun j h' q => q.1, fun v hv => ?_⟩
    exact vals_back rv (by simpa using hv)
  | s x =>
    obtain ⟨tk, r⟩ := (show ∃ t, u = Value.str x t from r)
    subst r
    have hx : xs = x.cps.toList.map fun c => V.str ⟨#[c]⟩ := ha
    have e : xs.length = x.cps.size := by rw [hx]; simp
    rw [e]
    have fin : ∀ v, (∃ c u, x.cps[i]? = some c ∧ v = Value.str ⟨#[c]⟩ u) → ∃ y, xs[i]? = some y ∧ RelV y v := by
      rintro v ⟨c, u, hc, rfl⟩
      exact ⟨.str ⟨#[c]⟩, by rw [hx]; simp [hc], ⟨u, rfl⟩⟩
    cases hA : x.cps.all (· < 128)
    · have et : strIterType x = "str_iterator" := by simp [strIterType, hA]
      have st' : ItS (strIterType x) _ it i s.heap := st
      simp only [Sk.ty]
      rw [et] at st' ⊢
      exact ⟨_, _, _, Draws.strWide hh it x _, st', by simp, fun c hc => by simpa using hc, fun j h' q => q, fin⟩
    · have et : strIterType x = "str_ascii_iterator" := by simp [strIterType, hA]
      have st' : ItS (strIterType x) _ it i s.heap := st
      simp only [Sk.ty]
      rw [et] at st' ⊢
      exact ⟨_, _, _, Draws.strAscii hh it x _, st', by simp, fun c hc => by simpa using hc, fun j h' q => q, fin⟩

def ItG (K : PySem.W.Frag) (k1 k2 : Sk) : It :=
  ⟨fun i H => ∃ (xs ys : List V) (x y : V), k1.at K H xs ∧ k2.at K H ys ∧ xs[i]? = some x ∧ ys[i]? = some y,
    fun i H v H' => ∃ T x y, v = .ref T ∧ H T = none ∧ H' = upd H T (.tup [x, y]) ∧ (∀ xs, k1.at K H xs → xs[i]? = some x) ∧ ∀ ys, k2.at K H ys → ys[i]? = some y,
    fun i H => ∃ xs ys : List V, k1.at K H xs ∧ k2.at K H ys ∧ i = min xs.length ys.length⟩
theorem at_inj {X : Cx} {pins : List (Addr × Obj)} {σ : L2.St} {H : Hp} {s : Shared} (I : Inv X pins σ H s) : ∀ {k : Sk} {xs ys : List V}, k.at X.K H xs → k.at X.K H ys → xs = ys
  | .l _, _, _, h, h' => I.list_inj h h'
  | .t _, _, _, h, h' => I.tuple_inj h h'
  | .s _, _, _, h, h' => h.trans h'.symm
theorem sep_of {B : Nat} {u1 u2 : Value} {fp1 fp2 : List Addr} (h1 : ∀ a, u1 = .ref a → a < B) (h2 : ∀ a, u2 = .ref a → a < B) (m1 : B ∈ fp1) (m2 : B + 1 ∈ fp2) (f1 : ∀ c, c ∈ fp1 → c = B ∨ u1 = .ref c) (f2 : ∀ c, c ∈ fp2 → c = B + 1 ∨ u2 = .ref c) :
    ZipSep2 (B + 4) (B + 2) (B + 3) B (B + 1) fp1 fp2 := by
  have q1 : ∀ c, c ∈ fp1 → c = B ∨ c < B := fun c hc => (f1 c hc).imp_right fun e => h1 c e
  have q2 : ∀ c, c ∈ fp2 → c = B + 1 ∨ c < B := fun c hc => (f2 c hc).imp_right fun e => h2 c e
  have ne : ∀ (a b : Nat), a ≠ b → ((a : Addr) ≠ b) := fun _ _ h => h
  refine ⟨ne _ _ (by omega), ne _ _ (by omega), ne _ _ (by omega), ne _ _ (by omega), m1, fun h => ?_, fun h => ?_, ne _ _ (by omega), m2, fun h => ?_, fun h => ?_, fun h => ?_, fun h => ?_⟩
  · rcases q1 _ h with z | z
    · exact absurd z (ne _ _ (by omega))
    · exact absurd (show (B + 4 : Nat) < B from z) (by omega)
  · rcases q1 _ h with z | z
    · exact absurd z (ne _ _ (by omega))
    · exact absurd (show (B + 3 : Nat) < B from z) (by omega)
  · rcases q2 _ h with z | z
    · exact absurd z (ne _ _ (by omega))
    · exact absurd (show (B + 4 : Nat) < B from z) (by omega)
  · rcases q2 _ h with z | z
    · exact absurd z (ne _ _ (by omega))
    · exact absurd (show (B + 3 : Nat) < B from z) (by omega)
  · rcases q2 _ h with z | z
    · exact absurd z (ne _ _ (by omega))
    · exact absurd (show (B : Nat) < B from z) (by omega)
  · rcases q1 _ h with z | z
    · exact absurd z (ne _ _ (by omega))
    · exact absurd (show (B + 1 : Nat) < B from z) (by omega)
theorem turn_zipG {P : Program} {w : World} {K : PySem.W.Frag} {elts : List Expr} {kk : Nat} {tpos : Pos} {k1 k2 : Sk} {u1 u2 : Value} {B : Nat} (r1 : RelV k1.val u1) (r2 : RelV k2.val u2) (h1 : ∀ a, u1 = .ref a → a < B) (h2 : ∀ a, u2 = .ref a → a < B) :
    Turn P w K (.Tuple elts kk tpos) (ItG K k1 k2) [B + 4, B + 2, B + 3, B, B + 1] (B + 4) (fun i h => IsZip h (B + 4) (B + 2) (B + 3) .none ∧ IsPair h (B + 2) (.ref B) (.ref (B + 1)) ∧ (∃ x y, IsPair h (B + 3) x y) ∧ ItS k1.ty u1 B i h ∧ ItS k2.ty u2 (B + 1) i h) where
  mem := by simp
  obj := fun i h st c hc => by
    obtain ⟨hz, hTI, ⟨x, y, hTO⟩, ⟨o1, e1, _, d1⟩, ⟨o2, e2, _, d2⟩⟩ := st
    have e' : c = B + 4 ∨ c = B + 2 ∨ c = B + 3 ∨ c = B ∨ c = B + 1 := by simpa using hc
    rcases e' with q | q | q | q | q
    · rw [q]; exact ⟨_, hz, fun v q => nomatch q⟩
    · rw [q]; exact ⟨_, hTI, fun v q => nomatch q⟩
    · rw [q]; exact ⟨_, hTO, fun v q => nomatch q⟩
    · rw [q]; exact ⟨o1, e1, fun v q => by rw [d1] at q; cases q⟩
    · rw [q]; exact ⟨o2, e2, fun v q => by rw [d2] at q; cases q⟩
  keep := fun i h h' st k => by
    obtain ⟨hz, hTI, ⟨x, y, hTO⟩, h1, h2⟩ := st
    exact ⟨k (B + 4) (by simp) _ hz, k (B + 2) (by simp) _ hTI, ⟨x, y, k (B + 3) (by simp) _ hTO⟩, h1.at fun o q => k B (by simp) o q, h2.at fun o q => k (B + 1) (by simp) o q⟩
  item := by
    intro X hP hw hK hc i pins s σ H E I hf st hg
    subst hP hw hK
    obtain ⟨hz, hTI, ⟨x0, y0, hTO⟩, s1, s2⟩ := st
    obtain ⟨xs, ys, x, y, hqx, hqy, hx, hy⟩ := hg
    obtain ⟨fp1, P1, St1, D1, t1, m1, f1, b1, v1⟩ := draws_of (A := X.A.in1) (show X.A.in1.handled = none from I.ok.hd hc) I hqx r1 (fun a e => Nat.ne_of_lt (h1 a e)) s1
    obtain ⟨fp2, P2, St2, D2, t2, m2, f2, b2, v2⟩ := draws_of (A := X.A.in1) (show X.A.in1.handled = none from I.ok.hd hc) I hqy r2 (fun a e => Nat.ne_of_lt (Nat.lt_succ_of_lt (h2 a e))) s2
    have S := sep_of h1 h2 m1 m2 f1 f2
    have hzl : B + 4 < s.heap.objs.size := Heap.lt_size hz
    refine wpAny_pyNext_zipD2_item S D1 D2 hz hTI hTO t1 t2 (List.getElem?_eq_some_iff.mp hx).1 (List.getElem?_eq_some_iff.mp hy).1 fun w1 w2 h' tk p1 p2 z' TO' d1 d2 hT hsz hk => ?_
    obtain ⟨x', ex, rx⟩ := v1 w1 p1
    obtain ⟨y', ey, ry⟩ := v2 w2 p2
    have ex' : x = x' := Option.some.inj (hx.symm.trans ex)
    have ey' : y = y' := Option.some.inj (hy.symm.trans ey)
    subst ex' ey'
    refine ⟨_, rfl, wpAny_letOwnedTupleGo_zip (s := { s with heap := h', toks := tk }) z' fun h'' z'' sb => ?_⟩
    have hT2 : h''.get? s.heap.objs.size = some { cls := .type "tuple", data := .seq #[w1, w2] } := (sb.2 _ (Nat.ne_of_gt hzl)).trans hT
    have new : ObjOk X.prog X.w (upd H s.heap.objs.size (.tup [x, y])) h'' s.heap.objs.size (.tup [x, y]) :=
      ⟨by show 2 ≤ sizeLine; decide, [w1, w2], .cons rx (.cons ry .nil), ⟨_, hT2, rfl, _, rfl⟩⟩
    have I1 : Inv X pins σ (upd H s.heap.objs.size (.tup [x, y])) { s with heap := h'', toks := tk } :=
      I.turnedNew (t' := tk) (ch := [B + 4, B + 2, B + 3, B, B + 1]) (fun c o hb q => (sb.2 c (fun q' => hb (by simp [q']))).trans (hk c o (fun q' => hb (by simp [q'])) (fun q' => hb (by simp [q'])) (fun q' => hb (by simp [q'])) (fun q' => hb (by simp [q'])) q)) hf (Nat.le_refl _) new
    have ne : ∀ (a b : Nat), a ≠ b → ((a : Addr) ≠ b) := fun _ _ h => h
    refine ⟨.ref s.heap.objs.size, _, I1, rfl, ⟨_, x, y, rfl, I.hok.fresh (Nat.le_refl _), rfl, fun l hl => by rw [at_inj I hl hqx]; exact hx, fun l hl => by rw [at_inj I hl hqy]; exact hy⟩, ⟨z'', ?_, ⟨w1, w2, ?_⟩, ?_, ?_⟩, fun c hcm => ?_⟩
    · exact (sb.2 _ S.TIz).trans (hk _ _ S.TIz S.TITO S.TIi1 S.TIi2 hTI)
    · exact (sb.2 _ S.TOz).trans TO'
    · exact (b1 _ _ d1).at fun o q => (sb.2 _ (ne _ _ (by omega))).trans q
    · exact (b2 _ _ d2).at fun o q => (sb.2 _ (ne _ _ (by omega))).trans q
    · have hlt : c < s.heap.objs.size := by
        have e' : c = B + 4 ∨ c = B + 2 ∨ c = B + 3 ∨ c = B ∨ c = B + 1 := by simpa using hcm
        rcases e' with q | q | q | q | q
        · rw [q]; exact hzl
        · rw [q]; exact Heap.lt_size hTI
        · rw [q]; exact Heap.lt_size hTO
        · rw [q]; obtain ⟨_, e1, _⟩ := s1; exact Heap.lt_size e1
        · rw [q]; obtain ⟨_, e2, _⟩ := s2; exact Heap.lt_size e2
      rw [upd_ne (Nat.ne_of_lt hlt)]
      exact (hf c hcm).1
  done := by
    intro X hP hw hK hc i pins s σ H E I hf st hg
    subst hP hw hK
    obtain ⟨hz, hTI, ⟨x0, y0, hTO⟩, s1, s2⟩ := st
    obtain ⟨xs, ys, hqx, hqy, hend⟩ := hg
    obtain ⟨fp1, P1, St1, D1, t1, m1, f1, b1, v1⟩ := draws_of (A := X.A.in1) (show X.A.in1.handled = none from I.ok.hd hc) I hqx r1 (fun a e => Nat.ne_of_lt (h1 a e)) s1
    obtain ⟨fp2, P2, St2, D2, t2, m2, f2, b2, v2⟩ := draws_of (A := X.A.in1) (show X.A.in1.handled = none from I.ok.hd hc) I hqy r2 (fun a e => Nat.ne_of_lt (Nat.lt_succ_of_lt (h2 a e))) s2
    have S := sep_of h1 h2 m1 m2 f1 f2
    refine wpAny_pyNext_zipD2_end S D1 D2 hz hTI hTO t1 t2 (by rw [hend]; exact Nat.min_le_left _ _) (by rw [hend]; exact Nat.min_le_right _ _) (by rw [hend]; omega) fun h' tk hk => ⟨rfl, I.turnedL (t' := tk) (ch := [B + 4, B + 2, B + 3, B, B + 1]) (fun c o hb q =>
      hk c o (fun q' => hb (by simp [q'])) (fun q' => hb (by simp [q'])) (fun q' => hb (by simp [q'])) (fun q' => hb (by simp [q'])) q) hf⟩
  self := fun A i s Q E st h => wpAny_pyIter_zip st.1 h
def iZipG (K : PySem.W.Frag) (ta : TA) : TI := fun σ H R => ta σ H fun vs H1 => ∃ (k1 k2 : Sk) (xs ys : List V), vs = [k1.val, k2.val] ∧ k1.at K H1 xs ∧ k2.at K H1 ys ∧ R (ItG K k1 k2) H1
theorem iterOf_of {X : Cx} {pins : List (Addr × Obj)} {σ : L2.St} {H : Hp} {s : Shared} (I : Inv X pins σ H s) {k : Sk} {xs : List V} (ha : k.at X.K H xs) {u : Value} (r : RelV k.val u) : IterOf u k.ty s.heap ∧ ∀ a, u = .ref a → a < s.heap.objs.size := by
  cases k with
  | l a =>
    cases r
    obtain ⟨its, rv, p, _⟩ := I.list (show SqL X.K H a xs from ha)
    exact ⟨.inl ⟨a, _, rfl, rfl, p.isList⟩, fun b e => by cases e; exact p.lt⟩
  | t a =>
    cases r
    obtain ⟨its, rv, p, _⟩ := I.tuple (show SqT X.K H a xs from ha)
    obtain ⟨o1, ho1, _⟩ := id p
    exact ⟨.inr (.inl ⟨a, _, rfl, rfl, p⟩), fun b e => by cases e; exact Heap.lt_size ho1⟩
  | s x =>
    obtain ⟨tk, r⟩ := (show ∃ t, u = Value.str x t from r)
    subst r
    exact ⟨.inr (.inr ⟨x, tk, rfl, rfl⟩), fun b e => by cases e⟩
theorem pi_zipG {X : Cx} {e e2 : Expr} {ta : TA} {p pos tpos : Pos} {elts : List Expr} {kk : Nat} (hg : Gl X "zip") (hm : X.mg "zip" = none) (ha : PA X [e, e2] ta)
    (hs : starEach [e, e2] X.env = (false, eval e X.env) :: starEach [e2] X.env := by rfl) (hpl : (backTo pos (starEach [e2] X.env)).any (·.1) = false := by rfl) :
    PI X (.Tuple elts kk tpos) (.Call (.Name "zip" p) [e, e2] [] pos) (iZipG X.K ta) := by
  refine ⟨fun pins s σ H R I h => ?_⟩
  refine Call_ (ld_blt I hg hm PyProof.Rows.boot_zip (PyProof.Rows.callWith_type1 (thn (ha.run pos pins s σ H _ I h) fun us s1 ⟨vs, H1, I1, r1, q1⟩ => ?_) hs hpl))
  obtain ⟨k1, k2, xs, ys, ex, hqx, hqy, q⟩ := q1
  subst ex
  cases r1 with
  | cons r rr =>
    cases rr with
    | cons r' rr =>
      cases rr
      have fresh5 : ∀ c, c ∈ [s1.heap.objs.size + 4, s1.heap.objs.size + 2, s1.heap.objs.size + 3, s1.heap.objs.size, s1.heap.objs.size + 1] → FpOk X pins H1 c := fun c hcm => by
        have e' : c = s1.heap.objs.size + 4 ∨ c = s1.heap.objs.size + 2 ∨ c = s1.heap.objs.size + 3 ∨ c = s1.heap.objs.size ∨ c = s1.heap.objs.size + 1 := by simpa using hcm
        have hle : s1.heap.objs.size ≤ c := by
          rcases e' with z | z | z | z | z
          · rw [z]; exact Nat.le_add_right _ _
          · rw [z]; exact Nat.le_add_right _ _
          · rw [z]; exact Nat.le_add_right _ _
          · rw [z]; exact Nat.le_refl _
          · rw [z]; exact Nat.le_add_right _ _
        exact I1.fpOk hle (I1.hok.fresh hle)
      obtain ⟨i1, l1⟩ := iterOf_of I1 hqx r
      obtain ⟨i2, l2⟩ := iterOf_of I1 hqy r'
      refine call_zipG i1 i2 fun h' hz hTI hTO h1 h2 hsz hk => wpAny_pyIter_zip hz ?_
      have I2 : Inv X pins σ H1 { s1 with heap := h' } := I1.kept (t' := s1.toks) hk
      exact ⟨s1.heap.objs.size + 4, [s1.heap.objs.size + 4, s1.heap.objs.size + 2, s1.heap.objs.size + 3, s1.heap.objs.size, s1.heap.objs.size + 1], _, _, H1, rfl, I2, turn_zipG r r' l1 l2, ⟨hz, hTI, ⟨_, _, hTO⟩, h1, h2⟩, fresh5, q⟩
def zipP : List PV → List PV → List PV
  | x :: xs, y :: ys => .tup [x, y] :: zipP xs ys
  | _, _ => []
theorem zipP_length : ∀ (xs ys : List PV), (zipP xs ys).length = min xs.length ys.length
  | [], ys => by simp [zipP]
  | x :: xs, [] => by simp [zipP]
  | x :: xs, y :: ys => by simp [zipP, zipP_length xs ys]
theorem zipP_get : ∀ (xs ys : List PV) (i : Nat) (p : PV), (zipP xs ys)[i]? = some p → ∃ x y, xs[i]? = some x ∧ ys[i]? = some y ∧ p = .tup [x, y]
  | [], ys, i, p, h => by simp [zipP] at h
  | x :: xs, [], i, p, h => by simp [zipP] at h
  | x :: xs, y :: ys, 0, p, h => by simp [zipP] at h; exact ⟨x, y, rfl, rfl, h.symm⟩
  | x :: xs, y :: ys, i + 1, p, h => by
    simp only [zipP, List.getElem?_cons_succ] at h ⊢
    exact zipP_get xs ys i p h
section
variable {K : KW} {H : Hp} {μ : Mu} {ps qs : List PV} {vs ws : List V}
theorem sup_zipG {k1 k2 : Sk} (t1 : ∀ μ' H', Gr μ H μ' H' → k1.at K H' vs) (t2 : ∀ μ' H', Gr μ H μ' H' → k2.at K H' ws) (r : VRs K H μ ps vs) (r' : VRs K H μ qs ws) : Sup K (ItG K k1 k2) (zipP ps qs) μ H := fun μ' H' st g sr => by
  have q1 := t1 μ' H' g
  have q2 := t2 μ' H' g
  refine ⟨fun i p hp => ?_, ⟨vs, ws, q1, q2, by rw [zipP_length, VRs.length r, VRs.length r']⟩⟩
  obtain ⟨x, y, h1, h2, rfl⟩ := zipP_get _ _ _ _ hp
  obtain ⟨u, e1, f1⟩ := VRs.get (VRs.mono g ps vs r) h1
  obtain ⟨w, e2, f2⟩ := VRs.get (VRs.mono g qs ws r') h2
  refine ⟨⟨vs, ws, u, w, q1, q2, e1, e2⟩, fun z H2 hz => ?_⟩
  obtain ⟨T, x', y', ex, hT, eh, hx, hy'⟩ := hz
  subst ex eh
  have ev : u = x' := Option.some.inj (e1.symm.trans (hx vs q1))
  have ew : w = y' := Option.some.inj (e2.symm.trans (hy' ws q2))
  subst ev ew
  refine ⟨gr_new hT, sr.new hT, ?_⟩
  refine (show ∃ a zs, V.ref T = .ref a ∧ TupAt K (upd H' T (.tup [u, w])) μ' a zs ∧ VRs K (upd H' T (.tup [u, w])) μ' [x, y] zs from ⟨T, _, rfl, ?_, VRs.cons (VR.mono (gr_new hT) _ _ f1) (VRs.cons (VR.mono (gr_new hT) _ _ f2) VRs.nil)⟩)
  exact .inl ⟨upd_same, sr.free hT⟩
end
def skOf : PV → Option (List PV)
  | .tup ps => some ps
  | .lst ps => some ps
  | .frz ps => some ps
  | .str x => some (x.map fun c => .str [c])
  | _ => none
theorem VRs.chars {K : PySem.W.Frag} {H : Hp} {μ : Mu} : ∀ (x : List Nat), VRs K H μ (x.map fun c => .str [c]) (x.map fun c => V.str ⟨#[c]⟩)
  | [] => rfl
  | c :: x => VRs.cons rfl (VRs.chars x)
theorem sk_at {K : PySem.W.Frag} {H : Hp} {μ : Mu} {p : PV} {v : V} {ps : List PV} (r : VR K H μ p v) (e : skOf p = some ps) : ∃ (k : Sk) (vs : List V), v = k.val ∧ (∀ μ' H', Gr μ H μ' H' → k.at K H' vs) ∧ VRs K H μ ps vs := by
  cases p <;> simp [skOf] at e
  case str x =>
    subst e
    cases (show v = V.str ⟨x.toArray⟩ from r)
    exact ⟨.s ⟨x.toArray⟩, x.map fun c => V.str ⟨#[c]⟩, rfl, fun _ _ _ => by show _ = _; simp, VRs.chars x⟩
  case tup xs =>
    subst e
    obtain ⟨a, vs, rfl, t, rs⟩ := tup_at r
    exact ⟨.t a, vs, rfl, fun _ _ g => (t.grow g).sq, rs⟩
  case lst xs =>
    subst e
    obtain ⟨a, vs, rfl, t, rs⟩ := lst_at r
    exact ⟨.l a, vs, rfl, fun _ _ g => (t.grow g).sq, rs⟩
  case frz xs =>
    subst e
    obtain ⟨a, vs, rfl, t, rs⟩ := frz_at r
    exact ⟨.l a, vs, rfl, fun _ _ g => (t.grow g).sq, rs⟩
def zipM (xs : List PV) : M (List PV) := match xs with
  | [p, q] => match skOf p, skOf q with
    | some ps, some qs => M.ret (zipP ps qs)
    | _, _ => M.fail
  | _ => M.fail
section
variable {X : Cx} {W : WX} {e e2 : Expr} {p pos : Pos} {ma : Rho → M (List PV)}
theorem mi_zip {tpos : Pos} {elts : List Expr} {kk : Nat} (hg : Gl X "zip") (hm : X.mg "zip" = none) (ha : MA X W [e, e2] ma)
    (hs : starEach [e, e2] X.env = (false, eval e X.env) :: starEach [e2] X.env := by kernel_rfl) (hpl : (backTo pos (starEach [e2] X.env)).any (·.1) = false := by kernel_rfl) :
    MI X W (.Tuple elts kk tpos) (.Call (.Name "zip" p) [e, e2] [] pos) (iCall zipM ma) :=
  PI.imp (pi_zipG hg hm ha hs hpl) fun σ H R ⟨μ, st, ρ, er, sr, h⟩ => ⟨μ, st, ρ, er, sr, (PostG.bind h).mono fun us H1 ⟨μ1, st1, xs, g1, s1, rxs, h1⟩ => by
    unfold zipM at h1
    split at h1
    · rename_i p q
      cases e1 : skOf p with
      | none => rw [e1] at h1; exact h1.elim
      | some ps =>
        cases e2 : skOf q with
        | none => rw [e1, e2] at h1; exact h1.elim
        | some qs =>
          rw [e1, e2] at h1
          obtain ⟨u, w, rfl, ru, rw'⟩ := two_of rxs
          obtain ⟨k1, vs, rfl, t1, r1⟩ := sk_at ru e1
          obtain ⟨k2, ws, rfl, t2, r2⟩ := sk_at rw' e2
          exact ⟨k1, k2, vs, ws, rfl, t1 _ _ (Gr.refl _ _), t2 _ _ (Gr.refl _ _), h1 μ1 H1 _ (Gr.refl _ _) s1 (sup_zipG t1 t2 r1 r2)⟩
    · exact h1.elim⟩
end
theorem fnOk_no {P : Program} {w : World} {K : PySem.W.Frag} {mg : Str → Option Value} {base : Heap} {k : Nat} {f : Addr} {fd : FuncData} {ps : List Str} {nn : Nat} : FnOk P w K mg base (L2.CX P w) k f fd ps (spM ⟨w, K⟩ (fun _ => M.fail) nn) :=
  ⟨fun vs H Q E h => let ⟨_, _, _, _, _, _, h⟩ := h; h.elim, fun _ _ _ _ _ _ _ _ _ _ _ _ _ h => let ⟨_, _, _, _, _, _, h⟩ := h; h.elim⟩
section
variable {X : Cx} {W : WX} {pos : Pos}
theorem me_call0 {x : Str} {f : Addr} {fd : FuncData} {ps : List Str} {k : Nat} {p : Pos} {mf : List PV → M PV} (F : FnOk X.prog X.w X.K X.mg X.base (L2.CX X.prog X.w) k f fd ps (spM (kw X) mf 0)) (hr : Room k X.A) (hg : Gl X x) (hm : X.mg x = some (.ref f))
    (hk : PySem.W.keepIn X.K (.ref f) = true) (hb : Binds X.K fd ps []) (tk : Takes X W) (hdb : (x == ("__debug__" : Str)) = false := by kernel_rfl) :
    ME X W (.Call (.Name x p) [] [] pos) (eCall mf aNil) := by
  refine PE.imp (t := fun σ H Q => spM (kw X) mf 0 [] H Q (WE W σ)) ⟨fun pins s σ H Q I h => ?_⟩ fun σ H Q ⟨μ, st, ρ, er, sr, h⟩ => ⟨μ, st, [], sr, VRs.nil, rfl, h⟩
  refine wpAny_Call_Name_kw (ld_glob I hg hm ?_ hdb)
  exact PySem.W.callWith_K0 I.kIn hk (run_fnSD (us := []) (vs := []) (dvs := []) (ds := []) (E := WE W) F hr hb .nil (passAt tk σ) I .nil h)
end
end MP

set_option maxRecDepth 100000
set_option maxHeartbeats 1000000
namespace MP
open PySem L2
def forG (G : Sto → Bool) (g : GM) (b : Rho → M Fl) : List PV → Rho → M Fl
  | [], ρ => fun st => if G st = true then .ok (.next ρ) st else .bad
  | p :: ps, ρ => fun st => if G st = true then onErr ρ (g p ρ) (fun ρ1 => turnL (forG G g b ps) (b ρ1)) st else .bad
def SupG (K : KW) (J : It) (ps : List PV) (G : Sto → Bool) (μ0 : Mu) (H0 : Hp) : Prop :=
  ∀ μ H st, Gr μ0 H0 μ H → SR K μ st H → G st = true → (∀ (i : Nat) (p : PV), ps[i]? = some p → J.go i H ∧ ∀ x H', J.yld i H x H' → Gr μ H μ H' ∧ SR K μ st H' ∧ VR K H' μ p x) ∧ J.stop ps.length H
theorem PostS.ifG {K : KW} {W : WX} {D : Ends} {μ : Mu} {H : Hp} {c : Bool} {r : Res Fl} (h : PostS K W D μ H (if c = true then r else .bad)) : c = true ∧ PostS K W D μ H r := by
  cases c with
  | true => exact ⟨rfl, h⟩
  | false => exact h.elim
theorem PostG.ifG {α β : Type} {K : KW} {E : XK} {R : Hp → Mu → α → β → Prop} {Q : β → Hp → Prop} {μ : Mu} {H : Hp} {c : Bool} {r : Res α} (h : PostG K E R Q μ H (if c = true then r else .bad)) : c = true ∧ PostG K E R Q μ H r := by
  cases c with
  | true => exact ⟨rfl, h⟩
  | false => exact h.elim
theorem for_impG {K : KW} {W : WX} {D : Ends} {J : It} {ps : List PV} {G : Sto → Bool} {g : GM} {b : Rho → M Fl} {μ : Mu} {H : Hp} {σ : St} {ρ : Rho} {st : Sto} (su : SupG K J ps G μ H) (er : ER K H μ ρ σ) (sr : SR K μ st H) (h : PostS K W D μ H (forG G g b ps ρ st)) :
    ∃ V : Nat → Nat → St → Hp → Prop, (∃ m, V 0 m σ H) ∧ ∀ i m σ H, V i m σ H →
      (J.stop i H ∧ D.nx σ H) ∨ (J.go i H ∧ ∃ N : St → Hp → Prop, (∀ σ' H', N σ' H' → ∃ m', m' < m ∧ V (i + 1) m' σ' H') ∧ ∀ x H', J.yld i H x H' → tMG K W g x σ H' fun σ2 H2 => tMS K W b { D with nx := N, ct := N, bk := D.nx } σ2 H2) := by
  refine ⟨fun i m σ' H' => m = ps.length - i ∧ i ≤ ps.length ∧ ∃ μ' st' ρ', Gr μ H μ' H' ∧ ER K H' μ' ρ' σ' ∧ SR K μ' st' H' ∧ PostS K W D μ' H' (forG G g b (ps.drop i) ρ' st'), ⟨ps.length, by simp, Nat.zero_le _, μ, st, ρ, Gr.refl _ _, er, sr, by rw [List.drop_zero]; exact h⟩, ?_⟩
  rintro i m σ1 H1 ⟨rfl, hi, μ1, st1, ρ1, g1, e1, s1, h1⟩
  by_cases hlt : i < ps.length
  · have hp : ps[i]? = some ps[i] := by simp [hlt]
    rw [List.drop_eq_getElem_cons hlt] at h1
    unfold forG at h1
    obtain ⟨hG, h1⟩ := PostS.ifG h1
    obtain ⟨go, yl⟩ := (su μ1 H1 st1 g1 s1 hG).1 i ps[i] hp
    refine .inr ⟨go, fun σ' H' => ∃ μ' st' ρ', Gr μ H μ' H' ∧ ER K H' μ' ρ' σ' ∧ SR K μ' st' H' ∧ PostS K W D μ' H' (forG G g b (ps.drop (i + 1)) ρ' st'), fun σ' H' q => ⟨ps.length - (i + 1), by omega, rfl, hlt, q⟩, fun x H' y => ?_⟩
    obtain ⟨g2, s2, rx⟩ := yl x H' y
    refine ⟨μ1, st1, ρ1, ps[i], e1.mono g2, s2, rx, (PostS.onErr (PostS.grow h1 g2) (e1.mono g2)).mono fun σ3 H3 ⟨μ3, st3, ρ3, g3, s3, e3, h3⟩ => ⟨μ3, st3, ρ3, e3, s3, ?_⟩⟩
    have gg := (g1.trans g2 fun a m => (s2.ban a m).1).trans g3 fun a m => (s3.ban a m).1
    unfold turnL at h3
    cases q : b ρ3 st3 with
    | ok f st' =>
      rw [q] at h3
      cases f with
      | next ρ' => exact fun μ' H' σ' g4 s4 e4 => ⟨μ', st', ρ', gg.trans g4 (fun a m => (s4.ban a m).1), e4, s4, PostS.grow h3 g4⟩
      | cont ρ' => exact fun μ' H' σ' g4 s4 e4 => ⟨μ', st', ρ', gg.trans g4 (fun a m => (s4.ban a m).1), e4, s4, PostS.grow h3 g4⟩
      | brk ρ' => exact h3
      | ret p => exact h3
      | exc x ρ' => exact h3
    | err x st' => rw [q] at h3; exact h3
    | bad => rw [q] at h3; exact h3
  · have e : i = ps.length := by omega
    subst e
    rw [List.drop_length] at h1
    unfold forG at h1
    obtain ⟨hG, h1⟩ := PostS.ifG h1
    exact .inl ⟨(su μ1 H1 st1 g1 s1 hG).2, h1 μ1 H1 σ1 (Gr.refl _ _) s1 e1⟩
def gd (n : Nat) (xs : List PV) (st : Sto) : Bool := match st[n]? with
  | some (.lst ys) => decide (ys = xs)
  | _ => false
def atCell (v : PV) : M (Nat × List PV) := fun st => match v with
  | .loc n => match st[n]? with
    | some (.lst xs) => .ok (n, xs) st
    | _ => .bad
  | _ => .bad
def iCell (m : Rho → M PV) : Rho → M (Nat × List PV) := fun ρ => M.bind (m ρ) atCell
def tMIC (K : KW) (W : WX) (f : List PV → List PV) (m : Rho → M (Nat × List PV)) : TI := fun σ H R => ∃ μ st ρ, ER K H μ ρ σ ∧ SR K μ st H ∧ PostG K (fun c d H' => W c d σ H') (fun H μ nx (J : It) => SupG K J (f nx.2) (gd nx.1 nx.2) μ H) R μ H (m ρ st)
def MIC (X : Cx) (W : WX) (tg iter : Expr) (f : List PV → List PV) (m : Rho → M (Nat × List PV)) : Prop := PI X tg iter (tMIC (kw X) W f m)
def enumP (xs : List PV) : List PV := xs.mapIdx fun i p => .tup [.int (i : Nat), p]
theorem gd_at {n : Nat} {xs : List PV} {st : Sto} (h : gd n xs st = true) : st[n]? = some (.lst xs) := by
  unfold gd at h
  split at h
  · rename_i ys e
    rw [e, of_decide_eq_true h]
  · cases h
theorem sup_cell {K : KW} {H : Hp} {μ : Mu} {a : Addr} {n : Nat} {xs : List PV} (ha : μ.l[n]? = some a) : SupG K (Itl K a) xs (gd n xs) μ H := fun μ' H' st g sr hG => by
  obtain ⟨vs, q0, r⟩ := sr.cell n _ a (gd_at hG) (g.get ha)
  have q : SqL K H' a vs := SqL.of q0
  refine ⟨fun i p hp => ?_, ⟨vs, q, by rw [VRs.length r]; exact Nat.le_refl _⟩⟩
  obtain ⟨v, e1, e2⟩ := VRs.get r hp
  refine ⟨⟨vs, v, q, e1⟩, fun x H2 ⟨eh, y⟩ => ?_⟩
  subst eh
  have ex : v = x := Option.some.inj (e1.symm.trans (y vs q))
  subst ex
  exact ⟨Gr.refl _ _, sr, e2⟩
theorem PostG.tieA {K : KW} {E : XK} {Q : V → Hp → Prop} {Q' : List V → Hp → Prop} {μ : Mu} {H : Hp} {m : M PV} {st : Sto} (h : PostG K E (VR K) Q μ H (m st)) (i : ∀ u H1, Q u H1 → Q' [u] H1) : PostG K E (VRs K) Q' μ H (M.bind m (fun x => M.bind (M.ret []) fun xs => M.ret (x :: xs)) st) := by
  unfold M.bind
  cases q : m st with
  | ok a s' =>
    rw [q] at h
    intro μ1 H1 us g s r
    obtain ⟨u, rfl, ru⟩ := one_of r
    exact i _ _ (h μ1 H1 u g s ru)
  | err x s' => rw [q] at h; exact h
  | bad => rw [q] at h; exact h.elim
section
variable {X : Cx} {W : WX} {tg e : Expr} {me : Rho → M PV}
theorem mic_cell (he : ME X W e me) : MIC X W tg e id (iCell me) := PI.imp (pi_list he) fun σ H R ⟨μ, st, ρ, er, sr, h⟩ => ⟨μ, st, ρ, er, sr, (PostG.bind h).mono fun u H1 ⟨μ1, st1, v, g1, s1, rv, h1⟩ => by
  unfold atCell at h1
  cases v with
  | loc n =>
    dsimp only at h1
    cases q : st1[n]? with
    | none => rw [q] at h1; exact h1.elim
    | some c =>
      rw [q] at h1
      cases c with
      | lst xs =>
        obtain ⟨a, rfl, ha⟩ := loc_at rv
        obtain ⟨vs, q0, r⟩ := s1.cell n _ a q ha
        exact ⟨a, rfl, ⟨vs, SqL.of q0⟩, h1 μ1 H1 _ (Gr.refl _ _) s1 (sup_cell ha)⟩
      | dct kvs => exact h1.elim
      | ins C fs => exact h1.elim
      | dcl kvs => exact h1.elim
      | dcn kvs => exact h1.elim
      | lck kvs => exact h1.elim
  | _ => exact h1.elim⟩
theorem sup_cellE {K : KW} {H : Hp} {μ : Mu} {a : Addr} {n : Nat} {xs : List PV} (ha : μ.l[n]? = some a) : SupG K (Ite K a) (enumP xs) (gd n xs) μ H := fun μ' H' st g sr hG => by
  obtain ⟨vs, q0, r⟩ := sr.cell n _ a (gd_at hG) (g.get ha)
  have q : SqL K H' a vs := SqL.of q0
  refine ⟨fun i p hp => ?_, ⟨vs, q, by unfold enumP; rw [List.length_mapIdx, VRs.length r]; exact Nat.le_refl _⟩⟩
  unfold enumP at hp
  rw [List.getElem?_mapIdx] at hp
  cases hq : xs[i]? with
  | none => rw [hq] at hp; cases hp
  | some p0 =>
    rw [hq] at hp
    cases hp
    obtain ⟨v, e1, e2⟩ := VRs.get r hq
    refine ⟨⟨vs, v, q, e1⟩, fun x H2 ⟨T, y, ex, hT, eh, hy⟩ => ?_⟩
    subst ex eh
    have ev : v = y := Option.some.inj (e1.symm.trans (hy vs q))
    subst ev
    refine ⟨gr_new hT, sr.new hT, ?_⟩
    refine (show ∃ a ws, V.ref T = .ref a ∧ TupAt K (upd H' T (.tup [.int (i : Nat), v])) μ' a ws ∧ VRs K (upd H' T (.tup [.int (i : Nat), v])) μ' [.int (i : Nat), p0] ws from ⟨T, _, rfl, ?_, VRs.cons rfl (VRs.cons (VR.mono (gr_new hT) _ _ e2) VRs.nil)⟩)
    exact .inl ⟨upd_same, sr.free hT⟩
theorem mic_enum {p pos tpos : Pos} {elts : List Expr} {kk : Nat} (hg : Gl X "enumerate") (hm : X.mg "enumerate" = none) (he : ME X W e me) (hs : starEach [e] X.env = [(false, eval e X.env)] := by kernel_rfl) :
    MIC X W (.Tuple elts kk tpos) (.Call (.Name "enumerate" p) [e] [] pos) enumP (iCell me) := PI.imp (pi_enum hg hm (ma_cons he ma_nil hs) hs) fun σ H R ⟨μ, st, ρ, er, sr, h⟩ => ⟨μ, st, ρ, er, sr, by
  have h0 := (PostG.bind (R' := VR X.K) h)
  unfold aCons
  refine PostG.tieA h0 fun u H1 ⟨μ1, st1, v, g1, s1, rv, h1⟩ => ?_
  unfold atCell at h1
  cases v with
  | loc n =>
    dsimp only at h1
    cases q : st1[n]? with
    | none => rw [q] at h1; exact h1.elim
    | some c =>
      rw [q] at h1
      cases c with
      | lst xs =>
        obtain ⟨a, rfl, ha⟩ := loc_at rv
        obtain ⟨vs, q0, r⟩ := s1.cell n _ a q ha
        exact ⟨a, vs, rfl, SqL.of q0, h1 μ1 H1 _ (Gr.refl _ _) s1 (sup_cellE ha)⟩
      | dct kvs => exact h1.elim
      | ins C fs => exact h1.elim
      | dcl kvs => exact h1.elim
      | dcn kvs => exact h1.elim
      | lck kvs => exact h1.elim
  | _ => exact h1.elim⟩
variable {pos : Pos} {m : Rho → M Fl}
def sForC (f : List PV → List PV) (mi : Rho → M (Nat × List PV)) (g : GM) (b : Rho → M Fl) : Rho → M Fl := fun ρ => onErr ρ (mi ρ) fun nx => forG (gd nx.1 nx.2) g b (f nx.2) ρ
theorem ms_forC {f : List PV → List PV} {iter : Expr} {body : List Stmt} {mi : Rho → M (Nat × List PV)} {g : GM} (hp : PassesOwn (model X.prog X.w) X.A X.env X.xe) (hc : X.calm = true) (hi : MIC X W tg iter f mi) (hg : MG X W tg g) (hb : MSs X W body m)
    (hs : ∀ x, foldedSetIterable iter X.env x = pure x := by intro _; kernel_rfl) : MS X W (.For tg iter body [] pos) (sForC f mi g m) :=
  PS.imp (ps_for hp hc hi hg hb hs) fun D σ H ⟨μ, st, ρ, er, sr, h⟩ => ⟨μ, st, ρ, er, sr, (PostS.onErr h er).mono fun J H1 ⟨μ1, st1, nx, g1, s1, su, h1⟩ => for_impG su (er.mono g1) s1 h1⟩
end
def lcG (G : Sto → Bool) (g : GM) (t : Rho → M Bool) (e : Rho → M PV) (ρ0 : Rho) : List PV → List PV → M (List PV)
  | [], acc => fun st => if G st = true then .ok acc st else .bad
  | p :: ps, acc => fun st => if G st = true then (M.bind (M.calm (g p ρ0)) fun ρ1 => M.bind (M.calm (t ρ1)) fun c => if c = true then M.bind (M.calm (e ρ1)) fun y => if acc.length < SZ then lcG G g t e ρ0 ps (acc ++ [y]) else M.fail else lcG G g t e ρ0 ps acc) st else .bad
theorem bind_ifG {α β : Type} {G : Sto → Bool} {m : M α} {k : α → M β} : M.bind (fun st => if G st = true then m st else .bad) k = fun st => if G st = true then M.bind m k st else .bad := by
  funext st
  unfold M.bind
  dsimp only
  cases G st <;> rfl
theorem lc_impG {K : KW} {E : XK} {Q : VK} {J : It} {ps : List PV} {G : Sto → Bool} {g0 : TG} {g : GM} {t : Rho → M Bool} {e : Rho → M PV} {k : List PV → M PV} {vs : List Nat} {μ : Mu} {H : Hp} {σ : St} {ρ : Rho} {st : Sto} {D : Addr} (su : SupG K J ps G μ H) (er : ER K H μ ρ σ) (sr : SR K μ st H) (tg : TGo K vs g0 g) (le : LcEnd K k)
    (hD : H D = none) (h : PostG K E (VR K) Q μ H (M.bind (lcG G g t e (wipeP ρ vs) ps []) k st)) :
    ∃ V : Nat → Nat → Hp → Prop, (∃ m, V 0 m (upd H D (.lst []))) ∧ ∀ i m H, V i m H →
      (J.stop i H ∧ Q (.ref D) H) ∨ (J.go i H ∧ ∃ Nx : Hp → Prop, (∀ H', Nx H' → ∃ m', m' < m ∧ V (i + 1) m' H') ∧ ∀ x H', J.yld i H x H' → g0 x (L2.wipe σ vs) H' fun σ2 H2 => L2.wipe σ2 vs = L2.wipe σ vs ∧ tMT K W0 t σ2 H2 fun b H3 =>
        if b = true then tM K W0 e σ2 H3 fun y H4 => ∃ acc, H4 D = some (.lst acc) ∧ acc.length < sizeLine ∧ Nx (upd H4 D (.lst (acc ++ [y]))) else Nx H3) := by
  let P : Nat → Hp → Prop := fun i H' => ∃ μ' st' acc va, Gr μ H μ' H' ∧ SR K μ' st' H' ∧ D ∈ μ'.b ∧ H' D = some (.lst va) ∧ VRs K H' μ' acc va ∧ PostG K E (VR K) Q μ H (M.bind (lcG G g t e (wipeP ρ vs) (ps.drop i) acc) k st')
  refine ⟨fun i m H' => m = ps.length - i ∧ i ≤ ps.length ∧ P i H', ⟨ps.length, by simp, Nat.zero_le _, ?_⟩, ?_⟩
  · have gb : Gr μ H (μ.bar D) (upd H D (.lst [])) := ⟨⟨[], by simp [Mu.bar]⟩, fun a m => List.mem_cons_of_mem _ m, fun a m => by
      rcases List.mem_cons.mp m with z | z
      · rw [z]; exact .inr hD
      · exact .inl z, fun a m => .inl m, fun a o q _ => by rw [upd_ne (ne_of_none q hD)]; exact q, fun a o u q => by rw [upd_ne (ne_of_none q hD)]; exact q⟩
    refine ⟨μ.bar D, st, [], [], gb, ?_, List.mem_cons_self, upd_same, rfl, by rw [List.drop_zero]; exact h⟩
    refine ⟨sr.len, sr.nd, fun a m => ?_, fun n c a e1 e2 => (sr.cell n c a e1 e2).mono gb (upd_ne fun z => ?_)⟩
    · rcases List.mem_cons.mp m with z | z
      · subst z
        exact ⟨fun q => sr.free hD (.inl q), _, upd_same⟩
      · obtain ⟨n1, o, q⟩ := sr.ban a z
        exact ⟨n1, o, by rw [upd_ne (ne_of_none q hD)]; exact q⟩
    · obtain ⟨u, q⟩ := (sr.cell n c a e1 e2).has
      rw [z, hD] at q; cases q
  · rintro i m H1 ⟨rfl, hi, μ1, st1, acc, va, g1, s1, b1, d1, r1, h1⟩
    by_cases hlt : i < ps.length
    · have hp : ps[i]? = some ps[i] := by simp [hlt]
      rw [List.drop_eq_getElem_cons hlt] at h1
      unfold lcG at h1
      rw [bind_ifG] at h1
      obtain ⟨hG, h1⟩ := PostG.ifG h1
      obtain ⟨go, yl⟩ := (su μ1 H1 st1 g1 s1 hG).1 i ps[i] hp
      refine .inr ⟨go, P (i + 1), fun H' q => ⟨ps.length - (i + 1), by omega, rfl, hlt, q⟩, fun x H2 y => ?_⟩
      obtain ⟨g2, s2, rx⟩ := yl x H2 y
      have gg2 := g1.trans g2 fun a m => (s2.ban a m).1
      rw [M.bind_assoc] at h1
      refine tg x _ H2 _ μ1 st1 _ ps[i] ((er.mono gg2).wipe vs) s2 rx ((PostG.calm (PostG.bindAt h1 gg2)).mono fun σ3 H3 ⟨μ3, st3, ρ3, g3, s3, ⟨e3, w3⟩, h3⟩ => ⟨w3.trans (wipe_wipe fun _ z => z), ?_⟩)
      have gg3 := gg2.trans g3 fun a m => (s3.ban a m).1
      rw [M.bind_assoc] at h3
      refine ⟨μ3, st3, ρ3, e3, s3, (PostG.calm (PostG.bindAt h3 gg3)).mono fun c H4 ⟨μ4, st4, c', g4, s4, ec, h4⟩ => ?_⟩
      subst ec
      have gg4 := gg3.trans g4 fun a m => (s4.ban a m).1
      have keepD : ∀ {μa μb : Mu} {Ha Hb : Hp} {sa : Sto} {w : List V}, Gr μa Ha μb Hb → SR K μa sa Ha → D ∈ μa.b → Ha D = some (.lst w) → Hb D = some (.lst w) := fun g s m q => g.keep D _ q (s.ban D m).1
      have d2 := keepD g2 s1 b1 d1
      have b2 := g2.ban D b1
      have d3 := keepD g3 s2 b2 d2
      have b3 := g3.ban D b2
      have d4 := keepD g4 s3 b3 d3
      have b4 := g4.ban D b3
      have r4 : VRs K H4 μ4 acc va := VRs.mono g4 _ _ (VRs.mono g3 _ _ (VRs.mono g2 _ _ r1))
      cases c' with
      | false =>
        rw [if_neg Bool.false_ne_true] at h4 ⊢
        exact ⟨μ4, st4, acc, va, gg4, s4, b4, d4, r4, h4⟩
      | true =>
        rw [if_pos rfl] at h4 ⊢
        rw [M.bind_assoc] at h4
        refine ⟨μ4, st4, ρ3, e3.mono g4, s4, (PostG.calm (PostG.bindAt h4 gg4)).mono fun w H5 ⟨μ5, st5, py, g5, s5, rw5, h5⟩ => ?_⟩
        have gg5 := gg4.trans g5 fun a m => (s5.ban a m).1
        have d5 := keepD g5 s4 b4 d4
        have b5 := g5.ban D b4
        have r5 : VRs K H5 μ5 acc va := VRs.mono g5 _ _ r4
        by_cases hz : acc.length < SZ
        · rw [if_pos hz] at h5
          refine ⟨va, d5, by rw [← VRs.length r5, sz_eq]; exact hz, μ5, st5, acc ++ [py], va ++ [w], ?_, sr_bar b5 s5, b5, upd_same, VRs.monov (gv_bar b5) _ _ (VRs.append r5 (VRs.cons rw5 VRs.nil)), h5⟩
          exact ⟨gg5.pre, gg5.ban, gg5.bnew, gg5.new, fun a o q n => by rw [upd_ne (ne_of_none q hD)]; exact gg5.keep a o q n, fun a o u q => by rw [upd_ne (ne_of_none q hD)]; exact gg5.fz a o u q⟩
        · rw [if_neg hz] at h5
          exact h5.elim
    · have ei : i = ps.length := by omega
      subst ei
      rw [List.drop_length] at h1
      unfold lcG at h1
      rw [show (fun st => if G st = true then Res.ok acc st else Res.bad) = (fun st => if G st = true then M.ret acc st else .bad) from rfl, bind_ifG] at h1
      obtain ⟨hG, h1⟩ := PostG.ifG h1
      exact .inl ⟨(su μ1 H1 st1 g1 s1 hG).2, le μ μ1 st st1 H H1 D acc va E Q sr hD g1 s1 b1 d1 r1 h1⟩
def eLcC (f : List PV → List PV) (k : List PV → M PV) (mi : Rho → M (Nat × List PV)) (g : GM) (t : Rho → M Bool) (e : Rho → M PV) (vs : List Nat) : Rho → M PV := fun ρ => M.bind (mi ρ) fun nx => M.bind (lcG (gd nx.1 nx.2) g t e (wipeP ρ vs) (f nx.2) []) k
section
variable {X : Cx} {W : WX}
theorem lc_tieC {f : List PV → List PV} {mi : Rho → M (Nat × List PV)} {g0 : TG} {g : GM} {t : Rho → M Bool} {e : Rho → M PV} {k : List PV → M PV} {vs : List Nat} (tg : TGo (kw X) vs g0 g) (le : LcEnd (kw X) k) : ∀ σ H Q, tM (kw X) W (eLcC f k mi g t e vs) σ H Q → tLc (tMIC (kw X) W f mi) g0 (tMT (kw X) W0 t) (tM (kw X) W0 e) vs σ H Q :=
  fun σ H Q ⟨μ, st, ρ, er, sr, h⟩ => ⟨μ, st, ρ, er, sr, (PostG.bind h).mono fun J H1 ⟨μ1, st1, nx, g1, s1, su, h1⟩ D hD => lc_impG su (er.mono g1) s1 tg le hD h1⟩
theorem me_lcC {f : List PV → List PV} {elt tgt iter : Expr} {ifs : List Expr} {scope : Scope} {own : List (Str × Nat)} {pos : Pos} {mi : Rho → M (Nat × List PV)} {g0 : TG} {g : GM} {t : Rho → M Bool} {e : Rho → M PV} {k : List PV → M PV} (hc : X.calm = true) (hN : X.N.Nodup) (hi : MIC X W tgt iter f mi) (ok : BlkOk X.N X.env.scope scope own) (tg : TGo (kw X) (own.map (·.2)) g0 g) (le : LcEnd (kw X) k)
    (hg : ∀ (s : Shared) (H : Hp) (C : Addr) (cl : List (Str × Addr)) (fp : List Addr), PG (X.blk s H scope (compEnvC scope cl C X.env) fp) tgt g0)
    (ht : ∀ (s : Shared) (H : Hp) (C : Addr) (cl : List (Str × Addr)) (fp : List Addr), MTs (X.blk s H scope (compEnvC scope cl C X.env) fp) W0 ifs t)
    (he : ∀ (s : Shared) (H : Hp) (C : Addr) (cl : List (Str × Addr)) (fp : List Addr), ME (X.blk s H scope (compEnvC scope cl C X.env) fp) W0 elt e) (hs : ∀ x, foldedSetIterable iter X.env x = pure x := by intro _; kernel_rfl) :
    ME X W (.ListComp elt [⟨tgt, iter, ifs, 0⟩] scope pos) (eLcC f k mi g t e (own.map (·.2))) := PE.imp (pe_lc (tt := tMT (kw X) W0 t) (te := tM (kw X) W0 e) hc hN hi ok hg ht he hs) (lc_tieC tg le)
theorem ms_setLcC {f : List PV → List PV} {i : Nat} {y : Str} {py spos : Pos} {elt tgt iter : Expr} {ifs : List Expr} {scope : Scope} {own : List (Str × Nat)} {pos : Pos} {mi : Rho → M (Nat × List PV)} {g0 : TG} {g : GM} {t : Rho → M Bool} {e : Rho → M PV} {k : List PV → M PV} (hc : X.calm = true) (hN : X.N.Nodup) (hy : X.N[i]? = some y) (hyl : X.env.scope.names.lookup y = some .local)
    (hsw : swapsWith (.ListComp elt [⟨tgt, iter, ifs, 0⟩] scope pos) (some (.Name y py)) spos.line X.env = pure true) (hi : MIC X W tgt iter f mi) (ok : BlkOk X.N X.env.scope scope own) (tg : TGo (kw X) (own.map (·.2)) g0 g) (le : LcEnd (kw X) k)
    (hg : ∀ (s : Shared) (H : Hp) (C : Addr) (cl : List (Str × Addr)) (fp : List Addr), PG (X.blk s H scope (compEnvC scope cl C X.env) fp) tgt g0)
    (ht : ∀ (s : Shared) (H : Hp) (C : Addr) (cl : List (Str × Addr)) (fp : List Addr), MTs (X.blk s H scope (compEnvC scope cl C X.env) fp) W0 ifs t)
    (he : ∀ (s : Shared) (H : Hp) (C : Addr) (cl : List (Str × Addr)) (fp : List Addr), ME (X.blk s H scope (compEnvC scope cl C X.env) fp) W0 elt e) (hs : ∀ x, foldedSetIterable iter X.env x = pure x := by intro _; kernel_rfl) :
    MS X W (.Assign [.Name y py] (.ListComp elt [⟨tgt, iter, ifs, 0⟩] scope pos) spos) (sSet i (eLcC f k mi g t e (own.map (·.2)))) := PS.imp (ps_setLc (tt := tMT (kw X) W0 t) (te := tM (kw X) W0 e) hc hN hy hyl hsw hi ok hg ht he hs) fun D σ H ⟨μ, st, ρ, er, sr, h⟩ =>
      lc_tieC tg le σ H _ ⟨μ, st, ρ, er, sr, (PostS.onErr h er).mono fun u H1 ⟨μ1, st1, x, g1, s1, rx, h1⟩ => h1 μ1 H1 _ (Gr.refl _ _) s1 ((er.mono g1).set rx i)⟩
end
end MP

set_option maxRecDepth 100000
set_option maxHeartbeats 3200000
namespace MP
open PySem L2 PySem.Spec PyProof.Rows
def ddS {κ : Type} [DecidableEq κ] (acc : List κ) (k : κ) : List κ := if k ∈ acc then acc else acc ++ [k]
def dd {κ : Type} [DecidableEq κ] (l : List κ) : List κ := l.foldl ddS []
def mem1 {κ : Type} [DecidableEq κ] (l : List κ) (k : κ) : Bool := decide (k ∈ l)
section
variable {κ : Type} [DecidableEq κ]
theorem dd_snoc (l : List κ) (k : κ) : dd (l ++ [k]) = ddS (dd l) k := by simp [dd]
theorem ddS_len (l : List κ) (k : κ) : (ddS l k).length ≤ l.length + 1 := by unfold ddS; split <;> simp
theorem dd_len (l : List κ) : (dd l).length ≤ l.length := by
  have : ∀ (l acc : List κ), (l.foldl ddS acc).length ≤ acc.length + l.length := by
    intro l; induction l with
    | nil => intro acc; simp
    | cons k l ih => intro acc; have := ih (ddS acc k); have := ddS_len acc k; simp; omega
  have q := this l []
  simp only [List.length_nil, Nat.zero_add] at q
  exact q
theorem ddS_mem (l : List κ) (k j : κ) : mem1 (ddS l k) j = (mem1 l j || decide (j = k)) := by
  unfold ddS mem1
  by_cases h : k ∈ l
  · rw [if_pos h]
    by_cases e : j = k
    · subst e; simp [h]
    · simp [e]
  · rw [if_neg h]; simp
theorem ddS_count (l : List κ) (k : κ) : (ddS l k).length = if mem1 l k = true then l.length else l.length + 1 := by
  unfold ddS mem1
  by_cases h : k ∈ l <;> simp [h]
end
section
variable {prog : Program} {w : World} {A : Around} {R : Result → Shared → Prop} {it : Addr} {fp wr : List Addr} {G : Array GenState → Array GenState → Prop} {n : Nat} {P : Nat → Value → Prop} {St : Nat → Shared → Prop} {κ : Type} [DecidableEq κ] {knd : KeyKind prog w κ}
theorem set_stays {h h' : Heap} {a : Addr} {F : κ → Bool} {m : Nat} (x : h.SetOf knd a F m) (hk : ∀ o, h.get? a = some o → h'.get? a = some o) : h'.SetOf knd a F m := by
  obtain ⟨o, es, ep, tb, ho, rest⟩ := x
  exact ⟨o, es, ep, tb, hk o ho, rest⟩
theorem set_like {h : Heap} {a : Addr} {F F' : κ → Bool} {m m' : Nat} (x : h.SetOf knd a F m) (e : ∀ k, F k = F' k) (em : m = m') : h.SetOf knd a F' m' := by
  rw [← em, ← show F = F' from funext e]; exact x
theorem set_loop (W : WalksS prog w A.in1 it fp wr G n P St) (S : Addr) (nS : S ∉ fp) (ks : List κ) (hn : ks.length = n) (hv : ∀ i v, P i v → ∃ k, ks[i]? = some k ∧ knd.is k v = true ∧ v.scannable = true) (hb : n + 1 < scanBound) :
    ∀ (j i : Nat) (sh : Shared), n - i = j → i ≤ n → St i sh → sh.heap.SetOf knd S (mem1 (dd (ks.take i))) (dd (ks.take i)).length →
      (∀ s2, Moved (S :: wr) G sh s2 → s2.heap.SetOf knd S (mem1 (dd ks)) (dd ks).length → R (.ok (.ret .none)) s2) → codeAny (model prog w) A (.builtin "set.update.loop" ⟨[.ref S, .ref it], []⟩) R sh := by
  have nw : S ∉ wr := fun q => nS (W.sub _ q)
  have sb : ∀ b ∈ wr, b ∈ S :: wr := fun b q => List.mem_cons_of_mem _ q
  intro j
  induction j with
  | zero =>
    intro i sh hj hi st hS hR
    have ei : i = n := by omega
    subst ei
    rw [List.take_of_length_le (by omega)] at hS
    refine codeAny_builtin F.entry_set_update_loop ?_
    rw [Around.under_plainId F.plain_set_update_loop _]
    refine (show wpAny _ A.in1 (pyNext (.ref it) >>= _) _ _ sh from wpAny_bind (W.done sh _ _ st fun s2 mv => ?_))
    exact (show wpAny _ A.in1 (ret Value.none) _ _ s2 from wpAny_pure (hR s2 (mv.mono sb) (set_stays hS fun o ho => mv.heap S o nw ho)))
  | succ j ih =>
    intro i sh hj hi st hS hR
    have hlt : i < n := by omega
    refine codeAny_builtin F.entry_set_update_loop ?_
    rw [Around.under_plainId F.plain_set_update_loop _]
    refine (show wpAny _ A.in1 (pyNext (.ref it) >>= _) _ _ sh from wpAny_bind (W.item i sh _ _ hlt st fun v s2 hP st2 mv => ?_))
    obtain ⟨k, ek, isk, sck⟩ := hv i v hP
    have hS2 := set_stays hS (h' := s2.heap) fun o ho => mv.heap S o nw ho
    refine (show wpAny _ A.in1 (holding [v] (setAdd S v) >>= _) _ _ s2 from wpAny_bind (wpAny_holding ?_))
    unfold setAdd
    refine wpAny_holding (wpAny_bind (knd.pyHash isk ?_))
    have room : (dd (ks.take i)).length + 1 < scanBound := by
      have := dd_len (ks.take i)
      have := List.length_take_le i ks
      omega
    refine wpAny_setAddHashed_of (knd := knd) (s := { s2 with toks := s2.toks + 1 }) isk sck hS2 room fun h3 same hS3 => ?_
    have et : ks.take (i + 1) = ks.take i ++ [k] := by rw [List.take_succ, ek]; rfl
    have hS4 : h3.SetOf knd S (mem1 (dd (ks.take (i + 1)))) (dd (ks.take (i + 1))).length :=
      set_like hS3 (fun q => by rw [et, dd_snoc, ddS_mem]) (by rw [et, dd_snoc, ddS_count])
    refine wpAny_pure ⟨plainId_quiet F.plain_set_update_loop _, ih (i + 1) _ (by omega) hlt (W.frame _ s2 _ _ st2 (Nat.le_succ _) fun b hb o e => ?_) hS4 fun s5 mv5 hS5 => ?_⟩
    · rw [same.2 b (fun q => nS (by rw [← q]; exact hb))]; exact e
    · refine hR s5 (Moved.trans W.gtrans ((mv.mono sb).then_heap (Nat.le_succ _) fun b o hb e => ?_) mv5) hS5
      rw [same.2 b (fun q => hb (by rw [q]; exact List.mem_cons_self))]; exact e
end
section
variable {prog : Program} {w : World} {A : Around} {E : Value → Shared → Prop} {sh : Shared} {κ : Type} [DecidableEq κ] {knd : KeyKind prog w κ}
abbrev set0 (led : Bool) : Obj := { cls := .type "set", dict := none, data := .set #[] 0 (.fresh 0 0 led) }
theorem sub_tuple_set : isSubtype (.type "tuple") (.type "set") = pure false := by rw [isSubtype_type]; kernel_rfl
theorem sub_tuple_frozenset : isSubtype (.type "tuple") (.type "frozenset") = pure false := by rw [isSubtype_type]; kernel_rfl
theorem call_setList {l : Addr} {its : Array Value} {ks : List κ} {Q : Value → Shared → Prop} (hh : A.handled = none) (hl : sh.heap.IsList l its)
    (hn : ks.length = its.size) (hv : ∀ (i : Nat) (v : Value), its[i]? = some v → ∃ k, ks[i]? = some k ∧ knd.is k v = true ∧ v.scannable = true) (hb : its.size + 1 < scanBound)
    (hQ : ∀ (h' : Heap) (tk : Nat), h'.SetOf knd sh.heap.objs.size (mem1 (dd ks)) (dd ks).length → (∀ b o, b < sh.heap.objs.size → sh.heap.get? b = some o → h'.get? b = some o) → Q (.ref sh.heap.objs.size) { sh with heap := h', toks := tk }) :
    wpAny (model prog w) A (call (.type "set") [.ref l]) Q E sh := by
  obtain ⟨c0, tl0, hmro⟩ := F.called_set.mro
  have hmade := F.called_set.made
  have hsub := F.called_set.sub
  refine wpAny_call (codeAny_of_tree (show wpAny _ _ (callAny (.type "set") _) _ _ _ from wpAny_pure ⟨Code.quiet_builtin _ (by decide +kernel), codeAny_builtin F.entry_type_call ?_⟩))
  rw [Around.under_plain (weight_type_call_type "set" [.ref l] []) rfl]
  have h1 := F.called_set.notType
  have h2 := F.called_set.canCreate
  have hct := F.typeCall_set_1 (.ref l)
  repeat (any_goals (first | assumption | wp_step))
  refine codeAny_mono (code_set_new_1 (.ref l) (E := E) (Q₁ := fun ob s1 => ∃ led : Bool, ob = .ref sh.heap.objs.size ∧ s1 = { sh with heap := sh.heap.push (set0 led) }) fun led => ⟨led, rfl, rfl⟩) fun r s1 hr => ?_
  cases r with
  | error e => exact hr
  | ok fl =>
    cases fl with
    | ret ob =>
      obtain ⟨led, rfl, rfl⟩ := hr
      have hS : (sh.heap.push (set0 led)).get? sh.heap.objs.size = some (set0 led) := Heap.get?_push_size _ rfl
      have hT : Shared.TypeIs { sh with heap := sh.heap.push (set0 led) } (.ref sh.heap.objs.size) "set" := ⟨_, hS, rfl⟩
      have hli := F.called_set.init.lookup
      have hbi := F.called_set.init.bind (.ref sh.heap.objs.size)
      repeat (any_goals (first | assumption | wp_step))
      refine codeAny_mono (codeAny_call_builtin (R := wants (fun r s2 => r = .none ∧ ∃ h' tk, s2 = { sh with heap := h', toks := tk } ∧ h'.SetOf knd sh.heap.objs.size (mem1 (dd ks)) (dd ks).length ∧
          (∀ b o, b < sh.heap.objs.size → sh.heap.get? b = some o → h'.get? b = some o)) E) F.called_set.init.plain F.entry_set_init (check_set_init_1 hT ?_)) fun r2 s2 hr2 => ?_
      · obtain ⟨ol, hol, hcl, nl, hdl⟩ := hl
        obtain ⟨ocls, odict, odata, oslots⟩ := ol
        simp only at hcl hdl
        subst hcl; subst hdl
        have hol' : (sh.heap.push (set0 led)).get? l = some { cls := .type "list", dict := odict, data := .seq its nl, slots := oslots } := Heap.get?_push_of_some _ hol
        have hsls := F.sub_list_set
        have hslf := F.sub_list_frozenset
        have hne : (Value.type "list" == Value.type "dict") = false := by decide
        have hl1 : (sh.heap.push (set0 led)).IsList l its := ⟨_, hol', rfl, nl, rfl⟩
        unfold Builtin.«set.__init__» noKeywords Builtin.Frozenset.updateFrom
        generalize hPI : pyIter = PI
        wp_walk
        subst hPI
        refine wpAny_pyIter_list hl1 (wpAny_bind (wpAny_runValue ?_))
        have hlS : l < sh.heap.objs.size := Heap.lt_size hol
        have hh3 : A.in1.in1.in1.handled = none := by simp [hh]
        have hz : (sh.heap.push (set0 led)).objs.size = sh.heap.objs.size + 1 := Heap.size_push ..
        have hneI : l ≠ (sh.heap.push (set0 led)).objs.size := by rw [hz]; exact Nat.ne_of_lt (Nat.lt_succ_of_lt hlS)
        have hSf : sh.heap.objs.size ∉ [(sh.heap.push (set0 led)).objs.size, l] := by
          rw [hz]; simp only [List.mem_cons, List.mem_singleton, List.not_mem_nil, or_false, not_or]
          exact ⟨Nat.ne_of_lt (Nat.lt_succ_self _), Nat.ne_of_gt hlS⟩
        refine set_loop ((Walks.list hh3 _ l hneI its).toS) sh.heap.objs.size hSf ks hn hv hb (its.size - 0) 0 _ (by omega) (Nat.zero_le _) ⟨⟨_, Heap.get?_push_size _ rfl, rfl, rfl⟩, (hl1.push _)⟩ ?hS0 ?hR
        case hS0 =>
          have hget : ((sh.heap.push (set0 led)).push { cls := .type "list_iterator", data := .fields #[.ref l, .int 0 0] }).get? sh.heap.objs.size = some (set0 led) := Heap.get?_push_of_some _ hS
          exact set_like ((setObjOf_fresh (knd := knd) led).setOf hget (by unfold scanBound; omega)) (fun k => by simp [dd, mem1]) (by simp [dd])
        case hR =>
          intro s3 hm hS3
          obtain ⟨h3, g3, d3, tk3, os3⟩ := s3
          have eg : g3 = sh.gens := hm.gens
          have ed : d3 = sh.drawn := hm.drawn
          have eo : os3 = sh.os := hm.os
          subst eg; subst ed; subst eo
          refine (show wpAny _ _ _ _ _ _ from wpAny_pure (show wpAny _ _ (ret Value.none) _ _ _ from wpAny_pure ⟨rfl, h3, tk3, rfl, hS3, fun b o hb e => ?_⟩))
          have hb1 : b ≠ sh.heap.objs.size := Nat.ne_of_lt hb
          have hb2 : b ≠ (sh.heap.push (set0 led)).objs.size := by rw [hz]; exact Nat.ne_of_lt (Nat.lt_succ_of_lt hb)
          exact hm.heap b o (by simp only [List.mem_cons, List.mem_singleton, List.not_mem_nil, or_false, not_or]; exact ⟨hb1, hb2⟩) (Heap.get?_push_of_some _ (Heap.get?_push_of_some _ e))
      · cases r2 with
        | error e => exact hr2
        | ok fl2 =>
          cases fl2 with
          | ret r =>
            obtain ⟨rfl, h', tk, rfl, hS', hk'⟩ := hr2
            repeat (any_goals (first | assumption | wp_step))
            exact hQ _ _ hS' hk'
          | _ => exact hr2.elim
    | _ => exact hr.elim
theorem call_setTuple {l : Addr} {its : Array Value} {ks : List κ} {Q : Value → Shared → Prop} (hh : A.handled = none) (hl : sh.heap.IsTuple l its)
    (hn : ks.length = its.size) (hv : ∀ (i : Nat) (v : Value), its[i]? = some v → ∃ k, ks[i]? = some k ∧ knd.is k v = true ∧ v.scannable = true) (hb : its.size + 1 < scanBound)
    (hQ : ∀ (h' : Heap) (tk : Nat), h'.SetOf knd sh.heap.objs.size (mem1 (dd ks)) (dd ks).length → (∀ b o, b < sh.heap.objs.size → sh.heap.get? b = some o → h'.get? b = some o) → Q (.ref sh.heap.objs.size) { sh with heap := h', toks := tk }) :
    wpAny (model prog w) A (call (.type "set") [.ref l]) Q E sh := by
  obtain ⟨c0, tl0, hmro⟩ := F.called_set.mro
  have hmade := F.called_set.made
  have hsub := F.called_set.sub
  refine wpAny_call (codeAny_of_tree (show wpAny _ _ (callAny (.type "set") _) _ _ _ from wpAny_pure ⟨Code.quiet_builtin _ (by decide +kernel), codeAny_builtin F.entry_type_call ?_⟩))
  rw [Around.under_plain (weight_type_call_type "set" [.ref l] []) rfl]
  have h1 := F.called_set.notType
  have h2 := F.called_set.canCreate
  have hct := F.typeCall_set_1 (.ref l)
  repeat (any_goals (first | assumption | wp_step))
  refine codeAny_mono (code_set_new_1 (.ref l) (E := E) (Q₁ := fun ob s1 => ∃ led : Bool, ob = .ref sh.heap.objs.size ∧ s1 = { sh with heap := sh.heap.push (set0 led) }) fun led => ⟨led, rfl, rfl⟩) fun r s1 hr => ?_
  cases r with
  | error e => exact hr
  | ok fl =>
    cases fl with
    | ret ob =>
      obtain ⟨led, rfl, rfl⟩ := hr
      have hS : (sh.heap.push (set0 led)).get? sh.heap.objs.size = some (set0 led) := Heap.get?_push_size _ rfl
      have hT : Shared.TypeIs { sh with heap := sh.heap.push (set0 led) } (.ref sh.heap.objs.size) "set" := ⟨_, hS, rfl⟩
      have hli := F.called_set.init.lookup
      have hbi := F.called_set.init.bind (.ref sh.heap.objs.size)
      repeat (any_goals (first | assumption | wp_step))
      refine codeAny_mono (codeAny_call_builtin (R := wants (fun r s2 => r = .none ∧ ∃ h' tk, s2 = { sh with heap := h', toks := tk } ∧ h'.SetOf knd sh.heap.objs.size (mem1 (dd ks)) (dd ks).length ∧
          (∀ b o, b < sh.heap.objs.size → sh.heap.get? b = some o → h'.get? b = some o)) E) F.called_set.init.plain F.entry_set_init (check_set_init_1 hT ?_)) fun r2 s2 hr2 => ?_
      · obtain ⟨ol, hol, hcl, nl, hdl⟩ := hl
        obtain ⟨ocls, odict, odata, oslots⟩ := ol
        simp only at hcl hdl
        subst hcl; subst hdl
        have hol' : (sh.heap.push (set0 led)).get? l = some { cls := .type "tuple", dict := odict, data := .seq its nl, slots := oslots } := Heap.get?_push_of_some _ hol
        have hsls := sub_tuple_set
        have hslf := sub_tuple_frozenset
        have hne : (Value.type "tuple" == Value.type "dict") = false := by decide
        have hl1 : (sh.heap.push (set0 led)).IsTuple l its := ⟨_, hol', rfl, nl, rfl⟩
        unfold Builtin.«set.__init__» noKeywords Builtin.Frozenset.updateFrom
        generalize hPI : pyIter = PI
        wp_walk
        subst hPI
        refine wpAny_pyIter_tuple hl1 (wpAny_bind (wpAny_runValue ?_))
        have hlS : l < sh.heap.objs.size := Heap.lt_size hol
        have hh3 : A.in1.in1.in1.handled = none := by simp [hh]
        have hz : (sh.heap.push (set0 led)).objs.size = sh.heap.objs.size + 1 := Heap.size_push ..
        have hneI : l ≠ (sh.heap.push (set0 led)).objs.size := by rw [hz]; exact Nat.ne_of_lt (Nat.lt_succ_of_lt hlS)
        have hSf : sh.heap.objs.size ∉ [(sh.heap.push (set0 led)).objs.size, l] := by
          rw [hz]; simp only [List.mem_cons, List.mem_singleton, List.not_mem_nil, or_false, not_or]
          exact ⟨Nat.ne_of_lt (Nat.lt_succ_self _), Nat.ne_of_gt hlS⟩
        refine set_loop ((Walks.tuple hh3 _ l hneI its).toS) sh.heap.objs.size hSf ks hn hv hb (its.size - 0) 0 _ (by omega) (Nat.zero_le _) ⟨⟨_, Heap.get?_push_size _ rfl, rfl, rfl⟩, (hl1.push _)⟩ ?hS0 ?hR
        case hS0 =>
          have hget : ((sh.heap.push (set0 led)).push { cls := .type "tuple_iterator", data := .fields #[.ref l, .int 0 0] }).get? sh.heap.objs.size = some (set0 led) := Heap.get?_push_of_some _ hS
          exact set_like ((setObjOf_fresh (knd := knd) led).setOf hget (by unfold scanBound; omega)) (fun k => by simp [dd, mem1]) (by simp [dd])
        case hR =>
          intro s3 hm hS3
          obtain ⟨h3, g3, d3, tk3, os3⟩ := s3
          have eg : g3 = sh.gens := hm.gens
          have ed : d3 = sh.drawn := hm.drawn
          have eo : os3 = sh.os := hm.os
          subst eg; subst ed; subst eo
          refine (show wpAny _ _ _ _ _ _ from wpAny_pure (show wpAny _ _ (ret Value.none) _ _ _ from wpAny_pure ⟨rfl, h3, tk3, rfl, hS3, fun b o hb e => ?_⟩))
          have hb1 : b ≠ sh.heap.objs.size := Nat.ne_of_lt hb
          have hb2 : b ≠ (sh.heap.push (set0 led)).objs.size := by rw [hz]; exact Nat.ne_of_lt (Nat.lt_succ_of_lt hb)
          exact hm.heap b o (by simp only [List.mem_cons, List.mem_singleton, List.not_mem_nil, or_false, not_or]; exact ⟨hb1, hb2⟩) (Heap.get?_push_of_some _ (Heap.get?_push_of_some _ e))
      · cases r2 with
        | error e => exact hr2
        | ok fl2 =>
          cases fl2 with
          | ret r =>
            obtain ⟨rfl, h', tk, rfl, hS', hk'⟩ := hr2
            repeat (any_goals (first | assumption | wp_step))
            exact hQ _ _ hS' hk'
          | _ => exact hr2.elim
    | _ => exact hr.elim
end
def keysOf : List PV → Option (List Key)
  | [] => some []
  | p :: r => match keyOf p, keysOf r with
    | some k, some ks => some (k :: ks)
    | _, _ => none
theorem keysOf_at {K : PySem.W.Frag} {H : Hp} {μ : Mu} : ∀ {ps : List PV} {vs : List V} {ks : List Key}, VRs K H μ ps vs → keysOf ps = some ks → vs = ks.map kV
  | [], vs, ks, r, h => by cases h; exact r
  | p :: ps, vs, ks, r, h => by
    obtain ⟨v, t, rfl, r1, r2⟩ := (show ∃ v t, vs = v :: t ∧ VR K H μ p v ∧ VRs K H μ ps t from r)
    unfold keysOf at h
    cases q1 : keyOf p with
    | none => rw [q1] at h; cases h
    | some k =>
      cases q2 : keysOf ps with
      | none => rw [q1, q2] at h; cases h
      | some cs =>
        rw [q1, q2] at h
        cases h
        rw [List.map_cons, keysOf_at r2 q2, keyOf_kV q1 r1]
def lenSetM (x : PV) : M PV := fun st => match seqOf x st with
  | some xs => match keysOf xs with
    | some ks => if ks.length ≤ 1000 then .ok (.int ((dd ks).length : Nat)) st else .bad
    | none => .bad
  | none => .bad
theorem keys_items {ks : List Key} {us : List Value} (r : Vals (ks.map kV) us) {P : Program} {w : World} : ∀ (i : Nat) (v : Value), us.toArray[i]? = some v → ∃ k, ks[i]? = some k ∧ (mixKind P w).is k v = true ∧ v.scannable = true := by
  intro i v h
  have h' : us[i]? = some v := by simpa using h
  have hl := r.length
  rw [List.length_map] at hl
  have hi : i < ks.length := by rw [hl]; exact (List.getElem?_eq_some_iff.mp h').1
  obtain ⟨u, e1, e2⟩ := r.get (show (ks.map kV)[i]? = some (kV ks[i]) by simp [hi])
  have eu : u = v := Option.some.inj (e1.symm.trans h')
  subst eu
  exact ⟨ks[i], by simp [hi], kV_is e2, key_scan e2⟩
section
variable {X : Cx} {W : WX} {a : Expr} {ma : Rho → M PV} {p p2 q pos : Pos}
def tLenSetK (K : PySem.W.Frag) (ta : TE) : TE := fun σ H Q => ta σ H fun x H1 => ∃ (l : Addr) (ks : List Key), x = V.ref l ∧ (SqL K H1 l (ks.map kV) ∨ SqT K H1 l (ks.map kV)) ∧ ks.length ≤ 1000 ∧ Q (.int ((dd ks).length : Nat)) H1
theorem pe_lenSetK {ta : TE} (hc : X.calm = true) (hg : Gl X "len") (hm : X.mg "len" = none) (hg2 : Gl X "set") (hm2 : X.mg "set" = none) (ha : PE X a ta) (na : starEach [a] X.env = (false, eval a X.env) :: starEach [] X.env)
    (nb : starEach [.Call (.Name "set" p2) [a] [] q] X.env = (false, eval (.Call (.Name "set" p2) [a] [] q) X.env) :: starEach [] X.env) : PE X (.Call (.Name "len" p) [.Call (.Name "set" p2) [a] [] q] [] pos) (tLenSetK X.K ta) := by
  refine ⟨fun pins s σ H Q I h => Call_ (ld_blt I hg hm PySem.boot_len (callWith_builtin1 (args_cons (Call_ (ld_blt I hg2 hm2 boot_set ?_)) nb) nb rfl))⟩
  refine callWith_type1 (args_cons (thn (ha.run pins s σ H _ I h) fun v s1 ⟨x, H1, I1, r1, q1⟩ => args_nil ?_) na) na rfl
  obtain ⟨l, ks, rfl, hq, h1, q1⟩ := q1
  cases r1
  have fin : ∀ (h' : Heap) (tk : Nat), h'.SetOf (mixKind X.prog X.w) s1.heap.objs.size (mem1 (dd ks)) (dd ks).length → (∀ b o, b < s1.heap.objs.size → s1.heap.get? b = some o → h'.get? b = some o) →
      wpAny (model X.prog X.w) X.A (call (.builtin "len") [.ref s1.heap.objs.size]) (EP X pins σ Q) X.xe { s1 with heap := h', toks := tk } := fun h' tk hS hk => by
    obtain ⟨o, es, ep, t, ho, hex, hd, _, _, hsz, hf, hn⟩ := hS
    have I2 : Inv X pins σ H1 { s1 with heap := h', toks := tk } := I1.kept fun b o e => hk b o (Heap.lt_size e) e
    have := dd_len ks
    exact call_len_set ho hex hd hf (by rw [hn]; omega) ⟨.int ((dd ks).length : Nat), H1, I2.tok _, ⟨_, by rw [hn]⟩, q1⟩
  rcases hq with hq | hq
  · obtain ⟨its, r, pl, hz⟩ := I1.list hq
    have hl : its.toArray.size = ks.length := by rw [List.size_toArray, ← r.length, List.length_map]
    exact call_setList (I1.ok.hd hc) pl.isList hl.symm (keys_items r) (by rw [hl]; unfold scanBound; omega) fun h' tk hS hk => args_nil (fin h' tk hS hk)
  · obtain ⟨its, r, pl, hz⟩ := I1.tuple hq
    have hl : its.toArray.size = ks.length := by rw [List.size_toArray, ← r.length, List.length_map]
    exact call_setTuple (I1.ok.hd hc) pl hl.symm (keys_items r) (by rw [hl]; unfold scanBound; omega) fun h' tk hS hk => args_nil (fin h' tk hS hk)
theorem me_lenSet (hc : X.calm = true) (hg : Gl X "len") (hm : X.mg "len" = none) (hg2 : Gl X "set") (hm2 : X.mg "set" = none) (ha : ME X W a ma) (na : starEach [a] X.env = (false, eval a X.env) :: starEach [] X.env := by kernel_rfl)
    (nb : starEach [.Call (.Name "set" p2) [a] [] q] X.env = (false, eval (.Call (.Name "set" p2) [a] [] q) X.env) :: starEach [] X.env := by kernel_rfl) : ME X W (.Call (.Name "len" p) [.Call (.Name "set" p2) [a] [] q] [] pos) (eUn lenSetM ma) :=
  PE.imp (pe_lenSetK hc hg hm hg2 hm2 ha na nb) fun σ H Q ⟨μ, st, ρ, er, sr, h⟩ => ⟨μ, st, ρ, er, sr, (PostG.bind h).mono fun u H1 ⟨μ1, st1, x, g1, s1, rx, h1⟩ => by
    unfold lenSetM at h1
    cases q1 : seqOf x st1 with
    | none => rw [q1] at h1; exact h1.elim
    | some xs =>
      rw [q1] at h1
      dsimp only at h1
      cases q2 : keysOf xs with
      | none => rw [q2] at h1; exact h1.elim
      | some ks =>
        rw [q2] at h1
        dsimp only at h1
        by_cases hk : ks.length ≤ 1000
        · rw [if_pos hk] at h1
          obtain ⟨l, vs, rfl, hq, rs⟩ := seqOf_at s1 rx q1
          have ev := keysOf_at rs q2
          subst ev
          exact ⟨l, ks, rfl, hq, hk, post_same h1 s1 rfl⟩
        · rw [if_neg hk] at h1; exact h1.elim⟩
end
end MP

set_option maxRecDepth 100000
set_option maxHeartbeats 1000000
namespace MP
open PySem L2 PySem.Spec PyProof.Rows
theorem ofString_inj {a b : String} (h : Str.ofString a = Str.ofString b) : a = b := by
  have e : (Str.ofString a).cps.toList = (Str.ofString b).cps.toList := by rw [h]
  rw [signs_ofString, signs_ofString] at e
  have inj : ∀ (x y : List Char), x.map Char.toNat = y.map Char.toNat → x = y := by
    intro x
    induction x with
    | nil => intro y h; cases y with
      | nil => rfl
      | cons c y => cases h
    | cons c x ih => intro y h; cases y with
      | nil => cases h
      | cons d y =>
        rw [List.map_cons, List.map_cons] at h
        injection h with h1 h2
        rw [ih y h2, Char.ext (UInt32.toNat_inj.mp h1)]
  exact String.toList_inj.mp (inj _ _ e)
def lookA : List (String × PV) → String → Option PV
  | [], _ => none
  | p :: r, f => if p.1 = f then some p.2 else lookA r f
def putA (f : String) (v : PV) : List (String × PV) → List (String × PV)
  | [] => [(f, v)]
  | p :: r => if p.1 = f then (p.1, v) :: r else p :: putA f v r
section
variable {K : PySem.W.Frag} {H : Hp} {μ : Mu}
theorem FRs.look {f : String} : ∀ {fs : List (String × PV)} {fv : List (Str × V)}, FRs K H μ fs fv → (∀ p, lookA fs f = some p → ∃ v, fv.lookup (Str.ofString f) = some v ∧ VR K H μ p v) ∧ (lookA fs f = none → fv.lookup (Str.ofString f) = none)
  | [], fv, h => by
    have e : fv = [] := h
    subst e
    exact ⟨fun p q => (nomatch q), fun _ => rfl⟩
  | p :: r, fv, h => by
    obtain ⟨v, t, rfl, rv, rt⟩ := h
    unfold lookA
    rw [List.lookup_cons]
    by_cases e : p.1 = f
    · subst e
      rw [if_pos rfl, beq_self_eq_true]
      exact ⟨fun q hq => by cases hq; exact ⟨v, rfl, rv⟩, fun hq => (nomatch hq)⟩
    · have e' : (Str.ofString f == Str.ofString p.1) = false := beq_eq_false_iff_ne.mpr fun q => e (ofString_inj q).symm
      rw [if_neg e, e']
      exact FRs.look rt
theorem FRs.put {f : String} {p : PV} {v : V} (rv : VR K H μ p v) : ∀ {fs : List (String × PV)} {fv : List (Str × V)}, FRs K H μ fs fv → FRs K H μ (putA f p fs) (putF (Str.ofString f) v fv)
  | [], fv, h => by
    have e : fv = [] := h
    subst e
    exact ⟨v, [], rfl, rv, rfl⟩
  | q :: r, fv, h => by
    obtain ⟨w, t, rfl, rw', rt⟩ := h
    unfold putA putF
    by_cases e : q.1 = f
    · subst e
      rw [if_pos rfl, if_pos rfl]
      exact ⟨v, t, rfl, rv, rt⟩
    · have e' : ¬ Str.ofString q.1 = Str.ofString f := fun z => e (ofString_inj z)
      rw [if_neg e, if_neg e']
      exact ⟨w, _, rfl, rw', FRs.put rv rt⟩
theorem FRs.length : ∀ {fs : List (String × PV)} {fv : List (Str × V)}, FRs K H μ fs fv → fs.length = fv.length
  | [], fv, h => by have e : fv = [] := h; subst e; rfl
  | q :: r, fv, h => by obtain ⟨w, t, rfl, _, rt⟩ := h; rw [List.length_cons, List.length_cons, FRs.length rt]
end
def attrM (cs : List String) (f : String) (x : PV) : M PV := fun st => match x with
  | .loc n => match st[n]? with
    | some (.ins c fs) => if c ∈ cs then (match lookA fs f with
      | some v => .ok v st
      | none => .bad) else .bad
    | _ => .bad
  | _ => .bad
def AttrOk (K : PySem.W.Frag) (cs : List String) (f : String) : Prop := ∀ c ∈ cs, ∀ C, ClsIn K c C → Cls K C ∧ NoAttr K C (Str.ofString f)
section
variable {X : Cx} {W : WX} {e o value : Expr} {pos p' : Pos} {me mo mv : Rho → M PV} {cs : List String} {f : String}
theorem me_attr (hc : AttrOk X.K cs f) (he : ME X W e me) (hb : attributeBase e (Str.ofString f) X.env (eval e X.env) = eval e X.env := by kernel_rfl) : ME X W (.Attribute e (Str.ofString f) pos) (eUn (attrM cs f) me) :=
  PE.imp (pe_fld he hb) fun σ H Q ⟨μ, st, ρ, er, sr, h⟩ => ⟨μ, st, ρ, er, sr, (PostG.bind h).mono fun u H1 ⟨μ1, st1, x, g1, s1, rx, h1⟩ => by
    unfold attrM at h1
    cases x with
    | loc n =>
      obtain ⟨a, rfl, ha⟩ := loc_at rx
      dsimp only at h1
      cases q : st1[n]? with
      | none => rw [q] at h1; exact h1.elim
      | some c =>
        rw [q] at h1
        cases c with
        | lst xs => exact h1.elim
        | dct xs => exact h1.elim
        | dcl kvs => exact h1.elim
        | dcn kvs => exact h1.elim
        | lck kvs => exact h1.elim
        | ins c fs =>
          dsimp only at h1
          by_cases hcs : c ∈ cs
          · rw [if_pos hcs] at h1
            obtain ⟨C, dx, fv, hC, eh, rf⟩ := s1.cell n _ a q ha
            obtain ⟨k1, k2⟩ := hc c hcs C hC
            cases hl : lookA fs f with
            | none => rw [hl] at h1; exact h1.elim
            | some p =>
              rw [hl] at h1
              obtain ⟨v, e1, rv⟩ := rf.look.1 p hl
              exact ⟨a, C, dx, fv, v, rfl, eh, k1, k2, e1, post_same h1 s1 rv⟩
          · rw [if_neg hcs] at h1; exact h1.elim
    | _ => exact h1.elim⟩
def setA (cs : List String) (f : String) (y x : PV) : M Unit := fun st => match x with
  | .loc n => match st[n]? with
    | some (.ins c fs) => if c ∈ cs ∧ fs.length < 1000 then .ok () (st.set n (.ins c (putA f y fs))) else .bad
    | _ => .bad
  | _ => .bad
def sAttr (cs : List String) (f : String) (mo mv : Rho → M PV) : Rho → M Fl := fun ρ => onErr ρ (mv ρ) fun y => onErr ρ (mo ρ) fun x => onErr ρ (setA cs f y x) fun _ => M.ret (.next ρ)
theorem ms_attr (hc : AttrOk X.K cs f) (ho : ME X W o mo) (hv : ME X W value mv) (hs : swapsWith value (some (.Attribute o (Str.ofString f) p')) pos.line X.env = pure false := by kernel_rfl) : MS X W (.Assign [.Attribute o (Str.ofString f) p'] value pos) (sAttr cs f mo mv) :=
  PS.imp (ps_fld ho hv hs) fun D σ H ⟨μ, st, ρ, er, sr, h⟩ => ⟨μ, st, ρ, er, sr, (PostS.onErr h er).mono fun u H1 ⟨μ1, st1, y, g1, s1, ry, h1⟩ =>
    ⟨μ1, st1, ρ, er.mono g1, s1, (PostS.onErr h1 (er.mono g1)).mono fun w H2 ⟨μ2, st2, x, g2, s2, rx, h2⟩ => by
      unfold onErr setA at h2
      cases x with
      | loc n =>
        obtain ⟨a, rfl, ha⟩ := loc_at rx
        dsimp only at h2
        cases q : st2[n]? with
        | none => rw [q] at h2; exact h2.elim
        | some c =>
          rw [q] at h2
          cases c with
          | lst xs => exact h2.elim
          | dct xs => exact h2.elim
          | dcl kvs => exact h2.elim
          | dcn kvs => exact h2.elim
          | lck kvs => exact h2.elim
          | ins c fs =>
            dsimp only at h2
            by_cases hcs : c ∈ cs ∧ fs.length < 1000
            · rw [if_pos hcs] at h2
              obtain ⟨C, dx, fv, hC, eh, rf⟩ := s2.cell n _ a q ha
              obtain ⟨k1, k2⟩ := hc c hcs.1 C hC
              have gp : Gr μ2 H2 μ2 (upd H2 a (.ins C dx (putF (Str.ofString f) u fv))) := gr_put ha eh rfl
              refine ⟨a, C, dx, fv, rfl, eh, k1, k2, by rw [← rf.length]; exact hcs.2, ?_⟩
              refine h2 μ2 _ σ gp (s2.put ha ⟨C, dx, _, hC, upd_same, FRs.mono gp.v _ _ (rf.put (VR.mono g2 _ _ ry))⟩) ((er.mono g1).mono g2 |>.mono gp)
            · rw [if_neg hcs] at h2; exact h2.elim
      | _ => exact h2.elim⟩⟩
end
def insC (c m : String) (o : PV) : M Unit := fun st => match o with
  | .loc n => match st[n]? with
    | some (.ins c' fs) => if c' = c ∧ lookA fs m = none then .ok () st else .bad
    | _ => .bad
  | _ => .bad
def eMth (c m : String) (mf : List PV → M PV) (mo : Rho → M PV) (ma : Rho → M (List PV)) : Rho → M PV := fun ρ => M.bind (mo ρ) fun o => M.bind (insC c m o) fun _ => M.bind (ma ρ) fun xs => mf (o :: xs)
section
variable {X : Cx} {W : WX} {e o : Expr} {es : List Expr} {pos apos : Pos} {mo : Rho → M PV} {ma : Rho → M (List PV)} {c m : String} {C f : Addr} {fd : FuncData} {ps : List Str} {k n : Nat} {mf : List PV → M PV}
theorem ins_at {E : XK} {Q : VK} {α : Type} {μ : Mu} {H : Hp} {st : Sto} {x : PV} {u : V} {g : Unit → M PV} (hC : ClsIn X.K c C) (sr : SR (kw X) μ st H) (rx : VR X.K H μ x u) (h : PostG (kw X) E (VR X.K) Q μ H (M.bind (insC c m x) g st)) :
    ∃ a dx fs, u = .ref a ∧ H a = some (.ins C dx fs) ∧ fs.lookup (Str.ofString m) = none ∧ PostG (kw X) E (VR X.K) Q μ H (g () st) := by
  unfold M.bind insC at h
  cases x with
  | loc n =>
    obtain ⟨a, rfl, ha⟩ := loc_at rx
    dsimp only at h
    cases q : st[n]? with
    | none => rw [q] at h; exact h.elim
    | some cc =>
      rw [q] at h
      cases cc with
      | lst xs => exact h.elim
      | dct xs => exact h.elim
      | dcl kvs => exact h.elim
      | dcn kvs => exact h.elim
      | lck kvs => exact h.elim
      | ins c' fs =>
        dsimp only at h
        by_cases hcs : c' = c ∧ lookA fs m = none
        · rw [if_pos hcs] at h
          obtain ⟨C', dx, fv, hC', eh, rf⟩ := sr.cell n _ a q ha
          rw [hcs.1] at hC'
          have ee := hC.one hC'
          subst ee
          exact ⟨a, dx, fv, rfl, eh, rf.look.2 hcs.2, h⟩
        · rw [if_neg hcs] at h; exact h.elim
  | _ => exact h.elim
theorem me_mth {pl : Sem Bool} (cl : Cls X.K C) (hC : ClsIn X.K c C) (hm : Meth X.K C (Str.ofString m) f) (F : FnOk X.prog X.w X.K X.mg X.base (L2.CX X.prog X.w) k f fd ps (spM (kw X) mf (n + 1))) (hr : Room k X.A) (hb : Binds X.K fd ps []) (tk : Takes X W)
    (ho : ME X W o mo) (ha : MA X W (e :: es) ma) (hl : aLen n ma) (hst : starEach (e :: es) X.env = (false, eval e X.env) :: starEach es X.env := by kernel_rfl) (hpl : (backTo pos (starEach es X.env)).any (·.1) = false := by kernel_rfl)
    (ht : eval (.Call (.Attribute o (Str.ofString m) apos) (e :: es) [] pos) X.env = (do
      let ov ← eval o X.env
      standAt apos.atName
      let (f, first) ← holding [ov] (getMethod ov (Str.ofString m) pl)
      callWith pos f first (backTo pos (starEach (e :: es) X.env)) (backToKw pos (keywordEach [] X.env))) := by rfl) :
    ME X W (.Call (.Attribute o (Str.ofString m) apos) (e :: es) [] pos) (eMth c m mf mo ma) := by
  refine PE.imp (t := fun σ H Q => tM (kw X) W mo σ H fun x H1 => ∃ a dx fs, x = .ref a ∧ H1 a = some (.ins C dx fs) ∧ fs.lookup (Str.ofString m) = none ∧ tMA (kw X) W ma σ H1 fun vs H2 => spM (kw X) mf (n + 1) (x :: vs) H2 Q (WE W σ)) ⟨fun pins s σ H Q I h => ?_⟩ fun σ H Q ⟨μ, st, ρ, er, sr, h⟩ => ?_
  · refine PySem.W.methodCall_KW (pl := pl) (thn (ho.run pins s σ H _ I h) fun u s1 ⟨x, H1, I1, rx, a, dx, fs, ex, ea, l, q⟩ => ?_) ht
    subst ex
    cases (show u = Value.ref a from rx)
    refine getmeth_ok I1 ea cl hm l (PySem.W.callWith_K (first := [.ref a]) (h₀ := X.base) I.ok.mod.kin hm.kp (thn (ha.run pos pins s1 σ H1 _ I1 q) fun us s2 ⟨vs, H2, I2, r, q2⟩ => ⟨I2.kIn, ?_⟩) hst hpl)
    exact run_fnSD (us := .ref a :: us) (vs := .ref a :: vs) (dvs := []) (ds := []) (E := WE W) F hr hb .nil (passAt tk σ) I2 (.cons rfl r) (by rw [List.append_nil]; exact q2)
  · refine ⟨μ, st, ρ, er, sr, (PostG.bind h).mono fun u H1 ⟨μ1, st1, x, g1, s1, rx, h1⟩ => ?_⟩
    obtain ⟨a, dx, fs, e1, e2, e3, h2⟩ := ins_at (α := PV) hC s1 rx h1
    exact ⟨a, dx, fs, e1, e2, e3, μ1, st1, ρ, er.mono g1, s1, PostG.lens hl ((PostG.bind h2).mono fun us H2 ⟨μ2, st2, xs, g2, s2, ⟨rxs, hn⟩, h3⟩ => ⟨μ2, st2, x :: xs, s2, VRs.cons (VR.mono g2 _ _ rx) rxs, by rw [List.length_cons, hn], h3⟩)⟩
theorem me_mth0 {pl : Sem Bool} (cl : Cls X.K C) (hC : ClsIn X.K c C) (hm : Meth X.K C (Str.ofString m) f) (F : FnOk X.prog X.w X.K X.mg X.base (L2.CX X.prog X.w) k f fd ps (spM (kw X) mf 1)) (hr : Room k X.A) (hb : Binds X.K fd ps []) (tk : Takes X W)
    (ho : ME X W o mo)
    (ht : eval (.Call (.Attribute o (Str.ofString m) apos) [] [] pos) X.env = (do
      let ov ← eval o X.env
      standAt apos.atName
      let (f, first) ← holding [ov] (getMethod ov (Str.ofString m) pl)
      callWith pos f first (backTo pos (starEach [] X.env)) (backToKw pos (keywordEach [] X.env))) := by rfl) :
    ME X W (.Call (.Attribute o (Str.ofString m) apos) [] [] pos) (eMth c m mf mo aNil) := by
  refine PE.imp (t := fun σ H Q => tM (kw X) W mo σ H fun x H1 => ∃ a dx fs, x = .ref a ∧ H1 a = some (.ins C dx fs) ∧ fs.lookup (Str.ofString m) = none ∧ spM (kw X) mf 1 [x] H1 Q (WE W σ)) ⟨fun pins s σ H Q I h => ?_⟩ fun σ H Q ⟨μ, st, ρ, er, sr, h⟩ => ?_
  · refine PySem.W.methodCall_KW (pl := pl) (thn (ho.run pins s σ H _ I h) fun u s1 ⟨x, H1, I1, rx, a, dx, fs, ex, ea, l, q⟩ => ?_) ht
    subst ex
    cases (show u = Value.ref a from rx)
    exact getmeth_ok I1 ea cl hm l (PySem.W.callWith_K0 (first := [.ref a]) I1.kIn hm.kp (run_fnSD (us := [.ref a]) (vs := [.ref a]) (dvs := []) (ds := []) (E := WE W) F hr hb .nil (passAt tk σ) I1 (.cons rfl .nil) q))
  · refine ⟨μ, st, ρ, er, sr, (PostG.bind h).mono fun u H1 ⟨μ1, st1, x, g1, s1, rx, h1⟩ => ?_⟩
    obtain ⟨a, dx, fs, e1, e2, e3, h2⟩ := ins_at (α := PV) hC s1 rx h1
    exact ⟨a, dx, fs, e1, e2, e3, μ1, st1, [x], s1, VRs.cons rx VRs.nil, rfl, h2⟩
def mkIns (c : String) (mf : List PV → M PV) (xs : List PV) : M PV := fun st => match mf (.loc st.length :: xs) (st ++ [.ins c []]) with
  | .ok .non st' => .ok (.loc st.length) st'
  | _ => .bad
theorem new_at {E : XK} {Q : VK} {μ : Mu} {H : Hp} {st : Sto} {xs : List PV} {vs : List V} (hC : ClsIn X.K c C) (sr : SR (kw X) μ st H) (rs : VRs X.K H μ xs vs) (hn : xs.length = n) (h : PostG (kw X) E (VR X.K) Q μ H (mkIns c mf xs st)) :
    ∀ x dx, H x = none → H dx = none → dx ≠ x → spM (kw X) mf (n + 1) (.ref x :: vs) (upd (upd H dx (.own x)) x (.ins C dx [])) (fun v H2 => v = .non ∧ Q (.ref x) H2) (fun _ _ _ => False) := by
  intro x dx hx hd hne
  have g1 : Gr μ H μ (upd H dx (.own x)) := gr_new hd
  have s1 := sr.new (o := .own x) hd
  have hx1 : upd H dx (.own x) x = none := by rw [upd_ne (fun q => hne q.symm)]; exact hx
  have g2 : Gr μ (upd H dx (.own x)) (μ.add x) (upd (upd H dx (.own x)) x (.ins C dx [])) := gr_alloc hx1
  have s2 : SR (kw X) (μ.add x) (st ++ [.ins c []]) (upd (upd H dx (.own x)) x (.ins C dx [])) := s1.alloc hx1 ⟨C, dx, [], hC, upd_same, rfl⟩
  have g := g1.trans g2 fun a m => (s2.ban a m).1
  have hloc : (μ.add x).l[st.length]? = some x := by rw [← sr.len]; simp [Mu.add]
  refine ⟨μ.add x, st ++ [.ins c []], .loc st.length :: xs, s2, VRs.cons (show ∃ a, V.ref x = .ref a ∧ (μ.add x).l[st.length]? = some a from ⟨x, rfl, hloc⟩) (VRs.mono g _ _ rs), by rw [List.length_cons, hn], ?_⟩
  unfold mkIns at h
  cases q : mf (.loc st.length :: xs) (st ++ [.ins c []]) with
  | ok v st' =>
    rw [q] at h
    cases v with
    | non =>
      intro μ' H' b gg ss rb
      refine ⟨rb, ?_⟩
      exact h μ' H' (.ref x) (g.trans gg fun a m => (ss.ban a m).1) ss (show ∃ a, V.ref x = .ref a ∧ μ'.l[st.length]? = some a from ⟨x, rfl, gg.get hloc⟩)
    | _ => exact h.elim
  | err y st' => rw [q] at h; exact h.elim
  | bad => rw [q] at h; exact h.elim
theorem me_new {x : Str} {p : Pos} (M : Mk X.K C f) (hC : ClsIn X.K c C) (F : FnOk X.prog X.w X.K X.mg X.base (L2.CX X.prog X.w) k f fd ps (spM (kw X) mf (n + 1))) (hr : Room (k + 1) X.A) (hg : Gl X x) (hm : X.mg x = some (.ref C)) (hb : Binds X.K fd ps []) (hx : Passes (L2.CX X.prog X.w) X (fun _ _ _ => False))
    (ha : MA X W (e :: es) ma) (hl : aLen n ma) (hdb : (x == ("__debug__" : Str)) = false := by kernel_rfl) (he : starEach (e :: es) X.env = (false, eval e X.env) :: starEach es X.env := by kernel_rfl) (hpl : (backTo pos (starEach es X.env)).any (·.1) = false := by kernel_rfl) :
    ME X W (.Call (.Name x p) (e :: es) [] pos) (eCall (mkIns c mf) ma) :=
  PE.imp (pe_make (dvs := []) (ds := []) (E := fun _ _ _ => False) M F hr hg hm hb .nil hx ha hdb he hpl) fun σ H Q ⟨μ, st, ρ, er, sr, h⟩ =>
    ⟨μ, st, ρ, er, sr, PostG.lens hl ((PostG.bind h).mono fun us H1 ⟨μ1, st1, xs, g1, s1, ⟨rxs, hn⟩, h1⟩ => by
      simp only [List.append_nil]
      exact new_at hC s1 rxs hn h1)⟩
theorem me_new0 {x : Str} {p : Pos} (M : Mk X.K C f) (hC : ClsIn X.K c C) (F : FnOk X.prog X.w X.K X.mg X.base (L2.CX X.prog X.w) k f fd ps (spM (kw X) mf 1)) (hr : Room (k + 1) X.A) (hg : Gl X x) (hm : X.mg x = some (.ref C)) (hb : Binds X.K fd ps []) (hx : Passes (L2.CX X.prog X.w) X (fun _ _ _ => False))
    (hdb : (x == ("__debug__" : Str)) = false := by kernel_rfl) : ME X W (.Call (.Name x p) [] [] pos) (eCall (mkIns c mf) aNil) :=
  PE.imp (pe_make0 (dvs := []) (ds := []) (E := fun _ _ _ => False) M F hr hg hm hb .nil hx hdb) fun σ H Q ⟨μ, st, ρ, er, sr, h⟩ =>
    new_at hC sr VRs.nil rfl h
end
theorem passes_no {X : Cx} : Passes (L2.CX X.prog X.w) X (fun _ _ _ => False) := fun _ _ _ _ _ _ _ c => let ⟨_, _, _, _, _, _, _, _, _, _, _, _, h⟩ := c; h.elim
theorem attr_ok1 {K : PySem.W.Frag} {c f : String} {C : Addr} (hC : ClsIn K c C) (cl : Cls K C) (na : NoAttr K C (Str.ofString f)) : AttrOk K [c] f := fun c' h C' hC' => by
  rw [List.mem_singleton.mp h] at hC'
  rw [← hC.one hC']
  exact ⟨cl, na⟩
theorem attr_ok2 {K : PySem.W.Frag} {cs : List String} {c f : String} {C : Addr} (hC : ClsIn K c C) (cl : Cls K C) (na : NoAttr K C (Str.ofString f)) (r : AttrOk K cs f) : AttrOk K (c :: cs) f := fun c' h C' hC' => by
  rcases List.mem_cons.mp h with h | h
  · rw [h] at hC'
    rw [← hC.one hC']
    exact ⟨cl, na⟩
  · exact r c' h C' hC'
end MP

set_option maxRecDepth 100000
set_option maxHeartbeats 1000000
namespace MP
open PySem L2 PySem.Spec PyProof.Rows
def sBad : Rho → M Fl := fun _ => M.fail
def eBad : Rho → M PV := fun _ => M.fail
theorem ms_bad {X : Cx} {W : WX} {s : Stmt} : MS X W s sBad := ⟨fun _ _ _ _ _ _ ⟨_, _, _, _, _, h⟩ => h.elim⟩
theorem me_bad {X : Cx} {W : WX} {e : Expr} : ME X W e eBad := ⟨fun _ _ _ _ _ _ ⟨_, _, _, _, _, h⟩ => h.elim⟩
def isDct (x : PV) : M Unit := fun st => match dctOf x st with
  | some _ => .ok () st
  | none => .bad
def dgetM (x y z : PV) : M PV := fun st => match dctOf x st with
  | some kvs => if (keyOf y).isSome = true then .ok ((lookP kvs y).getD z) st else .bad
  | none => .bad
def eGet1 (mo me : Rho → M PV) : Rho → M PV := fun ρ => M.bind (mo ρ) fun x => M.bind (isDct x) fun _ => M.bind (me ρ) fun y => dgetM x y .non
def eGet2 (mo me mz : Rho → M PV) : Rho → M PV := fun ρ => M.bind (mo ρ) fun x => M.bind (isDct x) fun _ => M.bind (me ρ) fun y => M.bind (mz ρ) fun z => dgetM x y z
theorem isDct_at {K : KW} {H : Hp} {μ : Mu} {st : Sto} {x : PV} {v : V} {α β : Type} {E : XK} {R : Hp → Mu → α → β → Prop} {Q : β → Hp → Prop} {k : Unit → M α} (sr : SR K μ st H) (r : VR K H μ x v)
    (h : PostG K E R Q μ H (M.bind (isDct x) k st)) : (∃ a, v = .ref a ∧ IsD H a) ∧ PostG K E R Q μ H (k () st) := by
  unfold M.bind isDct at h
  cases q : dctOf x st with
  | none => rw [q] at h; exact h.elim
  | some kvs =>
    rw [q] at h
    obtain ⟨n, a, kv, ex, rfl, ha, hc, h1, h2⟩ := dctOf_at sr r q
    exact ⟨⟨a, rfl, .inl ⟨kv, .inl h1⟩⟩, h⟩
theorem dget_at {K : KW} {H : Hp} {μ : Mu} {st : Sto} {x y z : PV} {a : Addr} {v w : V} {E : XK} {Q : V → Hp → Prop} (sr : SR K μ st H) (r : VR K H μ x (.ref a)) (ry : VR K H μ y v) (rz : VR K H μ z w)
    (h : PostG K E (VR K) Q μ H (dgetM x y z st)) : ∃ o, DGet H a v o ∧ Q (o.getD w) H := by
  unfold dgetM at h
  cases hd : dctOf x st with
  | none => rw [hd] at h; exact h.elim
  | some kvs =>
    rw [hd] at h
    dsimp only at h
    by_cases hk : (keyOf y).isSome = true
    · rw [if_pos hk] at h
      obtain ⟨k', ek⟩ := Option.isSome_iff_exists.mp hk
      obtain ⟨n, a', kv, ex, e, ha, hc, h1, h2⟩ := dctOf_at sr r hd
      cases e
      rw [keyOf_kV ek ry]
      refine ⟨_, DGet.k h1, ?_⟩
      cases q : lookP kvs y with
      | none =>
        rw [(KRs.look ek h2).2 q]
        rw [q] at h
        exact post_same h sr rz
      | some p =>
        obtain ⟨u, e, ru⟩ := (KRs.look ek h2).1 p q
        rw [e]
        rw [q] at h
        exact post_same h sr ru
    · rw [if_neg hk] at h
      exact h.elim
section
variable {X : Cx} {W : WX} {o e f : Expr} {apos cpos : Pos} {mo me mz : Rho → M PV}
theorem me_get1 (hu : X.A.units + 64 < cLine) (ho : ME X W o mo) (he : ME X W e me) (hb : attributeBase o "get" X.env (eval o X.env) = eval o X.env := by kernel_rfl)
    (hf : ((backTo cpos (starEach [e] X.env)).all (fun x => !x.1) && (backToKw cpos (keywordEach [] X.env)).all (fun x => x.1.isSome)
      && decide (([e] : List Expr).length + ([] : List Keyword).length + (if ([] : List Keyword).isEmpty then 0 else 1) < 30)) = true := by kernel_rfl)
    (hl : (apos.endLine == cpos.line) = true := by kernel_rfl) (ht : backTo cpos (starEach [e] X.env) = [(false, eval e X.env)] := by kernel_rfl) :
    ME X W (.Call (.Attribute o "get" apos) [e] [] cpos) (eGet1 mo me) :=
  PE.imp (pe_dget1 (by omega) ho he ⟨hb, hf, hl, ht⟩) fun σ H Q ⟨μ, st, ρ, er, sr, h⟩ => ⟨μ, st, ρ, er, sr, (PostG.bind h).mono fun u H1 ⟨μ1, st1, x, g1, s1, rx, h1⟩ => by
    obtain ⟨⟨a, rfl, d⟩, h2⟩ := isDct_at s1 rx h1
    exact ⟨a, rfl, d, μ1, st1, ρ, er.mono g1, s1, (PostG.bind h2).mono fun v H2 ⟨μ2, st2, y, g2, s2, ry, h3⟩ => dget_at s2 (VR.mono g2 x _ rx) ry (z := .non) (show VR X.K H2 μ2 .non .non from rfl) h3⟩⟩
theorem me_get2 (hu : X.A.units + 64 < cLine) (ho : ME X W o mo) (he : ME X W e me) (hz : ME X W f mz) (hb : attributeBase o "get" X.env (eval o X.env) = eval o X.env := by kernel_rfl)
    (hf : ((backTo cpos (starEach [e, f] X.env)).all (fun x => !x.1) && (backToKw cpos (keywordEach [] X.env)).all (fun x => x.1.isSome)
      && decide (([e, f] : List Expr).length + ([] : List Keyword).length + (if ([] : List Keyword).isEmpty then 0 else 1) < 30)) = true := by kernel_rfl)
    (hl : (apos.endLine == cpos.line) = true := by kernel_rfl) (ht : backTo cpos (starEach [e, f] X.env) = [(false, eval e X.env), (false, eval f X.env)] := by kernel_rfl) :
    ME X W (.Call (.Attribute o "get" apos) [e, f] [] cpos) (eGet2 mo me mz) :=
  PE.imp (pe_dget2 (by omega) ho he hz ⟨hb, hf, hl, ht⟩) fun σ H Q ⟨μ, st, ρ, er, sr, h⟩ => ⟨μ, st, ρ, er, sr, (PostG.bind h).mono fun u H1 ⟨μ1, st1, x, g1, s1, rx, h1⟩ => by
    obtain ⟨⟨a, rfl, d⟩, h2⟩ := isDct_at s1 rx h1
    exact ⟨a, rfl, d, μ1, st1, ρ, er.mono g1, s1, (PostG.bind h2).mono fun v H2 ⟨μ2, st2, y, g2, s2, ry, h3⟩ => ⟨μ2, st2, ρ, (er.mono g1).mono g2, s2, (PostG.bind h3).mono fun w H3 ⟨μ3, st3, z, g3, s3, rz, h4⟩ =>
      dget_at s3 (VR.mono g3 x _ (VR.mono g2 x _ rx)) (VR.mono g3 y _ ry) rz h4⟩⟩⟩
end
def idxP (y : PV) : List PV → Option Nat
  | [] => none
  | p :: r => if eqb p y = true then some 0 else (idxP y r).map (· + 1)
theorem idxP_some {y : PV} : ∀ {xs : List PV} {j : Nat}, idxP y xs = some j → (∃ p, xs[j]? = some p ∧ eqb p y = true) ∧ ∀ m p, m < j → xs[m]? = some p → eqb p y = false
  | [], _, h => by cases h
  | p :: r, j, h => by
    unfold idxP at h
    by_cases e : eqb p y = true
    · rw [if_pos e] at h; cases h
      exact ⟨⟨p, rfl, e⟩, fun m _ q => absurd q (Nat.not_lt_zero m)⟩
    · rw [if_neg e] at h
      cases q : idxP y r with
      | none => rw [q] at h; cases h
      | some k =>
        rw [q] at h; cases h
        obtain ⟨⟨z, hz, ez⟩, h2⟩ := idxP_some q
        refine ⟨⟨z, by simpa using hz, ez⟩, fun m p' hm hp => ?_⟩
        cases m with
        | zero => simp at hp; subst hp; simpa using e
        | succ m => exact h2 m p' (Nat.lt_of_succ_lt_succ hm) (by simpa using hp)
def indexL (o : PV) (xs : List PV) : M PV := match o, xs with
  | .lst ys, [y] => if (flatP y && ys.all flatP) = true then (match idxP y ys with
    | some j => M.ret (.int (j : Nat))
    | none => M.fail) else M.fail
  | _, _ => M.fail
theorem VRs.back {K : PySem.W.Frag} {H : Hp} {μ : Mu} {i : Nat} {v : V} : ∀ {ps : List PV} {vs : List V} {i : Nat}, VRs K H μ ps vs → vs[i]? = some v → ∃ p, ps[i]? = some p ∧ VR K H μ p v
  | [], vs, i, h, e => by have z : vs = [] := h; rw [z] at e; simp at e
  | p :: ps, vs, i, h, e => by
    obtain ⟨w, r, rfl, h1, h2⟩ := (show ∃ v r, vs = v :: r ∧ VR K H μ p v ∧ VRs K H μ ps r from h)
    cases i with
    | zero => simp at e; subst e; exact ⟨p, rfl, h1⟩
    | succ i =>
      obtain ⟨q, e1, e2⟩ := VRs.back (i := i) h2 (by simpa using e)
      exact ⟨q, by simpa using e1, e2⟩
theorem t_indexL {K : KW} : TMe K (rIndex K) indexL := by
  intro μ st H o xs u us E Q sr ro rs h
  unfold indexL at h
  split at h
  · rename_i ys y
    obtain ⟨w, rfl, ry⟩ := one_of rs
    obtain ⟨a, vs, rfl, t, rvs⟩ := lst_at ro
    by_cases hf : (flatP y && ys.all flatP) = true
    · rw [if_pos hf] at h
      obtain ⟨fy, fys⟩ := Bool.and_eq_true_iff.mp hf
      cases q : idxP y ys with
      | none => rw [q] at h; exact h.elim
      | some j =>
        rw [q] at h
        obtain ⟨⟨p, hp, ep⟩, hno⟩ := idxP_some q
        obtain ⟨v, hv, rv⟩ := VRs.get rvs hp
        have fl : ∀ {q : PV} {x : V} {i : Nat}, ys[i]? = some q → VR K H μ q x → flatV x = true ∧ flatV w = true ∧ L2.eqV x w = eqb q y := fun hq rq => flat_eq rq ry (List.all_eq_true.mp fys _ (List.mem_of_getElem? hq)) fy
        obtain ⟨_, fw, ev⟩ := fl hp rv
        refine ⟨a, vs, w, j, v, rfl, rfl, t.sq, fw, ?_, hv, by rw [ev]; exact ep, fun m z hm hz => ?_, post_same h sr rfl⟩
        · refine List.all_eq_true.mpr fun z hz => ?_
          obtain ⟨i, hi⟩ := List.mem_iff_getElem?.mp hz
          obtain ⟨q, hq, rq⟩ := VRs.back (i := i) rvs hi
          exact (fl hq rq).1
        · obtain ⟨q, hq, rq⟩ := VRs.back (i := m) rvs hz
          rw [(fl hq rq).2.2]
          exact hno m q hm hq
    · rw [if_neg hf] at h; exact h.elim
  · exact h.elim
section
variable {X : Cx} {W : WX} {o e : Expr} {apos cpos : Pos} {mo : Rho → M PV} {ma : Rho → M (List PV)}
theorem me_indexL (ho : ME X W o mo) (ha : MA X W [e] ma)
    (hbase : attributeBase o "index" X.env (eval o X.env) = eval o X.env := by kernel_rfl)
    (hfew : ((backTo cpos (starEach [e] X.env)).all (fun x => !x.1) && (backToKw cpos (keywordEach [] X.env)).all (fun x => x.1.isSome)
      && decide ([e].length + ([] : List Keyword).length + (if ([] : List Keyword).isEmpty then 0 else 1) < 30)) = true := by kernel_rfl)
    (hline : (apos.endLine == cpos.line) = true := by kernel_rfl) (hs : starEach [e] X.env = (false, eval e X.env) :: starEach [] X.env := by kernel_rfl) :
    ME X W (.Call (.Attribute o "index" apos) [e] [] cpos) (eMeth "list" indexL mo ma) :=
  me_meth PySem.F.plainAttrs_list PySem.F.slot_list_index PySem.F.type_list_index mt_index t_indexL ho ha hbase hfew hline hs rfl
end
def mulL (x y : PV) : M PV := match x, y with
  | .lst a, .int k => if -1000000 ≤ k ∧ k ≤ 1000 ∧ a.length ≤ 1000 then M.ret (.lst (List.replicate k.toNat a).flatten) else M.fail
  | _, _ => M.fail
theorem t_mulL {K : KW} : T2 K rRep mulL := by
  intro μ st H x y u v E Q sr rx ry h
  unfold mulL at h
  split at h
  · rename_i a k
    obtain ⟨p, vs, rfl, h1, r1⟩ := lst_at rx
    cases (show v = V.int k from ry)
    by_cases hz : -1000000 ≤ k ∧ k ≤ 1000 ∧ a.length ≤ 1000
    · rw [if_pos hz] at h
      refine ⟨p, k, vs, rfl, rfl, h1.1, by omega, by omega, ?_, fun q hq => post_lst sr (VRs.rep r1 _) hq h⟩
      rw [← VRs.length r1, sz_eq]
      have h3 : a.length * k.toNat ≤ 1000 * 1000 := Nat.mul_le_mul hz.2.2 (by omega)
      refine Nat.le_trans h3 ?_
      decide
    · rw [if_neg hz] at h
      exact h.elim
  · exact h.elim
section
variable {X : Cx} {W : WX} {a b : Expr} {pos : Pos} {ma mb : Rho → M PV}
theorem me_mulL (ha : ME X W a ma) (hb : ME X W b mb) : ME X W (.BinOp a .Mult b pos) (eBin mulL ma mb) := me_bin op_rep t_mulL ha hb
end
def addN (x y : PV) : M PV := fun st => match listOf x st, listOf y st with
  | some a, some b => if a.length + b.length ≤ SZ then .ok (.loc st.length) (st ++ [.lst (a ++ b)]) else .bad
  | _, _ => .bad
theorem t_addN {K : KW} : T2 K rCat addN := by
  intro μ st H x y u v E Q sr rx ry h
  unfold addN at h
  cases q1 : listOf x st with
  | none => rw [q1] at h; exact h.elim
  | some a =>
    cases q2 : listOf y st with
    | none => rw [q1, q2] at h; exact h.elim
    | some b =>
      rw [q1, q2] at h
      dsimp only at h
      by_cases hz : a.length + b.length ≤ SZ
      · rw [if_pos hz] at h
        obtain ⟨p, vs, rfl, h1, r1⟩ := listOf_at sr rx q1
        obtain ⟨p', vs', rfl, h2, r2⟩ := listOf_at sr ry q2
        exact ⟨p, p', vs, vs', rfl, rfl, h1, h2, by rw [← VRs.length r1, ← VRs.length r2, sz_eq]; exact hz, fun q hq => post_cell h sr hq ⟨_, upd_same, VRs.mono (gr_alloc hq) _ _ (VRs.append r1 r2)⟩⟩
      · rw [if_neg hz] at h; exact h.elim
section
variable {X : Cx} {W : WX} {a b : Expr} {pos : Pos} {ma mb : Rho → M PV}
theorem me_addN (ha : ME X W a ma) (hb : ME X W b mb) : ME X W (.BinOp a .Add b pos) (eBin addN ma mb) := me_bin op_cat t_addN ha hb
end
end MP

set_option maxRecDepth 100000
namespace MP
open PySem L2 PySem.Spec PyProof.Rows
def pairsOf : List PV → Option (List (PV × PV))
  | [] => some []
  | .tup [k, v] :: r => (pairsOf r).map fun ps => (k, v) :: ps
  | _ :: _ => none
def dictM (xs : List PV) : M PV := fun st => match xs with
  | [x] => match dctOf x st with
    | some kvs => .ok (.loc st.length) (st ++ [.dct kvs])
    | none => match listOf x st with
      | some ys => match pairsOf ys with
        | some ps => if keysOk ps = true then .ok (.loc st.length) (st ++ [.dct (mergeP [] ps)]) else .bad
        | none => .bad
      | none => .bad
  | _ => .bad
abbrev rDictD : List V → Hp → VK → Prop := fun xs H Q => ∃ (a : Addr) (kvs : List (Key × V)), xs = [.ref a] ∧ Rd H a (.dK kvs) ∧ ∀ p, H p = none → Q (.ref p) (upd H p (.dK kvs))
abbrev rDictP (K : PySem.W.Frag) : List V → Hp → VK → Prop := fun xs H Q => ∃ (a : Addr) (ps : List Addr) (kvs : List (Key × V)), xs = [.ref a] ∧ SqL K H a (ps.map V.ref) ∧ Paired (fun p kv => SqT K H p [kV kv.1, kv.2]) ps kvs ∧ ∀ p, H p = none → Q (.ref p) (upd H p (.dK (mergeK [] kvs)))
theorem pairs_at {K : PySem.W.Frag} {H : Hp} {μ : Mu} : ∀ {ys : List PV} {vs : List V} {ps : List (PV × PV)}, VRs K H μ ys vs → pairsOf ys = some ps → keysOk ps = true → ∃ (as : List Addr) (kvs : List (Key × V)), vs = as.map V.ref ∧ Paired (fun p kv => SqT K H p [kV kv.1, kv.2]) as kvs ∧ KRs K H μ ps kvs
  | [], vs, ps, r, h, hk => by cases h; have e : vs = [] := r; subst e; exact ⟨[], [], rfl, .nil, rfl⟩
  | y :: ys, vs, ps, r, h, hk => by
    obtain ⟨v, t, rfl, r1, r2⟩ := r
    unfold pairsOf at h
    split at h
    · rename_i e; cases e
    · rename_i k x r' e
      cases e
      cases q : pairsOf ys with
      | none => rw [q] at h; cases h
      | some ps' =>
        rw [q] at h
        cases h
        have hk' : (keyOf k).isSome = true ∧ keysOk ps' = true := by simpa [keysOk] using hk
        obtain ⟨k', ek⟩ := Option.isSome_iff_exists.mp hk'.1
        obtain ⟨a, ws, rfl, ha, rw_⟩ := tup_at r1
        obtain ⟨w1, t1, rfl, rk, t2⟩ := rw_
        obtain ⟨w2, t3, rfl, rv, t4⟩ := t2
        have e3 : t3 = [] := t4
        subst e3
        obtain ⟨as, kvs, rfl, hp, hr⟩ := pairs_at r2 q hk'.2
        have e1 := keyOf_kV ek rk
        subst e1
        exact ⟨a :: as, (k', w2) :: kvs, rfl, .cons ha.sq hp, k', w2, kvs, rfl, ek, rv, hr⟩
    · cases h
theorem t_dictM {K : KW} : TL K (fun xs H Q => rDictD xs H Q ∨ rDictP K xs H Q) dictM := by
  intro μ st H xs us E Q sr r h
  cases xs with
  | nil => exact h.elim
  | cons x t =>
    cases t with
    | cons y t => exact h.elim
    | nil =>
      obtain ⟨u, rfl, rx⟩ := one_of r
      unfold dictM at h
      dsimp only at h
      cases hd : dctOf x st with
      | some kvs =>
        rw [hd] at h
        obtain ⟨n, a, kv, ex, rfl, ha, hc, h1, h2⟩ := dctOf_at sr rx hd
        exact .inl ⟨a, kv, rfl, .of h1, fun p hp => post_cell h sr hp ⟨_, upd_same, KRs.mono (gr_alloc hp).v _ _ h2⟩⟩
      | none =>
        rw [hd] at h
        dsimp only at h
        cases hl : listOf x st with
        | none => rw [hl] at h; exact h.elim
        | some ys =>
          rw [hl] at h
          dsimp only at h
          cases hp : pairsOf ys with
          | none => rw [hp] at h; exact h.elim
          | some ps =>
            rw [hp] at h
            dsimp only at h
            by_cases hk : keysOk ps = true
            · rw [if_pos hk] at h
              obtain ⟨a, vs, rfl, h1, r1⟩ := listOf_at sr rx hl
              obtain ⟨as, kvs, rfl, hpr, hkr⟩ := pairs_at r1 hp hk
              exact .inr ⟨a, as, kvs, rfl, SqL.of h1, hpr, fun p hp => post_cell h sr hp ⟨_, upd_same, KRs.mono (gr_alloc hp).v _ _ (KRs.merge hkr (show KRs K H μ [] [] from rfl))⟩⟩
            · rw [if_neg hk] at h; exact h.elim
section
variable {X : Cx} {W : WX} {e : Expr} {p pos : Pos} {ma : Rho → M (List PV)}
theorem me_dictOf (hc : X.calm = true) (hg : Gl X "dict") (hm : X.mg "dict" = none) (ha : MA X W [e] ma) (he : starEach [e] X.env = (false, eval e X.env) :: starEach [] X.env := by kernel_rfl) : ME X W (.Call (.Name "dict" p) [e] [] pos) (eCall dictM ma) :=
  me_callTy (call_dictD.or (call_dictP hc)) t_dictM hg hm (by decide +kernel) ha (by decide) (by decide) he rfl
end
def sortI (ns : List Int) : List Int := ns.mergeSort (fun a b => decide (a ≤ b))
def sortS (ns : List (List Nat)) : List (List Nat) := ns.mergeSort (fun a b => decide (a ≤ b))
theorem sortI_of {ns ys : List Int} (h : ys.Perm ns) (hs : ys.Pairwise (· ≤ ·)) : ys = sortI ns := by
  have h1 : (sortI ns).Perm ns := List.mergeSort_perm _ _
  have h2 : (sortI ns).Pairwise (fun a b => decide (a ≤ b) = true) := List.pairwise_mergeSort (fun a b c h1 h2 => by simp at *; omega) (fun a b => by simp; omega) ns
  exact PySem.W.lks_uniq (h.trans h1.symm) hs (h2.imp fun h => by simpa using h)
theorem sortS_of {ns ys : List (List Nat)} (h : ys.Perm ns) (hs : ys.Pairwise (· ≤ ·)) : ys = sortS ns := by
  have h1 : (sortS ns).Perm ns := List.mergeSort_perm _ _
  have h2 : (sortS ns).Pairwise (fun a b => decide (a ≤ b) = true) := List.pairwise_mergeSort (fun a b c h1 h2 => by simp at *; exact List.le_trans h1 h2) (fun a b => by simp; exact List.le_total a b) ns
  exact (h.trans h1.symm).eq_of_pairwise (fun a b _ _ h1 h2 => List.le_antisymm h1 h2) hs (h2.imp fun h => by simpa using h)
abbrev mkS (x : List Nat) : Str := ⟨x.toArray⟩
theorem rising_pw : ∀ {l : List (List Nat)} {p : List Nat}, risingS (mkS p) (l.map mkS) = true → (∀ x ∈ l, p ≤ x) ∧ l.Pairwise (· ≤ ·)
  | [], p, _ => ⟨fun x hx => absurd hx (by simp), .nil⟩
  | x :: l, p, h => by
    rw [List.map_cons] at h
    unfold risingS at h
    rw [Bool.and_eq_true] at h
    obtain ⟨h1, h2⟩ := h
    obtain ⟨g1, g2⟩ := rising_pw h2
    have hpx : p ≤ x := by
      have : ltCps x p = false := by simpa using h1
      rw [ltCps_eq] at this
      have : ¬ x < p := by simpa using this
      exact List.not_lt.mp this
    refine ⟨fun y hy => ?_, .cons g1 g2⟩
    rcases List.mem_cons.mp hy with e | e
    · subst e; exact hpx
    · exact List.le_trans hpx (g1 y e)
theorem sorted_pw {l : List (List Nat)} (h : sortedS (l.map mkS) = true) : l.Pairwise (· ≤ ·) := by
  cases l with
  | nil => exact .nil
  | cons x l =>
    obtain ⟨g1, g2⟩ := rising_pw (show risingS (mkS x) (l.map mkS) = true from h)
    exact .cons g1 g2
theorem strs_back : ∀ (ys : List Str), ys = (ys.map fun y => y.cps.toList).map mkS
  | [] => rfl
  | y :: ys => by rw [List.map_cons, List.map_cons, ← strs_back ys]
theorem sortS_str {ns : List (List Nat)} {ys : List Str} (h : ys.Perm (ns.map mkS)) (hs : sortedS ys = true) : ys = (sortS ns).map mkS := by
  have e := strs_back ys
  rw [e] at h hs
  have hp : (ys.map fun y => y.cps.toList).Perm ns := by
    have := h.map (fun y : Str => y.cps.toList)
    have e2 : ∀ l : List (List Nat), (l.map mkS).map (fun y : Str => y.cps.toList) = l := fun l => by
      induction l with
      | nil => rfl
      | cons x l ih => rw [List.map_cons, List.map_cons, ih]
    rw [e2, e2] at this
    exact this
  rw [e, ← sortS_of hp (sorted_pw hs)]
def sortedM (xs : List PV) : M PV := fun st => match xs with
  | [x] => match dctOf x st with
    | some kvs => match strsOf (kvs.map Prod.fst) with
      | some ss => if ss.length < 64 then .ok (.lst ((sortS ss).map .str)) st else .bad
      | none => match intsOf (kvs.map Prod.fst) with
        | some ns => .ok (.lst ((sortI ns).map .int)) st
        | none => .bad
    | none => match listOf x st with
      | some ys => match intsOf ys with
        | some ns => .ok (.lst ((sortI ns).map .int)) st
        | none => match strsOf ys with
          | some ss => if ss.length < 64 then .ok (.lst ((sortS ss).map .str)) st else .bad
          | none => .bad
      | none => .bad
  | _ => .bad
theorem krs_str {K : PySem.W.Frag} {H : Hp} {μ : Mu} : ∀ {kvs : List (PV × PV)} {kv : List (Key × V)} {ss : List (List Nat)}, KRs K H μ kvs kv → strsOf (kvs.map Prod.fst) = some ss → kv.map (·.1) = (ss.map mkS).map Sum.inr
  | [], kv, ss, r, h => by cases h; have e : kv = [] := r; subst e; rfl
  | (p, q) :: kvs, kv, ss, r, h => by
    obtain ⟨k, v, t, rfl, ek, h1, h2⟩ := r
    rw [List.map_cons] at h
    cases p with
    | str x =>
      simp only [strsOf] at h
      cases q' : strsOf (kvs.map Prod.fst) with
      | none => rw [q'] at h; cases h
      | some t' =>
        rw [q'] at h
        cases h
        have : k = Sum.inr (mkS x) := by simpa [keyOf] using ek.symm
        subst this
        rw [List.map_cons, List.map_cons, List.map_cons, krs_str h2 q']
    | _ => cases h
theorem krs_int {K : PySem.W.Frag} {H : Hp} {μ : Mu} : ∀ {kvs : List (PV × PV)} {kv : List (Key × V)} {ss : List Int}, KRs K H μ kvs kv → intsOf (kvs.map Prod.fst) = some ss → kv.map (·.1) = ss.map Sum.inl
  | [], kv, ss, r, h => by cases h; have e : kv = [] := r; subst e; rfl
  | (p, q) :: kvs, kv, ss, r, h => by
    obtain ⟨k, v, t, rfl, ek, h1, h2⟩ := r
    rw [List.map_cons] at h
    cases p with
    | int x =>
      simp only [intsOf] at h
      cases q' : intsOf (kvs.map Prod.fst) with
      | none => rw [q'] at h; cases h
      | some t' =>
        rw [q'] at h
        cases h
        have : k = Sum.inl x := by simpa [keyOf] using ek.symm
        subst this
        rw [List.map_cons, List.map_cons, krs_int h2 q']
    | _ => cases h
theorem vrs_strs {K : PySem.W.Frag} {H : Hp} {μ : Mu} : ∀ {ss : List (List Nat)}, VRs K H μ (ss.map PV.str) ((ss.map mkS).map V.str)
  | [] => rfl
  | x :: ss => ⟨_, _, rfl, rfl, vrs_strs (ss := ss)⟩
abbrev rSortedD : List V → Hp → VK → Prop := fun xs H Q => ∃ (a : Addr) (kvs : List (Key × V)) (ks : List Str), xs = [.ref a] ∧ Rd H a (.dK kvs) ∧ kvs.map (·.1) = ks.map Sum.inr ∧ ks.length < 64 ∧ ∀ ys p, ys.Perm ks → sortedS ys = true → H p = none → Q (.ref p) (upd H p (.lst (ys.map V.str)))
abbrev rSortedDI : List V → Hp → VK → Prop := fun xs H Q => ∃ (a : Addr) (kvs : List (Key × V)) (ks : List Int), xs = [.ref a] ∧ Rd H a (.dK kvs) ∧ kvs.map (·.1) = ks.map Sum.inl ∧ ∀ (ys : List Int) (p : Addr), ys.Perm ks → ys.Pairwise (· ≤ ·) → H p = none → Q (.ref p) (upd H p (.lst (ys.map V.int)))
theorem call_sortedDA {X : Cx} (hcalm : X.calm = true) : CallR X (.builtin "sorted") rSortedDI := by
  intro pins s σ H xs us Q I r ⟨a, kvs, ks, ex, hd, hks, q⟩
  subst ex
  obtain ⟨u, rfl, rx⟩ := vals1 r
  cases rx
  obtain ⟨hz, lo, vs, rel, dd⟩ := dk_rd I.hok hd
  obtain ⟨ep, hat⟩ := dd.dictAt
  have hkeys : vs.map (·.1) = ks.map Sum.inl := rel.keys.symm.trans hks
  have hl : vs.length = ks.length := by simpa using congrArg List.length hkeys
  have hz2 : vs.length ≤ sizeLine := by rw [← rel.length]; exact hz
  have hz3 : ks.length ≤ sizeLine := by rw [← hl]; exact hz2
  refine Calls.call_function_entry PyProof.Rows.kind_sorted PyProof.Rows.plain_sorted PyProof.Rows.entry_sorted (PyProof.Rows.args_sorted1 _) ?_
  unfold Builtin.«sorted»
  refine wpAny_bind (m := checkCount "sorted" 1 1 _) (wpAny_pure ?_)
  refine wpAny_bind (PySem.W.kdu_collect (A := X.A.in1) (PySem.W.kdl_dict (knd := mixKind X.prog X.w) (kvs := vs) (ep := ep) lo) (I.ok.hd hcalm) hat hz2 fun h1 tk acc hk hacc => ?_)
  have hal : acc.toList.length = ks.length := by rw [Array.length_toList, hacc.1, hl]
  have hS : IntsAre acc.toList ks := ints_each hal fun j v e => by
    obtain ⟨k, x, e1, e2⟩ := hacc.2 j v (by rw [← Array.getElem?_toList]; exact e)
    have e3 : (vs.map (·.1))[j]? = some k := by rw [List.getElem?_map, e1]; rfl
    rw [hkeys, List.getElem?_map] at e3
    cases e4 : ks[j]? with
    | none => rw [e4] at e3; cases e3
    | some y =>
      rw [e4] at e3
      have e5 : Sum.inl y = k := Option.some.inj e3
      subst e5
      rcases keyIs_shape (show keyIs (Sum.inl y) v = true from e2) with ⟨i, t, ek, ev⟩ | ⟨z, t, ek, ev⟩
      · cases ek
        exact ⟨y, t, rfl, ev⟩
      · cases ek
  have I1 : Inv X pins σ H { s with heap := h1, toks := tk } := I.kept hk
  refine wpAny_bind (wpAny_newList ?_ (by rw [hal]; exact hz3))
  have hoL : (h1.push (seqObj "list" acc.toList.toArray 0)).get? h1.objs.size = some (seqObj "list" acc.toList.toArray 0) := Heap.get?_push_size _ rfl
  show wpAny _ _ _ _ _ { s with heap := h1.push (seqObj "list" acc.toList.toArray 0), toks := tk }
  refine wpAny_bind (wpAny_holding (wpAny_call_entry PyProof.Rows.slot_list_sort ⟨_, hoL, rfl⟩ PyProof.Rows.entry_list_sort
    (SrtO.list_sort_ord (s := { s with heap := h1.push (seqObj "list" acc.toList.toArray 0), toks := tk }) SrtO.swo_int hoL (by rw [hal]; exact hz3) (fun h2 => SrtO.ints_sortable hS h2) fun out g1 g2 => ⟨_, rfl, ?_⟩) (PyProof.Rows.args_list_sort _)))
  obtain ⟨k1, k2, k3⟩ := SrtO.ints_out hS g1 g2
  obtain ⟨e', he'⟩ := PyProof.Rows.sortedHeap_at (vs := acc.toList) (out := out.toArray) hoL
  have hlen : ((out.map SrtO.iv).map V.int).length ≤ sizeLine := by
    rw [List.length_map, k2.length_eq]
    exact hz3
  refine wpAny_pure ⟨_, rfl, .ref h1.objs.size, upd H h1.objs.size (.lst ((out.map SrtO.iv).map V.int)), I1.laid (t' := tk) (fun b u e => ?_) (Nat.le_refl _)
    (show ObjOk X.prog X.w _ _ _ (.lst ((out.map SrtO.iv).map V.int)) from ⟨hlen, out, e', vals_of_ints k1, he'⟩), rfl, q _ _ k2 k3 (I1.hok.fresh (Nat.le_refl _))⟩
  have hb : b < h1.objs.size := Heap.lt_size e
  rw [PyProof.Rows.sortedHeap_old (Nat.ne_of_lt hb) (by rw [size_push']; exact Nat.lt_succ_of_lt hb)]
  exact Heap.get?_push_of_some _ e
theorem t_sortedM {K : KW} : TL K (fun xs H Q => (rSortedD xs H Q ∨ rSortedDI xs H Q) ∨ (rSortedI K xs H Q ∨ rSortedS K xs H Q)) sortedM := by
  intro μ st H xs us E Q sr r h
  cases xs with
  | nil => exact h.elim
  | cons x t =>
    cases t with
    | cons y t => exact h.elim
    | nil =>
      obtain ⟨u, rfl, rx⟩ := one_of r
      unfold sortedM at h
      dsimp only at h
      cases hd : dctOf x st with
      | some kvs =>
        rw [hd] at h
        dsimp only at h
        obtain ⟨n, a, kv, ex, rfl, ha, hc, h1, h2⟩ := dctOf_at sr rx hd
        cases hs : strsOf (kvs.map Prod.fst) with
        | some ss =>
          rw [hs] at h
          dsimp only at h
          by_cases hz : ss.length < 64
          · rw [if_pos hz] at h
            refine .inl (.inl ⟨a, kv, ss.map mkS, rfl, .of h1, krs_str h2 hs, by rw [List.length_map]; exact hz, fun ys p hp hso hf => ?_⟩)
            rw [sortS_str hp hso]
            exact post_lst sr vrs_strs hf h
          · rw [if_neg hz] at h; exact h.elim
        | none =>
          rw [hs] at h
          dsimp only at h
          cases hi : intsOf (kvs.map Prod.fst) with
          | none => rw [hi] at h; exact h.elim
          | some ns =>
            rw [hi] at h
            dsimp only at h
            refine .inl (.inr ⟨a, kv, ns, rfl, .of h1, krs_int h2 hi, fun ys p hp hso hf => ?_⟩)
            rw [sortI_of hp hso]
            exact post_lst sr VRs.ints hf h
      | none =>
        rw [hd] at h
        dsimp only at h
        cases hl : listOf x st with
        | none => rw [hl] at h; exact h.elim
        | some ys =>
          rw [hl] at h
          dsimp only at h
          obtain ⟨a, vs, rfl, h1, r1⟩ := listOf_at sr rx hl
          cases hi : intsOf ys with
          | some ns =>
            rw [hi] at h
            dsimp only at h
            have e := intsOf_at r1 hi
            subst e
            refine .inr (.inl ⟨a, ns, rfl, SqL.of h1, fun ys p hp hso hf => ?_⟩)
            rw [sortI_of hp hso]
            exact post_lst sr VRs.ints hf h
          | none =>
            rw [hi] at h
            dsimp only at h
            cases hs : strsOf ys with
            | none => rw [hs] at h; exact h.elim
            | some ss =>
              rw [hs] at h
              dsimp only at h
              by_cases hz : ss.length < 64
              · rw [if_pos hz] at h
                have e := strsOf_at r1 hs
                subst e
                refine .inr (.inr ⟨a, ss.map mkS, rfl, SqL.of h1, by rw [List.length_map]; exact hz, fun ys p hp hso hf => ?_⟩)
                rw [sortS_str hp hso]
                exact post_lst sr vrs_strs hf h
              · rw [if_neg hz] at h; exact h.elim
section
variable {X : Cx} {W : WX} {e : Expr} {p pos : Pos} {ma : Rho → M (List PV)}
theorem me_sorted (hc : X.calm = true) (hg : Gl X "sorted") (hm : X.mg "sorted" = none) (ha : MA X W [e] ma) (he : starEach [e] X.env = (false, eval e X.env) :: starEach [] X.env := by kernel_rfl) : ME X W (.Call (.Name "sorted" p) [e] [] pos) (eCall sortedM ma) :=
  me_callB (((call_sortedD hc).or (call_sortedDA hc)).or (cr_sortedI.or cr_sortedS)) t_sortedM hg hm (by decide +kernel) ha (by decide) (by decide) he rfl
end
end MP

set_option maxRecDepth 100000
set_option maxHeartbeats 1000000
namespace MP
open PySem L2
def IsG (K : KW) (H : Hp) (a : Addr) : Prop := (∃ xs, H a = some (leafD K.w a xs)) ∨ ∃ xs, H a = some (nestD K.w a xs)
theorem isG_at {X : Cx} {pins : List (Addr × Obj)} {σ : L2.St} {H : Hp} {s : Shared} {a : Addr} (I : Inv X pins σ H s) (d : IsG (kw X) H a) :
    s.TypeIs (.ref a) "dict" ∧ (∀ b, Value.ref a = .ref b → ∃ ob, s.heap.get? b = some ob ∧ ob.dict = none) := by
  rcases d with ⟨xs, e⟩ | ⟨xs, e⟩
  · obtain ⟨⟨o, es, ep, h1, h2, h3, h4⟩, _, _⟩ := (show ObjOk X.prog X.w H s.heap a (leafD X.w a xs) from I.hok a _ e)
    exact ⟨⟨o, h1, h2.1⟩, fun b q => by cases q; exact ⟨o, h1, h2.2.1⟩⟩
  · obtain ⟨⟨o, es, ep, h1, h2, h3, h4⟩, _, _⟩ := (show ObjOk X.prog X.w H s.heap a (nestD X.w a xs) from I.hok a _ e)
    exact ⟨⟨o, h1, h2.1⟩, fun b q => by cases q; exact ⟨o, h1, h2.2.1⟩⟩
def tGGet1 (K : KW) (td ty : TE) : TE := fun σ H Q => td σ H fun x H1 => ∃ a, x = .ref a ∧ IsG K H1 a ∧ ty σ H1 fun y H2 => ∃ o, GGet K H2 a y o ∧ Q (o.getD .non) H2
theorem pe_gget1 {X : Cx} {o e : Expr} {apos cpos : Pos} {td ty : TE} (hu : X.A.units + 64 < cLine) (ho : PE X o td) (he : PE X e ty) (m : M1 X o "get" apos e cpos) : PE X (.Call (.Attribute o "get" apos) [e] [] cpos) (tGGet1 (kw X) td ty) := by
  refine ⟨fun pins s σ H Q I h => ?_⟩
  refine wpAny_Call_method m.base m.few m.line PySem.F.plainAttrs_dict PySem.F.slot_dict_get PySem.F.type_dict_get (thn (ho.run pins s σ H _ I h) fun u s1 ⟨x, H1, I1, rx, a, ex, d, q1⟩ => ?_)
  subst ex
  obtain rfl : u = Value.ref a := rx
  obtain ⟨t1, t2⟩ := isG_at I1 d
  refine ⟨t1, t2, ?_⟩
  rw [m.trees]
  refine Calls.callWith_builtin rfl (Calls.evalArgs_plain (Calls.spliced_cons (thn (he.run pins s1 σ H1 _ I1 q1) fun iv s2 ⟨y, H2, I2, ry, ov, g, q2⟩ => Calls.spliced_nil ?_)))
  exact g_get1 hu I2 g ry fun w' s3 I3 rw' => ⟨_, H2, I3, rw', q2⟩
def isGd (x : PV) : M Unit := fun st => match x with
  | .loc n => match st[n]? with
    | some (.dcl _) => .ok () st
    | some (.dcn _) => .ok () st
    | _ => .bad
  | _ => .bad
def ggetM (x y : PV) : M PV := fun st => match gdOf x y st with
  | some kvs => .ok ((lookP kvs y).getD .non) st
  | none => .bad
def eGetG (mo me : Rho → M PV) : Rho → M PV := fun ρ => M.bind (mo ρ) fun x => M.bind (isGd x) fun _ => M.bind (me ρ) fun y => ggetM x y
theorem isGd_at {K : KW} {H : Hp} {μ : Mu} {st : Sto} {x : PV} {v : V} {α β : Type} {E : XK} {R : Hp → Mu → α → β → Prop} {Q : β → Hp → Prop} {k : Unit → M α} (sr : SR K μ st H) (r : VR K H μ x v)
    (h : PostG K E R Q μ H (M.bind (isGd x) k st)) : (∃ a, v = .ref a ∧ IsG K H a) ∧ PostG K E R Q μ H (k () st) := by
  unfold M.bind isGd at h
  cases x with
  | loc n =>
    obtain ⟨a, rfl, ha⟩ := loc_at r
    dsimp only at h
    cases q : st[n]? with
    | none => rw [q] at h; exact h.elim
    | some c =>
      rw [q] at h
      cases c with
      | dcl kvs =>
        obtain ⟨xs, e, _⟩ := sr.cell n _ a q ha
        exact ⟨⟨a, rfl, .inl ⟨xs, e⟩⟩, h⟩
      | dcn kvs =>
        obtain ⟨xs, e, _⟩ := sr.cell n _ a q ha
        exact ⟨⟨a, rfl, .inr ⟨xs, e⟩⟩, h⟩
      | lst xs => exact h.elim
      | dct xs => exact h.elim
      | ins C fs => exact h.elim
      | lck kvs => exact h.elim
  | _ => exact h.elim
theorem gget_at {K : KW} {H : Hp} {μ : Mu} {st : Sto} {x y : PV} {a : Addr} {v : V} {E : XK} {Q : V → Hp → Prop} (sr : SR K μ st H) (r : VR K H μ x (.ref a)) (ry : VR K H μ y v)
    (h : PostG K E (VR K) Q μ H (ggetM x y st)) : ∃ o, GGet K H a v o ∧ Q (o.getD .non) H := by
  unfold ggetM at h
  cases hd : gdOf x y st with
  | none => rw [hd] at h; exact h.elim
  | some kvs =>
    rw [hd] at h
    dsimp only at h
    obtain ⟨b, o, e, g, l1, l2⟩ := gdOf_at sr r ry hd
    cases e
    refine ⟨o, g, ?_⟩
    cases q : lookP kvs y with
    | none =>
      rw [l2 q]
      rw [q] at h
      exact post_same h sr rfl
    | some p =>
      obtain ⟨u, rfl, ru⟩ := l1 p q
      rw [q] at h
      exact post_same h sr ru
theorem me_getG {X : Cx} {W : WX} {o e : Expr} {apos cpos : Pos} {mo me : Rho → M PV} (hu : X.A.units + 64 < cLine) (ho : ME X W o mo) (he : ME X W e me) (hb : attributeBase o "get" X.env (eval o X.env) = eval o X.env := by kernel_rfl)
    (hf : ((backTo cpos (starEach [e] X.env)).all (fun x => !x.1) && (backToKw cpos (keywordEach [] X.env)).all (fun x => x.1.isSome)
      && decide (([e] : List Expr).length + ([] : List Keyword).length + (if ([] : List Keyword).isEmpty then 0 else 1) < 30)) = true := by kernel_rfl)
    (hl : (apos.endLine == cpos.line) = true := by kernel_rfl) (ht : backTo cpos (starEach [e] X.env) = [(false, eval e X.env)] := by kernel_rfl) :
    ME X W (.Call (.Attribute o "get" apos) [e] [] cpos) (eGetG mo me) :=
  PE.imp (pe_gget1 hu ho he ⟨hb, hf, hl, ht⟩) fun σ H Q ⟨μ, st, ρ, er, sr, h⟩ => ⟨μ, st, ρ, er, sr, (PostG.bind h).mono fun u H1 ⟨μ1, st1, x, g1, s1, rx, h1⟩ => by
    obtain ⟨⟨a, rfl, d⟩, h2⟩ := isGd_at s1 rx h1
    exact ⟨a, rfl, d, μ1, st1, ρ, er.mono g1, s1, (PostG.bind h2).mono fun v H2 ⟨μ2, st2, y, g2, s2, ry, h3⟩ => gget_at s2 (VR.mono g2 x _ rx) ry h3⟩⟩
end MP

set_option maxRecDepth 100000
set_option maxHeartbeats 1000000
namespace MP
open PySem L2
theorem ER.monov {K : PySem.W.Frag} {H H' : Hp} {μ μ' : Mu} {ρ : Rho} {σ : St} (g : Gv μ H μ' H') (e : ER K H μ ρ σ) : ER K H' μ' ρ σ :=
  ⟨e.len, fun i p h => let ⟨v, h1, h2⟩ := e.get i p h; ⟨v, h1, VR.monov g p v h2⟩⟩
def isLck (n : Nat) (kvs : List (PV × PV)) (st : Sto) : Bool := match st[n]? with
  | some (.lck k) => decide (k = kvs)
  | _ => false
theorem isLck_at {n : Nat} {kvs : List (PV × PV)} {st : Sto} (h : isLck n kvs st = true) : st[n]? = some (.lck kvs) := by
  unfold isLck at h
  split at h
  · rename_i k e
    rw [e, of_decide_eq_true h]
  · cases h
def unlk (n : Nat) (kvs : List (PV × PV)) (r : Res Fl) : Res Fl := match r with
  | .ok (.exc _ _) _ => .bad
  | .ok f st => if isLck n kvs st = true then .ok f (st.set n (.dct kvs)) else .bad
  | _ => .bad
def sForD (i : Nat) (g : GM) (b : Rho → M Fl) : Rho → M Fl := fun ρ st => match ρ[i]? with
  | some (some (.loc n)) => match st[n]? with
    | some (.dct kvs) => unlk n kvs (forL g b (kvs.map Prod.fst) ρ (st.set n (.lck kvs)))
    | _ => .bad
  | _ => sFor (iSeq (eVar i)) g b ρ st
section
variable {K : KW} {H H1 : Hp} {μ : Mu} {a : Addr} {n : Nat} {kvs : List (PV × PV)} {kv : List (Key × V)} {od : Obj}
theorem KRs.at : ∀ {kvs : List (PV × PV)} {kv : List (Key × V)} {i : Nat} {p : PV}, KRs K H μ kvs kv → (kvs.map Prod.fst)[i]? = some p → ∃ k v, kv[i]? = some (k, v) ∧ VR K H μ p (kV k)
  | [], _, _, _, _, e => by simp at e
  | q :: r, kv, 0, p, h, e => by
    obtain ⟨k, v, t, rfl, hk, _, _⟩ := h
    simp at e
    subst e
    refine ⟨k, v, rfl, ?_⟩
    cases hq : q.1 with
    | int i => rw [hq] at hk; cases hk; rfl
    | str x => rw [hq] at hk; cases hk; rfl
    | _ => rw [hq] at hk; cases hk
  | q :: r, kv, i + 1, p, h, e => by
    obtain ⟨k, v, t, rfl, hk, _, h2⟩ := h
    obtain ⟨k', v', e1, e2⟩ := KRs.at (i := i) (p := p) h2 (by simpa using e)
    exact ⟨k', v', by simpa using e1, e2⟩
theorem sup_keys (ha : μ.l[n]? = some a) (hf : H a = some (.frz od (.dK kv))) (hr : KRs K H μ kvs kv) : Sup K (Itk a od kv) (kvs.map Prod.fst) μ H := by
  intro μ' H' st g sr
  have hf' := g.fz a _ _ hf
  have hr' := KRs.mono g.v _ _ hr
  have hl := KRs.length hr
  refine ⟨fun i p hp => ?_, hf', by rw [List.length_map, hl]; exact Nat.le_refl _⟩
  obtain ⟨k, v, e1, e2⟩ := KRs.at hr' hp
  refine ⟨⟨hf', (List.getElem?_eq_some_iff.mp e1).1⟩, fun x H2 ⟨eh, k', v', e3, ex⟩ => ?_⟩
  subst eh ex
  rw [e1] at e3
  cases e3
  exact ⟨Gr.refl _ _, sr, e2⟩
theorem gr_unlk {μ2 : Mu} {H2 : Hp} {u : HO} (ha : μ.l[n]? = some a) (h0 : H a = some (.dK kv)) (g : Gr μ (upd H a (.frz od (.dK kv))) μ2 H2) : Gr μ H μ2 (upd H2 a u) := by
  have nn : ∀ b, upd H a (.frz od (.dK kv)) b = none → H b = none := fun b e => by
    by_cases hb : b = a
    · rw [hb, upd_same] at e; cases e
    · rw [upd_ne hb] at e; exact e
  refine ⟨g.pre, g.ban, fun b m => ?_, fun b m => ?_, fun b o e nb => ?_, fun b o x e => ?_⟩
  · rcases g.bnew b m with z | z
    · exact .inl z
    · exact .inr (nn b z)
  · rcases g.new b m with z | z
    · exact .inl z
    · exact .inr (nn b z)
  · have hb : b ≠ a := fun z => nb (by rw [z]; exact List.mem_of_getElem? ha)
    rw [upd_ne hb]
    exact g.keep b o (by rw [upd_ne hb]; exact e) nb
  · have hb : b ≠ a := fun z => by rw [z, h0] at e; cases e
    rw [upd_ne hb]
    exact g.fz b o x (by rw [upd_ne hb]; exact e)
theorem sr_unlk {μ2 : Mu} {H2 : Hp} {st : Sto} (ha : μ2.l[n]? = some a) (hf : H2 a = some (.frz od (.dK kv))) (s : SR K μ2 st H2) (hl : st[n]? = some (.lck kvs)) : SR K μ2 (st.set n (.dct kvs)) (upd H2 a (.dK kv)) := by
  obtain ⟨o, kv', e, r⟩ := s.cell n _ a hl ha
  rw [hf] at e
  cases e
  exact s.put ha ⟨kv, upd_same, KRs.mono (gv_put ha) _ _ r⟩
def unEnds (D : Ends) (a : Addr) (od : Obj) (u : HO) : Ends := ⟨fun σ' H' => H' a = some (.frz od u) ∧ D.nx σ' (upd H' a u), fun v H' => H' a = some (.frz od u) ∧ D.rt v (upd H' a u), fun σ' H' => H' a = some (.frz od u) ∧ D.bk σ' (upd H' a u), fun σ' H' => H' a = some (.frz od u) ∧ D.ct σ' (upd H' a u)⟩
theorem post_unlk {W : WX} {D : Ends} {μ1 : Mu} {r : Res Fl} (ha : μ.l[n]? = some a) (h0 : H a = some (.dK kv)) (g : Gr μ (upd H a (.frz od (.dK kv))) μ1 H1) (h : PostS K W D μ H (unlk n kvs r)) : PostS K W (unEnds D a od (.dK kv)) μ1 H1 r := by
  have fz0 : ∀ {μ2 : Mu} {H2 : Hp}, Gr μ1 H1 μ2 H2 → H2 a = some (.frz od (.dK kv)) := fun g2 => g2.fz a _ _ (g.fz a _ _ upd_same)
  have gt : ∀ {μ2 : Mu} {H2 : Hp} {st : Sto}, Gr μ1 H1 μ2 H2 → SR K μ2 st H2 → Gr μ (upd H a (.frz od (.dK kv))) μ2 H2 := fun g2 s2 => g.trans g2 fun b m => (s2.ban b m).1
  cases r with
  | bad => exact h.elim
  | err x st => exact h.elim
  | ok f st =>
    cases f with
    | exc x ρ => exact h.elim
    | next ρ =>
      obtain ⟨hl, h⟩ := PostS.ifG h
      intro μ2 H2 σ2 g2 s2 e2
      have g3 := gt g2 s2
      have ha2 := g3.get ha
      exact ⟨fz0 g2, h μ2 _ σ2 (gr_unlk ha h0 g3) (sr_unlk ha2 (fz0 g2) s2 (isLck_at hl)) (e2.monov (gv_put ha2))⟩
    | ret p =>
      obtain ⟨hl, h⟩ := PostS.ifG h
      intro μ2 H2 v g2 s2 e2
      have g3 := gt g2 s2
      have ha2 := g3.get ha
      exact ⟨fz0 g2, h μ2 _ v (gr_unlk ha h0 g3) (sr_unlk ha2 (fz0 g2) s2 (isLck_at hl)) (VR.monov (gv_put ha2) _ _ e2)⟩
    | brk ρ =>
      obtain ⟨hl, h⟩ := PostS.ifG h
      intro μ2 H2 σ2 g2 s2 e2
      have g3 := gt g2 s2
      have ha2 := g3.get ha
      exact ⟨fz0 g2, h μ2 _ σ2 (gr_unlk ha h0 g3) (sr_unlk ha2 (fz0 g2) s2 (isLck_at hl)) (e2.monov (gv_put ha2))⟩
    | cont ρ =>
      obtain ⟨hl, h⟩ := PostS.ifG h
      intro μ2 H2 σ2 g2 s2 e2
      have g3 := gt g2 s2
      have ha2 := g3.get ha
      exact ⟨fz0 g2, h μ2 _ σ2 (gr_unlk ha h0 g3) (sr_unlk ha2 (fz0 g2) s2 (isLck_at hl)) (e2.monov (gv_put ha2))⟩
end
theorem ms_forD {X : Cx} {W : WX} {pos npos : Pos} {x : Str} {i : Nat} {tg : Expr} {body : List Stmt} {g : GM} {m : Rho → M Fl} (hp : PassesOwn (model X.prog X.w) X.A X.env X.xe) (hc : X.calm = true) (he : ME X W (.Name x npos) (eVar i)) (hg : MG X W tg g) (hb : MSs X W body m)
    (hs : ∀ v, foldedSetIterable (.Name x npos) X.env v = pure v := by intro _; kernel_rfl) : MS X W (.For tg (.Name x npos) body [] pos) (sForD i g m) := by
  refine ⟨fun pins s σ H D I h => ?_⟩
  obtain ⟨μ, st, ρ, er, sr, h⟩ := h
  have plain : PostS (kw X) W D μ H (sFor (iSeq (eVar i)) g m ρ st) → _ := fun h' => (ms_for (pos := pos) hp hc (mi_seq he) hg hb hs).run pins s σ H D I ⟨μ, st, ρ, er, sr, h'⟩
  unfold sForD at h
  cases q : ρ[i]? with
  | none => rw [q] at h; exact plain h
  | some o =>
    cases o with
    | none => rw [q] at h; exact plain h
    | some v =>
      cases v with
      | loc n =>
        rw [q] at h
        dsimp only at h
        cases qc : st[n]? with
        | none => rw [qc] at h; exact h.elim
        | some c =>
          rw [qc] at h
          cases c with
          | dct kvs =>
            dsimp only at h
            obtain ⟨v, ev, rv⟩ := er.get i _ q
            obtain ⟨a, rfl, ha⟩ := loc_at rv
            obtain ⟨kv, h1, h2⟩ := sr.cell n _ a qc ha
            refine (ps_lock (ps_for (pos := pos) hp hc (pi_keys he) hg hb hs)).run pins s σ H D I ⟨a, .dK kv, h1, True.intro, fun od => ?_⟩
            have gv : Gv μ H μ (upd H a (.frz od (.dK kv))) := gv_put ha
            have r1 := KRs.mono gv _ _ h2
            refine ⟨μ, st.set n (.lck kvs), ρ, er.monov gv, sr.put ha ⟨od, kv, upd_same, r1⟩, ?_⟩
            unfold eVar
            rw [q]
            intro μ2 H2 u g2 s2 ru
            obtain ⟨a2, rfl, ha2⟩ := loc_at ru
            have ea : a2 = a := Option.some.inj (ha2.symm.trans (g2.get ha))
            subst ea
            have hf := g2.fz a2 _ _ upd_same
            refine ⟨a2, od, rfl, .inl ⟨kv, hf, ?_⟩⟩
            exact for_imp (sup_keys ha2 hf (KRs.mono g2.v _ _ r1)) ((er.monov gv).mono g2) s2 (post_unlk ha h1 g2 h)
          | lst xs => exact h.elim
          | ins C fs => exact h.elim
          | dcl k => exact h.elim
          | dcn k => exact h.elim
          | lck k => exact h.elim
      | _ => rw [q] at h; exact plain h
end MP

set_option maxRecDepth 100000
set_option maxHeartbeats 1000000
namespace MP
open PySem L2 PySem.Spec PyProof.Rows
abbrev eG1 (h : Heap) (T : String) (u : Value) : Heap := h.push { cls := .type T, data := .fields #[u, .int 0 0] }
abbrev eG2 (h : Heap) (T : String) (u : Value) : Heap := (eG1 h T u).push { cls := .type "enumerate", data := .fields #[.none, .bool false, .ref h.objs.size, rawInt 0, .none, .none] }
theorem meets_enumG_new (T : String) (u : Value) : Meets (Builtin.«enumerate.__new__» ⟨[.type "enumerate", u], []⟩) (fun _ R s => IterOf u T s.heap ∧ R (.ok (.ret (.ref (eG1 s.heap T u).objs.size))) { s with heap := eG2 s.heap T u }) :=
  .of_wp fun prog w A R s h => by
    obtain ⟨hp, g, d, tk, os⟩ := s; obtain ⟨hl, h⟩ := h
    have hsub := sub_enumerate
    have hL : IterOf u T (Shared.heap ⟨hp, g, d, tk, os⟩) := hl
    wp_walk using iter_of hL
    refine wpAny_stack_any fun st => wpAny_pure ?_
    split
    · rename_i c _ _ _ _ _
      cases (c == Value.type "enumerate") <;> (wp_walk using iter_of hL; exact ⟨_, rfl, h⟩)
    · wp_walk using iter_of hL
      exact ⟨_, rfl, h⟩
section
variable {prog : Program} {w : World} {A : Around} {E : Value → Shared → Prop} {s : Shared}
theorem call_enumG {T : String} {u : Value} {Q : Value → Shared → Prop} (hl : IterOf u T s.heap)
    (h : ∀ h', IsEnum h' (s.heap.objs.size + 1) s.heap.objs.size 0 .none → ItS T u s.heap.objs.size 0 h' → (∀ b o, s.heap.get? b = some o → h'.get? b = some o) → Q (.ref (s.heap.objs.size + 1)) { s with heap := h' }) :
    wpAny (model prog w) A (call (.type "enumerate") [u]) Q E s := by
  refine callType_new F.called_enumerate (by decide) (F.typeCall_enumerate_1 _) (F.newCall_enumerate_1 _) (fun obj => F.args_object_init_2 obj _) F.entry_enumerate_new (meets_enumG_new T u) ⟨hl, ?_⟩
  have hz : (eG1 s.heap T u).objs.size = s.heap.objs.size + 1 := Heap.size_push ..
  have g2 : (eG2 s.heap T u).get? (eG1 s.heap T u).objs.size = some _ := Heap.get?_push_size _ rfl
  have g1 : (eG2 s.heap T u).get? s.heap.objs.size = some _ := Heap.get?_push_of_some _ (Heap.get?_push_size _ rfl)
  show _ ∧ _
  rw [hz] at g2 ⊢
  exact ⟨⟨_, g2, rfl⟩, h _ g2 ⟨_, g1, rfl, rfl⟩ fun c o x => Heap.get?_push_of_some _ (Heap.get?_push_of_some _ x)⟩
end
def ItE (K : PySem.W.Frag) (k : Sk) : It :=
  ⟨fun i H => ∃ (xs : List V) (x : V), k.at K H xs ∧ xs[i]? = some x, fun i H v H' => ∃ T x, v = .ref T ∧ H T = none ∧ H' = upd H T (.tup [.int (i : Nat), x]) ∧ ∀ xs, k.at K H xs → xs[i]? = some x, fun i H => ∃ xs : List V, k.at K H xs ∧ i = xs.length⟩
theorem turn_enumG {P : Program} {w : World} {K : PySem.W.Frag} {elts : List Expr} {kk : Nat} {tpos : Pos} {k : Sk} {u : Value} {B : Nat} (r : RelV k.val u) (hb0 : ∀ a, u = .ref a → a < B) :
    Turn P w K (.Tuple elts kk tpos) (ItE K k) [B + 1, B] (B + 1) (fun i h => (∃ old, IsEnum h (B + 1) B ((i : Nat) : Int) old) ∧ ItS k.ty u B i h) where
  mem := by simp
  obj := fun i h st c hc => by
    obtain ⟨⟨old, he⟩, ⟨o1, e1, _, d1⟩⟩ := st
    have e' : c = B + 1 ∨ c = B := by simpa using hc
    rcases e' with q | q
    · rw [q]; exact ⟨_, he, fun v q => nomatch q⟩
    · rw [q]; exact ⟨o1, e1, fun v q => by rw [d1] at q; cases q⟩
  keep := fun i h h' st kp => by
    obtain ⟨⟨old, he⟩, h1⟩ := st
    exact ⟨⟨old, kp (B + 1) (by simp) _ he⟩, h1.at fun o q => kp B (by simp) o q⟩
  item := by
    intro X hP hw hK hc i pins s σ H E I hf st hg
    subst hP hw hK
    obtain ⟨⟨old, he⟩, s1⟩ := st
    obtain ⟨xs, x, hqx, hx⟩ := hg
    obtain ⟨fp1, P1, St1, D1, t1, m1, f1, b1, v1⟩ := draws_of (A := X.A.in1) (show X.A.in1.handled = none from I.ok.hd hc) I hqx r (fun a e => Nat.ne_of_lt (hb0 a e)) s1
    have ne : ∀ (a b : Nat), a ≠ b → ((a : Addr) ≠ b) := fun _ _ h => h
    have hef : B + 1 ∉ fp1 := fun hm => by
      rcases f1 _ hm with z | z
      · exact absurd z (ne _ _ (by omega))
      · exact absurd (show (B + 1 : Nat) < B from hb0 _ z) (by omega)
    have hel : B + 1 < s.heap.objs.size := Heap.lt_size he
    refine wpAny_pyNext_enum_itemD D1 he t1 (List.getElem?_eq_some_iff.mp hx).1 (ne _ _ (by omega)) hef fun y h' tk p1 ho d1 hT hsz hk => ?_
    obtain ⟨x', ex, rx⟩ := v1 y p1
    have ex' : x = x' := Option.some.inj (hx.symm.trans ex)
    subst ex'
    refine ⟨_, rfl, wpAny_letOwnedTupleGo_enum (s := { s with heap := h', toks := tk + 1 }) ho fun h'' he' sb => ?_⟩
    have hT2 : h''.get? s.heap.objs.size = some { cls := .type "tuple", data := .seq #[.int i tk, y] } := (sb.2 _ (Nat.ne_of_gt hel)).trans hT
    have new : ObjOk X.prog X.w (upd H s.heap.objs.size (.tup [.int (i : Nat), x])) h'' s.heap.objs.size (.tup [.int (i : Nat), x]) :=
      ⟨by show 2 ≤ sizeLine; decide, [.int i tk, y], .cons ⟨_, rfl⟩ (.cons rx .nil), ⟨_, hT2, rfl, _, rfl⟩⟩
    have I1 : Inv X pins σ (upd H s.heap.objs.size (.tup [.int (i : Nat), x])) { s with heap := h'', toks := tk + 1 } :=
      I.turnedNew (t' := tk + 1) (ch := [B + 1, B]) (fun c o hcm q => (sb.2 c (fun q' => hcm (by simp [q']))).trans (hk c o (fun q' => hcm (by simp [q'])) (fun q' => hcm (by simp [q'])) q)) hf (Nat.le_refl _) new
    refine ⟨.ref s.heap.objs.size, _, I1, rfl, ⟨_, x, rfl, I.hok.fresh (Nat.le_refl _), rfl, fun l hl => by rw [at_inj I hl hqx]; exact hx⟩, ⟨⟨y, ?_⟩, ?_⟩, fun c hcm => ?_⟩
    · have e1 : ((i + 1 : Nat) : Int) = (i : Int) + 1 := by omega
      rw [e1]; exact he'
    · exact (b1 _ _ d1).at fun o q => (sb.2 _ (ne _ _ (by omega))).trans q
    · have hlt : c < s.heap.objs.size := by
        have e' : c = B + 1 ∨ c = B := by simpa using hcm
        rcases e' with q | q
        · rw [q]; exact hel
        · rw [q]; obtain ⟨_, e1, _⟩ := s1; exact Heap.lt_size e1
      rw [upd_ne (Nat.ne_of_lt hlt)]
      exact (hf c hcm).1
  done := by
    intro X hP hw hK hc i pins s σ H E I hf st hg
    subst hP hw hK
    obtain ⟨⟨old, he⟩, s1⟩ := st
    obtain ⟨xs, hqx, hend⟩ := hg
    subst hend
    obtain ⟨fp1, P1, St1, D1, t1, m1, f1, b1, v1⟩ := draws_of (A := X.A.in1) (show X.A.in1.handled = none from I.ok.hd hc) I hqx r (fun a e => Nat.ne_of_lt (hb0 a e)) s1
    exact wpAny_pyNext_enum_endD D1 he t1 fun h' eb => ⟨rfl, I.turnedL (t' := s.toks) (ch := [B + 1, B]) (fun c o hcm q => eb c o (fun q' => hcm (by simp [q'])) q) hf⟩
  self := fun A i s Q E st h => let ⟨⟨_, he⟩, _⟩ := st; wpAny_pyIter_enum he h
def iEnumG (K : PySem.W.Frag) (ta : TA) : TI := fun σ H R => ta σ H fun vs H1 => ∃ (k : Sk) (xs : List V), vs = [k.val] ∧ k.at K H1 xs ∧ R (ItE K k) H1
theorem pi_enumG {X : Cx} {e : Expr} {ta : TA} {p pos tpos : Pos} {elts : List Expr} {kk : Nat} (hg : Gl X "enumerate") (hm : X.mg "enumerate" = none) (ha : PA X [e] ta) (hs : starEach [e] X.env = [(false, eval e X.env)] := by rfl) :
    PI X (.Tuple elts kk tpos) (.Call (.Name "enumerate" p) [e] [] pos) (iEnumG X.K ta) := by
  refine ⟨fun pins s σ H R I h => ?_⟩
  refine Call_ (ld_blt I hg hm boot_enumerate (PyProof.Rows.callWith_type1 (thn (ha.run pos pins s σ H _ I h) fun us s1 ⟨vs, H1, I1, r1, q1⟩ => ?_) hs rfl))
  obtain ⟨k, xs, ex, hqx, q⟩ := q1
  subst ex
  cases r1 with
  | cons r rr =>
    cases rr
    obtain ⟨i1, l1⟩ := iterOf_of I1 hqx r
    refine call_enumG i1 fun h' he h1 hk => wpAny_pyIter_enum he ?_
    have I2 : Inv X pins σ H1 { s1 with heap := h' } := I1.kept (t' := s1.toks) hk
    refine ⟨s1.heap.objs.size + 1, [s1.heap.objs.size + 1, s1.heap.objs.size], _, _, H1, rfl, I2, turn_enumG r l1, ⟨⟨.none, he⟩, h1⟩, fun b hb => ?_, q⟩
    have e' : b = s1.heap.objs.size + 1 ∨ b = s1.heap.objs.size := by simpa using hb
    have hle : s1.heap.objs.size ≤ b := by
      rcases e' with z | z
      · rw [z]; exact Nat.le_add_right _ _
      · rw [z]; exact Nat.le_refl _
    exact I1.fpOk hle (I1.hok.fresh hle)
theorem sup_enumG {K : KW} {H : Hp} {μ : Mu} {ps : List PV} {vs : List V} {k : Sk} (t1 : ∀ μ' H', Gr μ H μ' H' → k.at K H' vs) (r : VRs K H μ ps vs) : Sup K (ItE K k) (enumP ps) μ H := fun μ' H' st g sr => by
  have q1 := t1 μ' H' g
  refine ⟨fun i p hp => ?_, ⟨vs, q1, by unfold enumP; rw [List.length_mapIdx, VRs.length r]⟩⟩
  unfold enumP at hp
  rw [List.getElem?_mapIdx] at hp
  cases hq : ps[i]? with
  | none => rw [hq] at hp; cases hp
  | some p0 =>
    rw [hq] at hp
    cases hp
    obtain ⟨u, e1, f1⟩ := VRs.get (VRs.mono g ps vs r) hq
    refine ⟨⟨vs, u, q1, e1⟩, fun z H2 hz => ?_⟩
    obtain ⟨T, x', ex, hT, eh, hx⟩ := hz
    subst ex eh
    have ev : u = x' := Option.some.inj (e1.symm.trans (hx vs q1))
    subst ev
    refine ⟨gr_new hT, sr.new hT, ?_⟩
    refine (show ∃ a zs, V.ref T = .ref a ∧ TupAt K (upd H' T (.tup [.int (i : Nat), u])) μ' a zs ∧ VRs K (upd H' T (.tup [.int (i : Nat), u])) μ' [.int (i : Nat), p0] zs from ⟨T, _, rfl, ?_, VRs.cons rfl (VRs.cons (VR.mono (gr_new hT) _ _ f1) VRs.nil)⟩)
    exact .inl ⟨upd_same, sr.free hT⟩
def enumG (xs : List PV) : M (List PV) := match xs with
  | [p] => match skOf p with
    | some ps => M.ret (enumP ps)
    | none => M.fail
  | _ => M.fail
theorem mi_enumG {X : Cx} {W : WX} {e : Expr} {p pos tpos : Pos} {elts : List Expr} {kk : Nat} {ma : Rho → M (List PV)} (hg : Gl X "enumerate") (hm : X.mg "enumerate" = none) (ha : MA X W [e] ma) (hs : starEach [e] X.env = [(false, eval e X.env)] := by kernel_rfl) :
    MI X W (.Tuple elts kk tpos) (.Call (.Name "enumerate" p) [e] [] pos) (iCall enumG ma) :=
  PI.imp (pi_enumG hg hm ha hs) fun σ H R ⟨μ, st, ρ, er, sr, h⟩ => ⟨μ, st, ρ, er, sr, (PostG.bind h).mono fun us H1 ⟨μ1, st1, xs, g1, s1, rxs, h1⟩ => by
    unfold enumG at h1
    split at h1
    · rename_i q
      obtain ⟨u, rfl, ru⟩ := one_of rxs
      cases hk : skOf q with
      | none => rw [hk] at h1; exact h1.elim
      | some ps =>
        rw [hk] at h1
        obtain ⟨k, vs, rfl, t, rs⟩ := sk_at ru hk
        exact ⟨k, vs, rfl, t μ1 H1 (Gr.refl _ _), h1 μ1 H1 _ (Gr.refl _ _) s1 (sup_enumG t rs)⟩
    · exact h1.elim⟩
end MP

set_option maxRecDepth 100000
set_option maxHeartbeats 1000000
namespace MP
open PySem L2
theorem fold_app (x : Array Nat) : ∀ (k : Nat) (acc : Array Nat), ((List.replicate k x).foldl (· ++ ·) acc).toList = acc.toList ++ (List.replicate k x.toList).flatten
  | 0, acc => by simp
  | k + 1, acc => by
    rw [List.replicate_succ, List.foldl_cons, fold_app x k, List.replicate_succ, List.flatten_cons]
    simp
theorem fold_app0 (x : Array Nat) (k : Nat) : (List.replicate k x).foldl (· ++ ·) #[] = (List.replicate k x.toList).flatten.toArray := by
  apply Array.toList_inj.mp
  rw [fold_app]
  simp
theorem op_mulS {X : Cx} : OpR X (binaryOp .Mult) (fun x y H Q => ∃ (a : Str) (k : Int), x = .str a ∧ y = .int k ∧ -1000000 ≤ k ∧ k ≤ 1000 ∧ a.length ≤ 1000 ∧ Q (.str ⟨(List.replicate k.toNat a.cps.toList).flatten.toArray⟩) H) := by
  intro pins s σ H x y v u Q I rx ry h
  obtain ⟨a, k, rfl, rfl, h1, h2, h3, q⟩ := h
  obtain ⟨t, rfl⟩ := rx
  obtain ⟨t', rfl⟩ := ry
  refine P.mul_str ?_ ?_ ?_ ?_
  · rw [decide_eq_false (by omega), decide_eq_false (by omega)]; rfl
  · intro h4 _ h5
    have e1 : (2 ^ 63 - 1 : Int) / 1000 ≤ (2 ^ 63 - 1 : Int) / k := by
      have hk : 0 < k := by omega
      have e3 : k * ((2 ^ 63 - 1 : Int) / 1000) ≤ 1000 * ((2 ^ 63 - 1 : Int) / 1000) := Int.mul_le_mul_of_nonneg_right h2 (by decide)
      have e4 : 1000 * ((2 ^ 63 - 1 : Int) / 1000) ≤ 2 ^ 63 - 1 := by decide
      exact (Int.le_ediv_iff_mul_le hk).mpr (by rw [Int.mul_comm]; omega)
    have e2 : (1000 : Int) < (2 ^ 63 - 1 : Int) / 1000 := by decide
    omega
  · intro h4 _
    have e : a.length * k.toNat ≤ 1000 * 1000 := Nat.mul_le_mul h3 (by omega)
    exact decide_eq_false (fun z => by
      have := sizeLine_eq
      have z' : sizeLine < a.length * k.toNat := z
      omega)
  · by_cases h4 : k < 1
    · rw [if_pos h4]
      refine ⟨by decide, .str ⟨(List.replicate k.toNat a.cps.toList).flatten.toArray⟩, H, I.tok _, ?_, q⟩
      have : k.toNat = 0 := by omega
      rw [this]
      exact ⟨_, rfl⟩
    · rw [if_neg h4]
      by_cases h5 : (k == 1 || a.length == 0) = true
      · rw [if_pos h5]
        refine ⟨.str ⟨(List.replicate k.toNat a.cps.toList).flatten.toArray⟩, H, I, ?_, q⟩
        have e : (⟨(List.replicate k.toNat a.cps.toList).flatten.toArray⟩ : Str) = a := by
          rcases Bool.or_eq_true _ _ ▸ h5 with h6 | h6
          · have : k.toNat = 1 := by have := eq_of_beq h6; omega
            rw [this]
            simp
          · have h7 : a.cps.size = 0 := eq_of_beq h6
            have h8 : a.cps = #[] := Array.eq_empty_of_size_eq_zero h7
            obtain ⟨c⟩ := a
            simp at h8
            subst h8
            simp
        rw [e]
        exact ⟨t, rfl⟩
      · rw [if_neg h5]
        have e : ((List.replicate k.toNat a.cps).foldl (· ++ ·) #[]) = (List.replicate k.toNat a.cps.toList).flatten.toArray := fold_app0 _ _
        rw [e]
        refine ⟨?_, .str ⟨(List.replicate k.toNat a.cps.toList).flatten.toArray⟩, H, I.tok _, ⟨_, rfl⟩, q⟩
        show (⟨(List.replicate k.toNat a.cps.toList).flatten.toArray⟩ : Str).cps.size ≤ _
        have e : k.toNat * a.length ≤ 1000 * 1000 := Nat.mul_le_mul (by omega) h3
        have e2 : a.cps.toList.length = a.length := by simp [Str.length]
        simp [List.length_flatten, e2]
        have := sizeLine_eq
        omega
def mulS (x y : PV) : M PV := match x, y with
  | .str a, .int k => if -1000000 ≤ k ∧ k ≤ 1000 ∧ a.length ≤ 1000 then M.ret (.str (List.replicate k.toNat a).flatten) else M.fail
  | _, _ => M.fail
theorem t_mulS {K : KW} : T2 K (fun x y H Q => ∃ (a : Str) (k : Int), x = .str a ∧ y = .int k ∧ -1000000 ≤ k ∧ k ≤ 1000 ∧ a.length ≤ 1000 ∧ Q (.str ⟨(List.replicate k.toNat a.cps.toList).flatten.toArray⟩) H) mulS := by
  intro μ st H x y u v E Q sr rx ry h
  unfold mulS at h
  split at h
  · rename_i a k
    cases (show u = V.str ⟨a.toArray⟩ from rx)
    cases (show v = V.int k from ry)
    by_cases hz : -1000000 ≤ k ∧ k ≤ 1000 ∧ a.length ≤ 1000
    · rw [if_pos hz] at h
      refine ⟨⟨a.toArray⟩, k, rfl, rfl, hz.1, hz.2.1, by rw [str_len]; exact hz.2.2, ?_⟩
      exact post_same h sr rfl
    · rw [if_neg hz] at h
      exact h.elim
  · exact h.elim
theorem me_mulS {X : Cx} {W : WX} {a b : Expr} {pos : Pos} {ma mb : Rho → M PV} (ha : ME X W a ma) (hb : ME X W b mb) : ME X W (.BinOp a .Mult b pos) (eBin mulS ma mb) := me_bin op_mulS t_mulS ha hb
end MP

set_option maxRecDepth 100000
set_option maxHeartbeats 1000000
namespace MP
open PySem L2
def fV : V → Bool
  | .non => true
  | .int _ => true
  | .str _ => true
  | _ => false
theorem eqAt_flat {A : Around} {s : Shared} {x y : V} {v u : Value} (hx : fV x = true) (hy : fV y = true) (rx : RelV x v) (ry : RelV y u) : SeqAt.EqAt A s v u (decide (x = y)) := by
  cases x <;> simp [fV] at hx <;> cases y <;> simp [fV] at hy
  case non.non => cases rx; cases ry; exact SeqAt.EqAt.same _
  case non.int => cases rx; obtain ⟨t, rfl⟩ := ry; exact SeqAt.EqAt.none_int _ _
  case non.str => cases rx; obtain ⟨t, rfl⟩ := ry; exact SeqAt.EqAt.none_str _ _
  case int.non => cases ry; obtain ⟨t, rfl⟩ := rx; exact SeqAt.EqAt.int_none _ _
  case int.int i j =>
    obtain ⟨t, rfl⟩ := rx; obtain ⟨t', rfl⟩ := ry
    refine (SeqAt.EqAt.int_int i t j t').cast ?_
    by_cases h : i = j
    · subst h; simp
    · rw [decide_eq_false (fun z => h (V.int.inj z))]; simpa using h
  case int.str => obtain ⟨t, rfl⟩ := rx; obtain ⟨t', rfl⟩ := ry; exact SeqAt.EqAt.int_str _ _ _ _
  case str.non => cases ry; obtain ⟨t, rfl⟩ := rx; exact SeqAt.EqAt.str_none _ _
  case str.int => obtain ⟨t, rfl⟩ := rx; obtain ⟨t', rfl⟩ := ry; exact SeqAt.EqAt.str_int _ _ _ _
  case str.str a b =>
    obtain ⟨t, rfl⟩ := rx; obtain ⟨t', rfl⟩ := ry
    refine (SeqAt.EqAt.str_str a t b t').cast ?_
    by_cases h : a = b
    · subst h; simp
    · rw [decide_eq_false (fun z => h (V.str.inj z))]; simpa using h
def dEqV (ks ls : List (Key × V)) : Bool := (ks.length == ls.length) && ks.all fun p => decide (valV ls p.1 = some p.2)
def rEqDD (n : Bool) : R2 := fun x y H Q => ∃ a b ks ls, x = .ref a ∧ y = .ref b ∧ H a = some (.dK ks) ∧ H b = some (.dK ls) ∧ ks.all (fun p => fV p.2) = true ∧ ls.all (fun p => fV p.2) = true ∧ Q (.bl (ng n (dEqV ks ls))) H
theorem hits_of {A : Around} {s : Shared} {ls : List (Key × V)} {vb : List (Key × Value)} (rb : KV ls vb) (fl : ls.all (fun p => fV p.2) = true) {ks : List (Key × V)} {va : List (Key × Value)} (ra : KV ks va) (fk : ks.all (fun p => fV p.2) = true) :
    PySem.W.KeqHits A s vb va (ks.all fun p => decide (valV ls p.1 = some p.2)) := by
  unfold KV at ra
  induction ra with
  | nil => exact .nil
  | @cons p q ps qs h t ih =>
    rw [List.all_cons, Bool.and_eq_true] at fk
    rw [List.all_cons]
    obtain ⟨h1, h2⟩ := h
    obtain ⟨key, v⟩ := q
    have h1' : p.1 = key := h1
    subst h1'
    have rr := rb.val p.1
    cases e : valV ls p.1 with
    | none =>
      rw [e] at rr
      simp only [reduceCtorEq, decide_false, Bool.false_and]
      exact .miss (RelO.none_of rr)
    | some u =>
      rw [e] at rr
      obtain ⟨y, hy, ry⟩ := rr.some_of
      have fu : fV u = true := by
        have hm : ∃ p' ∈ ls, p'.2 = u := by
          unfold valV at e
          obtain ⟨p', e1, e2⟩ := Option.map_eq_some_iff.mp e
          exact ⟨p', List.mem_of_find?_eq_some e1, e2⟩
        obtain ⟨p', m, rfl⟩ := hm
        exact List.all_eq_true.mp fl p' m
      have hh := PySem.W.KeqHits.hit hy (eqAt_flat (A := A) (s := s) fk.1 fu h2 ry) (ih fk.2)
      have e2 : decide (p.2 = u) = decide (some u = some p.2) := by
        by_cases z : p.2 = u
        · subst z; simp
        · rw [decide_eq_false z, decide_eq_false (fun w => z (Option.some.inj w).symm)]
      rw [e2] at hh
      exact hh
theorem op_eqDD {X : Cx} (hu : X.A.units + 64 < cLine) : OpR X (compareOp .Eq) (rEqDD false) := by
  intro pins s σ H x y v u Q I rx ry h
  obtain ⟨a, b, ks, ls, rfl, rfl, ha, hb, fk, fl, q⟩ := h
  cases rx; cases ry
  obtain ⟨_, la, va, ra, da⟩ := dk_of I.hok ha
  obtain ⟨_, lb, vb, rb, db⟩ := dk_of I.hok hb
  refine PySem.W.keq_eq la lb da db (by omega) (fun _ => hits_of rb fl ra fk) ⟨.bl (dEqV ks ls), H, I, ?_, q⟩
  rw [← ra.length, ← rb.length]; rfl
theorem op_neDD {X : Cx} (hu : X.A.units + 64 < cLine) : OpR X (compareOp .NotEq) (rEqDD true) := by
  intro pins s σ H x y v u Q I rx ry h
  obtain ⟨a, b, ks, ls, rfl, rfl, ha, hb, fk, fl, q⟩ := h
  cases rx; cases ry
  obtain ⟨_, la, va, ra, da⟩ := dk_of I.hok ha
  obtain ⟨_, lb, vb, rb, db⟩ := dk_of I.hok hb
  refine PySem.W.keq_ne la lb da db (by omega) (fun _ => hits_of rb fl ra fk) ⟨.bl (!dEqV ks ls), H, I, ?_, q⟩
  rw [← ra.length, ← rb.length]; rfl
def flP : PV → Bool
  | .non => true
  | .int _ => true
  | .str _ => true
  | _ => false
def dEqP (kx ky : List (PV × PV)) : Bool := (kx.length == ky.length) && kx.all fun p => decide (lookP ky p.1 = some p.2)
theorem flP_V {K : PySem.W.Frag} {H : Hp} {μ : Mu} {p : PV} {v : V} (h : flP p = true) (r : VR K H μ p v) : fV v = true := by
  cases p <;> simp [flP] at h
  · cases (show v = V.non from r); rfl
  · rename_i i; cases (show v = V.int i from r); rfl
  · rename_i i; cases (show v = V.str ⟨i.toArray⟩ from r); rfl
theorem flP_dec {K : PySem.W.Frag} {H : Hp} {μ : Mu} {p q : PV} {v u : V} (h : flP p = true) (h' : flP q = true) (r : VR K H μ p v) (r' : VR K H μ q u) : (v = u) = (p = q) := by
  cases p <;> simp [flP] at h <;> cases q <;> simp [flP] at h'
  all_goals (first | cases (show v = V.non from r) | cases (show v = V.int _ from r) | cases (show v = V.str _ from r))
  all_goals (first | cases (show u = V.non from r') | cases (show u = V.int _ from r') | cases (show u = V.str _ from r'))
  all_goals simp
theorem KRs.flat {K : PySem.W.Frag} {H : Hp} {μ : Mu} : ∀ {kvs : List (PV × PV)} {kv : List (Key × V)}, KRs K H μ kvs kv → kvs.all (fun p => flP p.2) = true → kv.all (fun p => fV p.2) = true
  | [], kv, h, _ => by have e : kv = [] := h; subst e; rfl
  | p :: r, kv, h, f => by
    obtain ⟨k, v, t, rfl, _, rv, rt⟩ := h
    rw [List.all_cons, Bool.and_eq_true] at f ⊢
    exact ⟨flP_V f.1 rv, KRs.flat rt f.2⟩
theorem lookP_mem {ky : List (PV × PV)} {k p : PV} (h : lookP ky k = some p) : ∃ q ∈ ky, q.2 = p := by
  induction ky with
  | nil => cases h
  | cons q r ih =>
    unfold lookP at h
    by_cases e : q.1 = k
    · rw [if_pos e] at h; cases h; exact ⟨q, List.mem_cons_self, rfl⟩
    · rw [if_neg e] at h
      obtain ⟨q', m, e'⟩ := ih h
      exact ⟨q', List.mem_cons_of_mem _ m, e'⟩
theorem dEq_of {K : PySem.W.Frag} {H : Hp} {μ : Mu} {ky : List (PV × PV)} {ls : List (Key × V)} (rl : KRs K H μ ky ls) (fl : ky.all (fun p => flP p.2) = true) : ∀ {kx : List (PV × PV)} {ks : List (Key × V)}, KRs K H μ kx ks → kx.all (fun p => flP p.2) = true →
    (ks.all fun p => decide (valV ls p.1 = some p.2)) = (kx.all fun p => decide (lookP ky p.1 = some p.2))
  | [], ks, h, _ => by have e : ks = [] := h; subst e; rfl
  | p :: r, ks, h, f => by
    obtain ⟨k, v, t, rfl, hk, rv, rt⟩ := h
    rw [List.all_cons, Bool.and_eq_true] at f
    rw [List.all_cons, List.all_cons, dEq_of rl fl rt f.2]
    congr 1
    obtain ⟨l1, l2⟩ := KRs.look hk rl
    cases e : lookP ky p.1 with
    | none => rw [l2 e]; simp
    | some q =>
      obtain ⟨w, ew, rw'⟩ := l1 q e
      obtain ⟨z, m, rfl⟩ := lookP_mem e
      have fz : flP z.2 = true := List.all_eq_true.mp fl z m
      rw [ew]
      have := flP_dec fz f.1 rw' rv
      simp [this]
def eqG (n : Bool) (x y : PV) : M PV := fun st => match dctOf x st, dctOf y st with
  | some kx, some ky => if (kx.all (fun p => flP p.2) && ky.all (fun p => flP p.2)) = true then .ok (.bl (ng n (dEqP kx ky))) st else .bad
  | _, _ => .bad
theorem t_eqG {K : KW} {n : Bool} : T2 K (rEqDD n) (eqG n) := by
  intro μ st H x y u v E Q sr rx ry h
  unfold eqG at h
  cases hx : dctOf x st with
  | none => rw [hx] at h; exact h.elim
  | some kx =>
    cases hy : dctOf y st with
    | none => rw [hx, hy] at h; exact h.elim
    | some ky =>
      rw [hx, hy] at h
      dsimp only at h
      by_cases hf : (kx.all (fun p => flP p.2) && ky.all (fun p => flP p.2)) = true
      · rw [if_pos hf] at h
        rw [Bool.and_eq_true] at hf
        obtain ⟨_, a, ks, _, rfl, _, _, h1, h2⟩ := dctOf_at sr rx hx
        obtain ⟨_, b, ls, _, rfl, _, _, h3, h4⟩ := dctOf_at sr ry hy
        refine ⟨a, b, ks, ls, rfl, rfl, h1, h3, KRs.flat h2 hf.1, KRs.flat h4 hf.2, ?_⟩
        have e : dEqV ks ls = dEqP kx ky := by
          unfold dEqV dEqP
          rw [dEq_of h4 hf.2 h2 hf.1, KRs.length h2, KRs.length h4]
        rw [e]
        exact post_same h sr rfl
      · rw [if_neg hf] at h
        exact h.elim
section
variable {X : Cx} {W : WX} {a b : Expr} {pos : Pos} {ma mb : Rho → M PV}
theorem me_eqG (hu : X.A.units + 64 < cLine) (ha : ME X W a ma) (hb : ME X W b mb) : ME X W (.Compare a [.Eq] [b] pos) (eBin (eqG false) ma mb) := me_cmp (op_eqDD hu) t_eqG ha hb (nomark _)
theorem me_neG (hu : X.A.units + 64 < cLine) (ha : ME X W a ma) (hb : ME X W b mb) : ME X W (.Compare a [.NotEq] [b] pos) (eBin (eqG true) ma mb) := me_cmp (op_neDD hu) t_eqG ha hb (nomark _)
theorem mt_eqG (hu : X.A.units + 64 < cLine) (ha : ME X W a ma) (hb : ME X W b mb) : MT X W (.Compare a [.Eq] [b] pos) (eB (eBin (eqG false) ma mb)) := mt_cmp (op_eqDD hu) t_eqG ha hb (nomark _)
theorem mt_neG (hu : X.A.units + 64 < cLine) (ha : ME X W a ma) (hb : ME X W b mb) : MT X W (.Compare a [.NotEq] [b] pos) (eB (eBin (eqG true) ma mb)) := mt_cmp (op_neDD hu) t_eqG ha hb (nomark _)
end
end MP

set_option maxRecDepth 100000
set_option maxHeartbeats 1000000
namespace MP
open PySem L2
abbrev GI := (Sto → Bool) × List PV
def yesG : Sto → Bool := fun _ => true
theorem Sup.g {K : KW} {J : It} {ps : List PV} {μ : Mu} {H : Hp} (h : Sup K J ps μ H) : SupG K J ps yesG μ H := fun μ' H' st g s _ => h μ' H' st g s
def tMIG (K : KW) (W : WX) (m : Rho → M GI) : TI := fun σ H R => ∃ μ st ρ, ER K H μ ρ σ ∧ SR K μ st H ∧ PostG K (fun c d H' => W c d σ H') (fun H μ gx (J : It) => SupG K J gx.2 gx.1 μ H) R μ H (m ρ st)
def MIG (X : Cx) (W : WX) (tg iter : Expr) (m : Rho → M GI) : Prop := PI X tg iter (tMIG (kw X) W m)
def anyM (v : PV) : M GI := fun st => match v with
  | .tup xs => .ok (yesG, xs) st
  | .lst xs => .ok (yesG, xs) st
  | .frz xs => .ok (yesG, xs) st
  | .str z => .ok (yesG, z.map fun c => .str [c]) st
  | .loc n => match st[n]? with
    | some (.lst xs) => .ok (gd n xs, xs) st
    | _ => .bad
  | _ => .bad
def iAny (m : Rho → M PV) : Rho → M GI := fun ρ => M.bind (m ρ) anyM
def enumA (v : PV) : M GI := fun st => match v with
  | .tup xs => .ok (yesG, enumP xs) st
  | .lst xs => .ok (yesG, enumP xs) st
  | .frz xs => .ok (yesG, enumP xs) st
  | .str z => .ok (yesG, enumP (z.map fun c => .str [c])) st
  | .loc n => match st[n]? with
    | some (.lst xs) => .ok (gd n xs, enumP xs) st
    | _ => .bad
  | _ => .bad
def iEnumA (m : Rho → M PV) : Rho → M GI := fun ρ => M.bind (m ρ) enumA
theorem sup_cellG {K : KW} {H : Hp} {μ : Mu} {a : Addr} {n : Nat} {xs : List PV} (ha : μ.l[n]? = some a) : SupG K (ItE K (.l a)) (enumP xs) (gd n xs) μ H := fun μ' H' st g sr hG => by
  obtain ⟨vs, q0, r⟩ := sr.cell n _ a (gd_at hG) (g.get ha)
  have q : (Sk.l a).at K H' vs := SqL.of q0
  refine ⟨fun i p hp => ?_, ⟨vs, q, by unfold enumP; rw [List.length_mapIdx, VRs.length r]⟩⟩
  unfold enumP at hp
  rw [List.getElem?_mapIdx] at hp
  cases hq : xs[i]? with
  | none => rw [hq] at hp; cases hp
  | some p0 =>
    rw [hq] at hp
    cases hp
    obtain ⟨v, e1, e2⟩ := VRs.get r hq
    refine ⟨⟨vs, v, q, e1⟩, fun x H2 ⟨T, y, ex, hT, eh, hy⟩ => ?_⟩
    subst ex eh
    have ev : v = y := Option.some.inj (e1.symm.trans (hy vs q))
    subst ev
    refine ⟨gr_new hT, sr.new hT, ?_⟩
    refine (show ∃ a ws, V.ref T = .ref a ∧ TupAt K (upd H' T (.tup [.int (i : Nat), v])) μ' a ws ∧ VRs K (upd H' T (.tup [.int (i : Nat), v])) μ' [.int (i : Nat), p0] ws from ⟨T, _, rfl, ?_, VRs.cons rfl (VRs.cons (VR.mono (gr_new hT) _ _ e2) VRs.nil)⟩)
    exact .inl ⟨upd_same, sr.free hT⟩
section
variable {X : Cx} {W : WX} {tg e : Expr} {me : Rho → M PV}
theorem mig_any (he : ME X W e me) : MIG X W tg e (iAny me) :=
  PI.imp (PI.or (pi_tup he) (PI.or (pi_list he) (pi_str he))) fun σ H R ⟨μ, st, ρ, er, sr, h⟩ => by
    unfold iAny M.bind at h
    cases q : me ρ st with
    | bad => rw [q] at h; exact h.elim
    | err x st' =>
      rw [q] at h
      refine .inl ⟨μ, st, ρ, er, sr, ?_⟩
      rw [q]
      exact h
    | ok v st' =>
      rw [q] at h
      dsimp only at h
      unfold anyM at h
      cases v with
      | tup xs =>
        refine .inl ⟨μ, st, ρ, er, sr, ?_⟩
        rw [q]
        intro μ1 H1 u g1 s1 ru
        obtain ⟨a, vs, rfl, t, rs⟩ := tup_at ru
        exact ⟨a, rfl, ⟨vs, t.sq⟩, h μ1 H1 _ g1 s1 (sup_tup t rs).g⟩
      | lst xs =>
        refine .inr (.inl ⟨μ, st, ρ, er, sr, ?_⟩)
        rw [q]
        intro μ1 H1 u g1 s1 ru
        obtain ⟨a, vs, rfl, t, rs⟩ := lst_at ru
        exact ⟨a, rfl, ⟨vs, t.sq⟩, h μ1 H1 _ g1 s1 (sup_lst (fun _ _ g => (t.grow g).sq) rs).g⟩
      | frz xs =>
        refine .inr (.inl ⟨μ, st, ρ, er, sr, ?_⟩)
        rw [q]
        intro μ1 H1 u g1 s1 ru
        obtain ⟨a, vs, rfl, t, rs⟩ := frz_at ru
        exact ⟨a, rfl, ⟨vs, t.sq⟩, h μ1 H1 _ g1 s1 (sup_lst (fun _ _ g => (t.grow g).sq) rs).g⟩
      | str z =>
        refine .inr (.inr ⟨μ, st, ρ, er, sr, ?_⟩)
        rw [q]
        intro μ1 H1 u g1 s1 ru
        cases (show u = V.str ⟨z.toArray⟩ from ru)
        exact ⟨_, rfl, h μ1 H1 _ g1 s1 sup_str.g⟩
      | loc n =>
        dsimp only at h
        cases qc : st'[n]? with
        | none => rw [qc] at h; exact h.elim
        | some c =>
          rw [qc] at h
          cases c with
          | lst xs =>
            refine .inr (.inl ⟨μ, st, ρ, er, sr, ?_⟩)
            rw [q]
            intro μ1 H1 u g1 s1 ru
            obtain ⟨a, rfl, ha⟩ := loc_at ru
            obtain ⟨vs, q0, r⟩ := s1.cell n _ a qc ha
            exact ⟨a, rfl, ⟨vs, SqL.of q0⟩, h μ1 H1 _ g1 s1 (sup_cell ha)⟩
          | _ => exact h.elim
      | _ => exact h.elim
theorem mig_enum {p pos tpos : Pos} {elts : List Expr} {kk : Nat} (hg : Gl X "enumerate") (hm : X.mg "enumerate" = none) (he : ME X W e me) (hs : starEach [e] X.env = [(false, eval e X.env)] := by kernel_rfl) :
    MIG X W (.Tuple elts kk tpos) (.Call (.Name "enumerate" p) [e] [] pos) (iEnumA me) := PI.imp (pi_enumG hg hm (ma_cons he ma_nil hs) hs) fun σ H R ⟨μ, st, ρ, er, sr, h⟩ => ⟨μ, st, ρ, er, sr, by
  have h0 := (PostG.bind (R' := VR X.K) h)
  unfold aCons
  refine PostG.tieA h0 fun u H1 ⟨μ1, st1, v, g1, s1, rv, h1⟩ => ?_
  unfold enumA at h1
  cases v with
  | tup xs =>
    obtain ⟨k, vs, rfl, t, rs⟩ := sk_at rv (show skOf (.tup xs) = some xs from rfl)
    exact ⟨k, vs, rfl, t μ1 H1 (Gr.refl _ _), h1 μ1 H1 _ (Gr.refl _ _) s1 (sup_enumG t rs).g⟩
  | lst xs =>
    obtain ⟨k, vs, rfl, t, rs⟩ := sk_at rv (show skOf (.lst xs) = some xs from rfl)
    exact ⟨k, vs, rfl, t μ1 H1 (Gr.refl _ _), h1 μ1 H1 _ (Gr.refl _ _) s1 (sup_enumG t rs).g⟩
  | frz xs =>
    obtain ⟨k, vs, rfl, t, rs⟩ := sk_at rv (show skOf (.frz xs) = some xs from rfl)
    exact ⟨k, vs, rfl, t μ1 H1 (Gr.refl _ _), h1 μ1 H1 _ (Gr.refl _ _) s1 (sup_enumG t rs).g⟩
  | str z =>
    obtain ⟨k, vs, rfl, t, rs⟩ := sk_at rv (show skOf (.str z) = some (z.map fun c => .str [c]) from rfl)
    exact ⟨k, vs, rfl, t μ1 H1 (Gr.refl _ _), h1 μ1 H1 _ (Gr.refl _ _) s1 (sup_enumG t rs).g⟩
  | loc n =>
    dsimp only at h1
    cases q : st1[n]? with
    | none => rw [q] at h1; exact h1.elim
    | some c =>
      rw [q] at h1
      cases c with
      | lst xs =>
        obtain ⟨a, rfl, ha⟩ := loc_at rv
        obtain ⟨vs, q0, r⟩ := s1.cell n _ a q ha
        exact ⟨.l a, vs, rfl, SqL.of q0, h1 μ1 H1 _ (Gr.refl _ _) s1 (sup_cellG ha)⟩
      | _ => exact h1.elim
  | _ => exact h1.elim⟩
variable {pos : Pos} {m : Rho → M Fl}
def sForA (mi : Rho → M GI) (g : GM) (b : Rho → M Fl) : Rho → M Fl := fun ρ => onErr ρ (mi ρ) fun gx => forG gx.1 g b gx.2 ρ
theorem ms_forA {iter : Expr} {body : List Stmt} {mi : Rho → M GI} {g : GM} (hp : PassesOwn (model X.prog X.w) X.A X.env X.xe) (hc : X.calm = true) (hi : MIG X W tg iter mi) (hg : MG X W tg g) (hb : MSs X W body m)
    (hs : ∀ x, foldedSetIterable iter X.env x = pure x := by intro _; kernel_rfl) : MS X W (.For tg iter body [] pos) (sForA mi g m) :=
  PS.imp (ps_for hp hc hi hg hb hs) fun D σ H ⟨μ, st, ρ, er, sr, h⟩ => ⟨μ, st, ρ, er, sr, (PostS.onErr h er).mono fun J H1 ⟨μ1, st1, gx, g1, s1, su, h1⟩ => for_impG su (er.mono g1) s1 h1⟩
def eLcA (k : List PV → M PV) (mi : Rho → M GI) (g : GM) (t : Rho → M Bool) (e : Rho → M PV) (vs : List Nat) : Rho → M PV := fun ρ => M.bind (mi ρ) fun gx => M.bind (lcG gx.1 g t e (wipeP ρ vs) gx.2 []) k
theorem lc_tieA {mi : Rho → M GI} {g0 : TG} {g : GM} {t : Rho → M Bool} {e : Rho → M PV} {k : List PV → M PV} {vs : List Nat} (tg : TGo (kw X) vs g0 g) (le : LcEnd (kw X) k) : ∀ σ H Q, tM (kw X) W (eLcA k mi g t e vs) σ H Q → tLc (tMIG (kw X) W mi) g0 (tMT (kw X) W0 t) (tM (kw X) W0 e) vs σ H Q :=
  fun σ H Q ⟨μ, st, ρ, er, sr, h⟩ => ⟨μ, st, ρ, er, sr, (PostG.bind h).mono fun J H1 ⟨μ1, st1, gx, g1, s1, su, h1⟩ D hD => lc_impG su (er.mono g1) s1 tg le hD h1⟩
theorem me_lcA {elt tgt iter : Expr} {ifs : List Expr} {scope : Scope} {own : List (Str × Nat)} {pos : Pos} {mi : Rho → M GI} {g0 : TG} {g : GM} {t : Rho → M Bool} {e : Rho → M PV} {k : List PV → M PV} (hc : X.calm = true) (hN : X.N.Nodup) (hi : MIG X W tgt iter mi) (ok : BlkOk X.N X.env.scope scope own) (tg : TGo (kw X) (own.map (·.2)) g0 g) (le : LcEnd (kw X) k)
    (hg : ∀ (s : Shared) (H : Hp) (C : Addr) (cl : List (Str × Addr)) (fp : List Addr), PG (X.blk s H scope (compEnvC scope cl C X.env) fp) tgt g0)
    (ht : ∀ (s : Shared) (H : Hp) (C : Addr) (cl : List (Str × Addr)) (fp : List Addr), MTs (X.blk s H scope (compEnvC scope cl C X.env) fp) W0 ifs t)
    (he : ∀ (s : Shared) (H : Hp) (C : Addr) (cl : List (Str × Addr)) (fp : List Addr), ME (X.blk s H scope (compEnvC scope cl C X.env) fp) W0 elt e) (hs : ∀ x, foldedSetIterable iter X.env x = pure x := by intro _; kernel_rfl) :
    ME X W (.ListComp elt [⟨tgt, iter, ifs, 0⟩] scope pos) (eLcA k mi g t e (own.map (·.2))) := PE.imp (pe_lc (tt := tMT (kw X) W0 t) (te := tM (kw X) W0 e) hc hN hi ok hg ht he hs) (lc_tieA tg le)
theorem ms_setLcA {i : Nat} {y : Str} {py spos : Pos} {elt tgt iter : Expr} {ifs : List Expr} {scope : Scope} {own : List (Str × Nat)} {pos : Pos} {mi : Rho → M GI} {g0 : TG} {g : GM} {t : Rho → M Bool} {e : Rho → M PV} {k : List PV → M PV} (hc : X.calm = true) (hN : X.N.Nodup) (hy : X.N[i]? = some y) (hyl : X.env.scope.names.lookup y = some .local)
    (hsw : swapsWith (.ListComp elt [⟨tgt, iter, ifs, 0⟩] scope pos) (some (.Name y py)) spos.line X.env = pure true) (hi : MIG X W tgt iter mi) (ok : BlkOk X.N X.env.scope scope own) (tg : TGo (kw X) (own.map (·.2)) g0 g) (le : LcEnd (kw X) k)
    (hg : ∀ (s : Shared) (H : Hp) (C : Addr) (cl : List (Str × Addr)) (fp : List Addr), PG (X.blk s H scope (compEnvC scope cl C X.env) fp) tgt g0)
    (ht : ∀ (s : Shared) (H : Hp) (C : Addr) (cl : List (Str × Addr)) (fp : List Addr), MTs (X.blk s H scope (compEnvC scope cl C X.env) fp) W0 ifs t)
    (he : ∀ (s : Shared) (H : Hp) (C : Addr) (cl : List (Str × Addr)) (fp : List Addr), ME (X.blk s H scope (compEnvC scope cl C X.env) fp) W0 elt e) (hs : ∀ x, foldedSetIterable iter X.env x = pure x := by intro _; kernel_rfl) :
    MS X W (.Assign [.Name y py] (.ListComp elt [⟨tgt, iter, ifs, 0⟩] scope pos) spos) (sSet i (eLcA k mi g t e (own.map (·.2)))) := PS.imp (ps_setLc (tt := tMT (kw X) W0 t) (te := tM (kw X) W0 e) hc hN hy hyl hsw hi ok hg ht he hs) fun D σ H ⟨μ, st, ρ, er, sr, h⟩ =>
      lc_tieA tg le σ H _ ⟨μ, st, ρ, er, sr, (PostS.onErr h er).mono fun u H1 ⟨μ1, st1, x, g1, s1, rx, h1⟩ => h1 μ1 H1 _ (Gr.refl _ _) s1 ((er.mono g1).set rx i)⟩
end
end MP

set_option maxRecDepth 100000
namespace MP
open PySem L2 PySem.Spec PyProof.Rows
def maxI : Int → List Int → Int
  | a, [] => a
  | a, b :: r => maxI (if b > a then b else a) r
def minI : Int → List Int → Int
  | a, [] => a
  | a, b :: r => minI (if b < a then b else a) r
theorem maxI_ge : ∀ (r : List Int) (a : Int), a ≤ maxI a r ∧ ∀ y ∈ r, y ≤ maxI a r
  | [], a => ⟨Int.le_refl _, fun y h => by cases h⟩
  | b :: r, a => by
    obtain ⟨h1, h2⟩ := maxI_ge r (if b > a then b else a)
    have h3 : a ≤ (if b > a then b else a) ∧ b ≤ (if b > a then b else a) := by split <;> omega
    refine ⟨Int.le_trans h3.1 h1, fun y hy => ?_⟩
    rcases List.mem_cons.mp hy with e | e
    · subst e; exact Int.le_trans h3.2 h1
    · exact h2 y e
theorem maxI_mem : ∀ (r : List Int) (a : Int), maxI a r ∈ a :: r
  | [], a => by simp [maxI]
  | b :: r, a => by
    have h := maxI_mem r (if b > a then b else a)
    simp only [maxI]
    rcases List.mem_cons.mp h with e | e
    · rw [e]; split <;> simp
    · simp [e]
theorem minI_le : ∀ (r : List Int) (a : Int), minI a r ≤ a ∧ ∀ y ∈ r, minI a r ≤ y
  | [], a => ⟨Int.le_refl _, fun y h => by cases h⟩
  | b :: r, a => by
    obtain ⟨h1, h2⟩ := minI_le r (if b < a then b else a)
    have h3 : (if b < a then b else a) ≤ a ∧ (if b < a then b else a) ≤ b := by split <;> omega
    refine ⟨Int.le_trans h1 h3.1, fun y hy => ?_⟩
    rcases List.mem_cons.mp hy with e | e
    · subst e; exact Int.le_trans h1 h3.2
    · exact h2 y e
theorem minI_mem : ∀ (r : List Int) (a : Int), minI a r ∈ a :: r
  | [], a => by simp [minI]
  | b :: r, a => by
    have h := minI_mem r (if b < a then b else a)
    simp only [minI]
    rcases List.mem_cons.mp h with e | e
    · rw [e]; split <;> simp
    · simp [e]
def maxL (xs : List PV) : M PV := fun st => match xs with
  | [x] => match lstOf x st with
    | some ys => match intsOf ys with
      | some (n :: ns) => .ok (.int (maxI n ns)) st
      | _ => .bad
    | none => .bad
  | _ => .bad
def minL (xs : List PV) : M PV := fun st => match xs with
  | [x] => match lstOf x st with
    | some ys => match intsOf ys with
      | some (n :: ns) => .ok (.int (minI n ns)) st
      | _ => .bad
    | none => .bad
  | _ => .bad
theorem t_maxL {K : KW} : TL K (rMax K) maxL := by
  intro μ st H xs us E Q sr r h
  unfold maxL at h
  cases xs with
  | nil => exact h.elim
  | cons x t =>
    cases t with
    | cons y t => exact h.elim
    | nil =>
      obtain ⟨u, rfl, rx⟩ := one_of r
      dsimp only at h
      cases q : lstOf x st with
      | none => rw [q] at h; exact h.elim
      | some ys =>
        rw [q] at h
        dsimp only at h
        cases q2 : intsOf ys with
        | none => rw [q2] at h; exact h.elim
        | some ns =>
          rw [q2] at h
          cases ns with
          | nil => exact h.elim
          | cons n ns =>
            obtain ⟨a, vs, rfl, l, rs⟩ := lstOf_at sr rx q
            have e := intsOf_at rs q2
            subst e
            refine ⟨a, n :: ns, rfl, l, by simp, fun m hm hy => ?_⟩
            have e : m = maxI n ns := by
              have h1 := hy _ (maxI_mem ns n)
              obtain ⟨g1, g2⟩ := maxI_ge ns n
              rcases List.mem_cons.mp hm with e | e
              · subst e; omega
              · have := g2 m e; omega
            rw [e]
            exact post_same h sr rfl
theorem t_minL {K : KW} : TL K (rMin K) minL := by
  intro μ st H xs us E Q sr r h
  unfold minL at h
  cases xs with
  | nil => exact h.elim
  | cons x t =>
    cases t with
    | cons y t => exact h.elim
    | nil =>
      obtain ⟨u, rfl, rx⟩ := one_of r
      dsimp only at h
      cases q : lstOf x st with
      | none => rw [q] at h; exact h.elim
      | some ys =>
        rw [q] at h
        dsimp only at h
        cases q2 : intsOf ys with
        | none => rw [q2] at h; exact h.elim
        | some ns =>
          rw [q2] at h
          cases ns with
          | nil => exact h.elim
          | cons n ns =>
            obtain ⟨a, vs, rfl, l, rs⟩ := lstOf_at sr rx q
            have e := intsOf_at rs q2
            subst e
            refine ⟨a, n :: ns, rfl, l, by simp, fun m hm hy => ?_⟩
            have e : m = minI n ns := by
              have h1 := hy _ (minI_mem ns n)
              obtain ⟨g1, g2⟩ := minI_le ns n
              rcases List.mem_cons.mp hm with e | e
              · subst e; omega
              · have := g2 m e; omega
            rw [e]
            exact post_same h sr rfl
section
variable {X : Cx} {W : WX} {e : Expr} {p pos : Pos} {ma : Rho → M (List PV)}
theorem me_maxL (hc : X.calm = true) (hg : Gl X "max") (hm : X.mg "max" = none) (ha : MA X W [e] ma) (he : starEach [e] X.env = (false, eval e X.env) :: starEach [] X.env := by kernel_rfl) : ME X W (.Call (.Name "max" p) [e] [] pos) (eCall maxL ma) :=
  me_callB (cr_max hc) t_maxL hg hm (by decide +kernel) ha (by decide) (by decide) he rfl
theorem me_minL (hc : X.calm = true) (hg : Gl X "min") (hm : X.mg "min" = none) (ha : MA X W [e] ma) (he : starEach [e] X.env = (false, eval e X.env) :: starEach [] X.env := by kernel_rfl) : ME X W (.Call (.Name "min" p) [e] [] pos) (eCall minL ma) :=
  me_callB (cr_min hc) t_minL hg hm (by decide +kernel) ha (by decide) (by decide) he rfl
end
section
variable {prog : Program} {w : World} {A : Around} {E : Value → Shared → Prop} {s : Shared} {x : Str} {t : Tok}
theorem hint_str {Q : Bool → Shared → Prop} (h : Q false s) : wpAny (model prog w) A (Builtin.List.listLengthHint (.str x t)) Q E s := by
  have hT := typeIs_str s x t
  unfold Builtin.List.listLengthHint
  refine wpAny_bind (wpAny_specialOf hT PySem.F.slot_str_len.lookup ?_)
  generalize hid : ("str.__len__" : String) = id0
  wp_delta
  rw [show splitId id0 = some ("str", "__len__") from by subst hid; decide +kernel]
  subst hid
  refine wpAny_bind (wpAny_isInstance (T := "str") (b := true) hT (by rw [isSubtype_type]; kernel_rfl) ?_)
  refine wpAny_ite_split (fun hab => absurd hab (by decide)) (fun _ => ?_)
  refine wpAny_ite_split (fun _ => ?_) (fun hab => absurd (by decide +kernel) hab)
  refine wpAny_bind (wpAny_typeOf hT ?_)
  exact wpAny_pure h
theorem extend_str {R : Result → Shared → Prop} (hh : A.handled = none) (S : Addr) (res : Value) (c0 : Nat) (hS : s.heap.get? S = some { cls := .type "list", data := .seq #[] c0 })
    (hR : ∀ h' tk acc' c', (∀ b o, b ≠ S → s.heap.get? b = some o → h'.get? b = some o) → h'.get? S = some { cls := .type "list", dict := none, data := .seq acc' c', slots := #[] } → ItemsOf (SignAt x) acc' x.cps.size → R (.ok (.ret res)) { s with heap := h', toks := tk }) (hn : x.cps.size ≤ sizeLine) :
    wpAny (model prog w) A.in1 (Builtin.List.listExtendWith (.ref S) (.str x t) res)
      (fun fin s' => match fin with | .done f => R (.ok f) s' | .again c' => c'.quiet = true ∧ codeAny (model prog w) A c' R s') (fun e s' => R (.error e) s') s := by
  have hSI : S ≠ s.heap.objs.size := Nat.ne_of_lt (Heap.lt_size hS)
  have hSf : S ∉ [s.heap.objs.size] := by simpa using hSI
  unfold Builtin.List.listExtendWith
  refine wpAny_bind (wpAny_typeOf (T := "str") (typeIs_str s x t) ?_)
  have h1 : Builtin.List.listSameRef (.ref S) (.str x t) = false := by simp [Builtin.List.listSameRef]
  have h2 : (Value.type "str" == Value.type "list") = false := by decide
  have h3 : (Value.type "str" == Value.type "tuple") = false := by decide
  simp only [h1, h2, h3, Bool.or_false, Bool.false_eq_true, if_false]
  refine wpAny_bind (wpAny_pyIter_str fun oI St W st => ?_)
  have key : ∀ (h : Heap) (c1 tk : Nat), St 0 h → (∀ b o, b ≠ S → s.heap.get? b = some o → h.get? b = some o) →
      h.get? S = some { cls := .type "list", data := .seq #[] c1 } → codeAny (model prog w) A (.builtin "list.extend.loop" ⟨[.ref S, .ref s.heap.objs.size, res], []⟩) R { s with heap := h, toks := tk } := by
    intro h c1 tk hst hk hS1
    refine codeAny_extend_loopS (W A.in1 hh).toS hn S hSf res x.cps.size 0 _ #[] c1 rfl (Nat.zero_le _) hst hS1 (ItemsOf.nil _) fun s' acc' c' hm hS' hacc => ?_
    rw [Moved.eq_with hm]
    refine hR s'.heap s'.toks acc' c' (fun b o hb e => hm.heap b o (fun hmem => ?_) (hk b o hb e)) hS' hacc
    rcases List.mem_cons.mp hmem with e' | hmem
    · exact hb e'
    · exact absurd (Heap.lt_size e) (by rw [List.mem_singleton.mp hmem]; exact Nat.lt_irrefl _)
  have hS1 := Heap.get?_push_of_some oI hS
  refine wpAny_bind (wpAny_holding (hint_str ?_))
  refine wpAny_ite_split (fun _ => ?_) (fun _ => wpAny_pure ⟨plainId_quiet PySem.F.plain_extend_loop _, key _ c0 _ st (fun b o _ e => Heap.get?_push_of_some _ e) hS1⟩)
  refine wpAny_bind (wpAny_rule ?_)
  refine wpAny_bind ?_
  show wpAny _ _ (updateSeq S (·.push .none) >>= fun _ => updateSeq S (·.pop)) _ _ _
  refine wpAny_bind (wpAny_updateSeq hS1 rfl ?_)
  have hS2 := Heap.get?_update_self (Obj.mapSeq (·.push Value.none)) hS1 rfl
  refine wpAny_updateSeq (hz := by seq_fits) hS2 rfl ?_
  have hS3 := Heap.get?_update_self (Obj.mapSeq (·.pop)) hS2 rfl
  refine wpAny_pure ⟨plainId_quiet PySem.F.plain_extend_loop _, key _ _ _ ?_ (fun b o hb e => ?_) hS3⟩
  · refine (W A.in1 hh).frame 0 _ _ st fun b hb o e => ?_
    have hbS : b ≠ S := fun h => hSf (h ▸ hb)
    exact (Heap.get?_update_other _ _ (Ne.symm hbS)).trans ((Heap.get?_update_other _ _ (Ne.symm hbS)).trans e)
  · exact (Heap.get?_update_other _ _ (Ne.symm hb)).trans ((Heap.get?_update_other _ _ (Ne.symm hb)).trans (Heap.get?_push_of_some _ e))
theorem list_str {Q : Value → Shared → Prop} (hh : A.handled = none) (hn : x.cps.size ≤ sizeLine)
    (hQ : ∀ h' tk acc' c', (∀ b o, s.heap.get? b = some o → h'.get? b = some o) → h'.get? s.heap.objs.size = some { cls := .type "list", dict := none, data := .seq acc' c', slots := #[] } → ItemsOf (SignAt x) acc' x.cps.size → Q (.ref s.heap.objs.size) { s with heap := h', toks := tk }) :
    wpAny (model prog w) A (call (.type "list") [.str x t]) Q E s := by
  refine callType_codes (Q₁ := fun obj s1 => obj = .ref s.heap.objs.size ∧ s1 = { s with heap := s.heap.push { cls := .type "list", data := .seq #[] } }) PySem.F.called_list (PySem.F.typeCall_list_1 _) PySem.F.entry_list_init
    (code_list_new _ ⟨rfl, rfl⟩) fun obj s1 h1 => ?_
  obtain ⟨rfl, rfl⟩ := h1
  have hS : (s.heap.push { cls := .type "list", data := .seq #[] }).get? s.heap.objs.size = some { cls := .type "list", data := .seq #[] } := Heap.get?_push_size _ rfl
  refine ⟨⟨_, hS, rfl⟩, PySem.F.args_list_init_2 _ _, ?_⟩
  show wpAny _ _ (do let old ← Builtin.List.listItems (.ref s.heap.objs.size); Builtin.List.listUpdate (.ref s.heap.objs.size) (fun _ => #[]); letGo old.toList.reverse; Builtin.List.listExtendWith (.ref s.heap.objs.size) (.str x t) .none) _ _ _
  refine wpAny_bind ?_
  unfold Builtin.List.listItems
  refine wpAny_bind (wpAny_seqItems hS rfl (wpAny_pure ?_))
  show wpAny _ _ (updateSeq s.heap.objs.size (fun _ => #[]) >>= fun _ => letGo (#[] : Array Value).toList.reverse >>= fun _ => Builtin.List.listExtendWith (.ref s.heap.objs.size) (.str x t) .none) _ _ _
  refine wpAny_bind (wpAny_updateSeq hS rfl ?_)
  have hS2 := Heap.get?_update_self (Obj.mapSeq (fun _ => (#[] : Array Value))) hS rfl
  have oth : ∀ b o, b ≠ s.heap.objs.size → (s.heap.push { cls := .type "list", data := .seq #[] }).get? b = some o → ((s.heap.push { cls := .type "list", data := .seq #[] }).update s.heap.objs.size (Obj.mapSeq (fun _ => (#[] : Array Value)))).get? b = some o :=
    fun b o hb e => (Heap.get?_update_other _ _ (Ne.symm hb)).trans e
  refine wpAny_bind (wpAny_letGo ?_)
  refine extend_str (A := A.in1) hh _ .none _ hS2 (fun h' tk acc' c' hk hS' hacc => ?_) hn
  exact ⟨rfl, hQ h' tk acc' c' (fun b o e => hk b o (Nat.ne_of_lt (Heap.lt_size e)) (oth b o (Nat.ne_of_lt (Heap.lt_size e)) (Heap.get?_push_of_some _ e))) hS' hacc⟩
end
abbrev chS (a : List Nat) : List V := a.map fun c => V.str ⟨#[c]⟩
theorem signs_vals : ∀ {a : List Nat} {us : List Value}, us.length = a.length → (∀ (j : Nat) (v : Value), us[j]? = some v → ∃ (c : Nat) (u : Tok), a[j]? = some c ∧ v = Value.str ⟨#[c]⟩ u) → Vals (chS a) us
  | [], [], _, _ => .nil
  | [], _ :: _, h, _ => by simp at h
  | _ :: _, [], h, _ => by simp at h
  | c :: a, v :: us, h, hv => by
    obtain ⟨c', u, e1, e2⟩ := hv 0 v rfl
    have e3 : c = c' := by simpa using e1
    subst e3; subst e2
    exact .cons ⟨u, rfl⟩ (signs_vals (by simpa using h) fun j v e => hv (j + 1) v (by simpa using e))
abbrev rListS : List V → Hp → VK → Prop := fun xs H Q => ∃ z : List Nat, xs = [.str ⟨z.toArray⟩] ∧ z.length ≤ SZ ∧ ∀ p, H p = none → Q (.ref p) (upd H p (.lst (chS z)))
theorem call_listS {X : Cx} (hcalm : X.calm = true) : CallR X (.type "list") rListS := by
  intro pins s σ H xs us Q I r ⟨z, ex, hz, q⟩
  subst ex
  obtain ⟨u, rfl, t, rfl⟩ := vals1 r
  have hz2 : z.length ≤ sizeLine := by rw [sz_eq]; exact hz
  refine list_str (I.ok.hd hcalm) (by simpa using hz2) fun h' tk acc c' hk hD hacc => ?_
  have hv : Vals (chS z) acc.toList := signs_vals (by rw [Array.length_toList, hacc.1]; simp) fun j v e => by
    obtain ⟨c, u, e1, e2⟩ := hacc.2 j v (by rw [← Array.getElem?_toList]; exact e)
    exact ⟨c, u, by simpa using e1, e2⟩
  exact ⟨.ref s.heap.objs.size, upd H s.heap.objs.size (.lst (chS z)), I.laid (t' := tk) hk (Nat.le_refl _)
    (show ObjOk X.prog X.w _ _ _ (.lst (chS z)) from ⟨by rw [List.length_map]; exact hz2, acc.toList, c', hv, by rw [Array.toArray_toList]; exact hD⟩), rfl, q _ (I.hok.fresh (Nat.le_refl _))⟩
def itemsA (x : PV) (st : Sto) : Option (List PV) := match x with
  | .str a => if a.length ≤ SZ then some (a.map fun c => .str [c]) else none
  | x => match dctOf x st with
    | some kvs => some (kvs.map Prod.fst)
    | none => seqOf x st
def listA (xs : List PV) : M PV := fun st => match xs with
  | [x] => match itemsA x st with
    | some ys => .ok (.lst ys) st
    | none => .bad
  | _ => .bad
def listAN (xs : List PV) : M PV := fun st => match xs with
  | [x] => match itemsA x st with
    | some ys => .ok (.loc st.length) (st ++ [.lst ys])
    | none => .bad
  | _ => .bad
abbrev rListD1 : List V → Hp → VK → Prop := fun xs H Q => ∃ (a : Addr) (kvs : List (Key × V)), xs = [.ref a] ∧ Rd H a (.dK kvs) ∧ ∀ p, H p = none → Q (.ref p) (upd H p (.lst (kvs.map fun kv => kV kv.1)))
theorem krs_keys {K : PySem.W.Frag} {H : Hp} {μ : Mu} : ∀ {kvs : List (PV × PV)} {kv : List (Key × V)}, KRs K H μ kvs kv → VRs K H μ (kvs.map Prod.fst) (kv.map fun p => kV p.1)
  | [], kv, r => by have e : kv = [] := r; subst e; rfl
  | (p, q) :: kvs, kv, r => by
    obtain ⟨k, v, t, rfl, ek, h1, h2⟩ := r
    refine ⟨kV k, _, rfl, ?_, krs_keys h2⟩
    cases p with
    | int i => cases ek; rfl
    | str z => cases ek; rfl
    | _ => cases ek
theorem vrs_signs {K : PySem.W.Frag} {H : Hp} {μ : Mu} : ∀ (a : List Nat), VRs K H μ (a.map fun c => .str [c]) (chS a)
  | [] => rfl
  | c :: a => ⟨_, _, rfl, rfl, vrs_signs a⟩
theorem itemsA_at {K : KW} {H : Hp} {μ : Mu} {st : Sto} {x : PV} {u : V} {ys : List PV} {Q : VK} (sr : SR K μ st H) (rx : VR K H μ x u) (h : itemsA x st = some ys)
    (q : ∀ vs p, VRs K H μ ys vs → H p = none → Q (.ref p) (upd H p (.lst vs))) : (rListM K [u] H Q ∨ rListD1 [u] H Q) ∨ rListS [u] H Q := by
  have gen : ∀ kvs', dctOf x st = some kvs' → ys = kvs'.map Prod.fst → (rListM K [u] H Q ∨ rListD1 [u] H Q) ∨ rListS [u] H Q := fun kvs' hd ey => by
    obtain ⟨n, a, kv, ex, rfl, ha, hc, h1, h2⟩ := dctOf_at sr rx hd
    subst ey
    exact .inl (.inr ⟨a, kv, rfl, .of h1, fun p hp => q _ p (krs_keys h2) hp⟩)
  have gen2 : seqOf x st = some ys → (rListM K [u] H Q ∨ rListD1 [u] H Q) ∨ rListS [u] H Q := fun hs => by
    obtain ⟨a, vs, rfl, hq, rs⟩ := seqOf_at sr rx hs
    exact .inl (.inl ⟨a, vs, rfl, hq, fun l hl => q vs l rs hl⟩)
  unfold itemsA at h
  split at h
  · rename_i a
    by_cases hz : a.length ≤ SZ
    · rw [if_pos hz] at h
      cases h
      cases (show u = V.str ⟨a.toArray⟩ from rx)
      exact .inr ⟨a, rfl, hz, fun p hp => q _ p (vrs_signs a) hp⟩
    · rw [if_neg hz] at h; cases h
  · cases hd : dctOf x st with
    | some kvs => rw [hd] at h; cases h; exact gen kvs hd rfl
    | none => rw [hd] at h; exact gen2 h
theorem t_listA {K : KW} : TL K (fun xs H Q => (rListM K xs H Q ∨ rListD1 xs H Q) ∨ rListS xs H Q) listA := by
  intro μ st H xs us E Q sr r h
  cases xs with
  | nil => exact h.elim
  | cons x t =>
    cases t with
    | cons y t => exact h.elim
    | nil =>
      obtain ⟨u, rfl, rx⟩ := one_of r
      unfold listA at h
      dsimp only at h
      cases hs : itemsA x st with
      | none => rw [hs] at h; exact h.elim
      | some ys =>
        rw [hs] at h
        exact itemsA_at sr rx hs fun vs p rs hp => post_lst sr rs hp h
theorem t_listAN {K : KW} : TL K (fun xs H Q => (rListM K xs H Q ∨ rListD1 xs H Q) ∨ rListS xs H Q) listAN := by
  intro μ st H xs us E Q sr r h
  cases xs with
  | nil => exact h.elim
  | cons x t =>
    cases t with
    | cons y t => exact h.elim
    | nil =>
      obtain ⟨u, rfl, rx⟩ := one_of r
      unfold listAN at h
      dsimp only at h
      cases hs : itemsA x st with
      | none => rw [hs] at h; exact h.elim
      | some ys =>
        rw [hs] at h
        exact itemsA_at sr rx hs fun vs p rs hp => post_cell h sr hp ⟨_, upd_same, VRs.mono (gr_alloc hp) _ _ rs⟩
section
variable {X : Cx} {W : WX} {e : Expr} {p pos : Pos} {ma : Rho → M (List PV)}
theorem me_listA (hc : X.calm = true) (hg : Gl X "list") (hm : X.mg "list" = none) (ha : MA X W [e] ma) (he : starEach [e] X.env = (false, eval e X.env) :: starEach [] X.env := by kernel_rfl) : ME X W (.Call (.Name "list" p) [e] [] pos) (eCall listA ma) :=
  me_callTy ((call_list_of.or (call_listD hc)).or (call_listS hc)) t_listA hg hm (by decide +kernel) ha (by decide) (by decide) he rfl
theorem me_listAN (hc : X.calm = true) (hg : Gl X "list") (hm : X.mg "list" = none) (ha : MA X W [e] ma) (he : starEach [e] X.env = (false, eval e X.env) :: starEach [] X.env := by kernel_rfl) : ME X W (.Call (.Name "list" p) [e] [] pos) (eCall listAN ma) :=
  me_callTy ((call_list_of.or (call_listD hc)).or (call_listS hc)) t_listAN hg hm (by decide +kernel) ha (by decide) (by decide) he rfl
end
def gAttr (cs : List String) (f : String) (mo : Rho → M PV) : GM := fun p ρ => M.bind (mo ρ) fun o => M.bind (setA cs f p o) fun _ => M.ret ρ
def gFld (K : PySem.W.Frag) (ta : TE) (f : Str) : TG := fun y σ H Q => ta σ H fun x H2 => ∃ a C dx fs, x = .ref a ∧ H2 a = some (.ins C dx fs) ∧ Cls K C ∧ NoAttr K C f ∧ fs.length < 1000 ∧ Q σ (upd H2 a (.ins C dx (putF f y fs)))
section
variable {X : Cx} {W : WX} {o : Expr} {f : String} {cs : List String} {pos : Pos} {mo : Rho → M PV} {ta : TE}
theorem pg_fld {f : Str} (ha : PE X o ta) : PG X (.Attribute o f pos) (gFld X.K ta f) := by
  refine ⟨fun pins s σ H v u Q I r h => ?_⟩
  refine PySem.W.kas_attr (thn (ha.run pins s σ H _ I h) fun ov s2 ⟨x, H2, I2, rx, a, C, dx, fs, ex, ea, c, n, l, q2⟩ => ?_)
  subst ex
  obtain rfl : ov = Value.ref a := rx
  exact setattr_ok I2 ea c n l r fun s3 I3 => ⟨σ, _, I3, q2⟩
theorem mg_attr (hc : AttrOk X.K cs f) (ho : ME X W o mo) : MG X W (.Attribute o (Str.ofString f) pos) (gAttr cs f mo) :=
  PG.imp (pg_fld ho) fun v σ H Q ⟨μ, st, ρ, p, er, sr, rv, h⟩ => ⟨μ, st, ρ, er, sr, (PostG.bind h).mono fun u H1 ⟨μ1, st1, x, g1, s1, rx, h1⟩ => by
    unfold M.bind setA at h1
    cases x with
    | loc n =>
      obtain ⟨a, rfl, ha⟩ := loc_at rx
      dsimp only at h1
      cases q : st1[n]? with
      | none => rw [q] at h1; exact h1.elim
      | some c =>
        rw [q] at h1
        cases c with
        | ins c fs =>
          dsimp only at h1
          by_cases hcs : c ∈ cs ∧ fs.length < 1000
          · rw [if_pos hcs] at h1
            obtain ⟨C, dx, fv, hC, eh, rf⟩ := s1.cell n _ a q ha
            obtain ⟨k1, k2⟩ := hc c hcs.1 C hC
            have gp : Gr μ1 H1 μ1 (upd H1 a (.ins C dx (putF (Str.ofString f) v fv))) := gr_put ha eh rfl
            refine ⟨a, C, dx, fv, rfl, eh, k1, k2, by rw [← rf.length]; exact hcs.2, ?_⟩
            exact h1 μ1 _ σ gp (s1.put ha ⟨C, dx, _, hC, upd_same, FRs.mono gp.v _ _ (rf.put (VR.mono g1 _ _ rv))⟩) ((er.mono g1).mono gp)
          · rw [if_neg hcs] at h1; exact h1.elim
        | _ => exact h1.elim
    | _ => exact h1.elim⟩
end
end MP

set_option maxRecDepth 100000
set_option maxHeartbeats 1000000
namespace MP
open PySem L2 PySem.Spec PyProof.Rows PySem.W
section
variable {prog : Program} {w : World} {A : Around} {E : Value → Shared → Prop} {s : Shared} {e it T : Addr} {fp : List Addr} {n i : Nat} {P : Nat → Value → Prop} {St : Nat → Heap → Prop} {old : Value} {f : Bool} {oT : Obj}
theorem enum_heldD {Q : Value → Shared → Prop} (D : Draws prog w A it fp n P St) (he : IsEnumHeld s.heap e it i old T f) (hT : s.heap.get? T = some oT) (hTe : T ≠ e) (hTi : T ≠ it) (hst : St i s.heap) (hlt : i < n) (hne : e ≠ it) (hef : e ∉ fp)
    (hQ : ∀ x h' tk, P i x → IsEnumHeld h' e it ((i : Int) + 1) old T true → St (i + 1) h' → h'.get? s.heap.objs.size = some { cls := .type "tuple", data := .seq #[.int i tk, x] } → h'.objs.size = s.heap.objs.size + 1 →
      (∀ b o, b ≠ e → b ≠ it → s.heap.get? b = some o → h'.get? b = some o) → Q (.ref s.heap.objs.size) { s with heap := h', toks := tk + 1 }) :
    wpAny (model prog w) A (Builtin.«enumerate.__next__» ⟨[.ref e], []⟩) (fun fin s' => ∃ v, fin = .done (.ret v) ∧ Q v s') E s := by
  obtain ⟨hp, g, dr, tk0, os⟩ := s
  show wpAny _ _ (field (.ref e) 2 >>= _) _ _ _
  refine wpAny_bind (wpAny_field he rfl (x := .ref it) rfl ?_)
  refine wpAny_bind (D.item i _ _ _ hlt hst fun x h1 tk px st1 b1 => ?_)
  replace b1 : Heap.SameBut it hp h1 := b1
  have he1 : IsEnumHeld h1 e it i old T f := (b1.2 e hne).trans he
  show wpAny _ _ (field (.ref e) 3 >>= _) _ _ ⟨h1, g, dr, tk, os⟩
  refine wpAny_bind (wpAny_field he1 rfl (x := rawInt i) rfl ?_)
  show wpAny _ _ (field (.ref e) 4 >>= _) _ _ ⟨h1, g, dr, tk, os⟩
  refine wpAny_bind (wpAny_field he1 rfl (x := .none) rfl ?_)
  show wpAny _ _ (mkInt i >>= _) _ _ ⟨h1, g, dr, tk, os⟩
  refine wpAny_bind (wpAny_mkInt ?_)
  show wpAny _ _ (setField (.ref e) 3 (rawInt ((i : Int) + 1)) >>= _) _ _ ⟨h1, g, dr, tk + 1, os⟩
  refine wpAny_bind (wpAny_setField_rec he1 (by simp) fun h2 he2 b2 => ?_)
  replace b2 : Heap.SameBut e h1 h2 := b2
  replace he2 : IsEnumHeld h2 e it ((i : Int) + 1) old T f := he2
  show wpAny _ _ (setField (.ref e) 4 .none >>= _) _ _ ⟨h2, g, dr, tk + 1, os⟩
  refine wpAny_bind (wpAny_setField_rec he2 (by simp) fun h3 he3 b3 => ?_)
  replace b3 : Heap.SameBut e h2 h3 := b3
  replace he3 : IsEnumHeld h3 e it ((i : Int) + 1) old T f := he3
  show wpAny _ _ (newTuple [.int i tk, x] >>= _) _ _ ⟨h3, g, dr, tk + 1, os⟩
  refine wpAny_bind (wpAny_newTuple ?_)
  have he4 : IsEnumHeld (h3.push { cls := .type "tuple", data := .seq #[.int i tk, x] }) e it ((i : Int) + 1) old T f := Heap.get?_push_of_some _ he3
  generalize q4 : h3.push { cls := .type "tuple", data := .seq #[.int i tk, x] } = h4 at he4
  have hsz : h3.objs.size = hp.objs.size := by rw [b3.1, b2.1, b1.1]
  have hel : e < hp.objs.size := Heap.lt_size he
  have ht4 : h4.get? hp.objs.size = some { cls := .type "tuple", data := .seq #[.int i tk, x] } := by rw [← q4, ← hsz]; exact Heap.get?_push_size _ rfl
  have hz4 : h4.objs.size = hp.objs.size + 1 := by rw [← q4, Heap.size_push, hsz]
  have hk4 : ∀ b o, b ≠ e → b ≠ it → hp.get? b = some o → h4.get? b = some o := fun b o hbe hbi hb => by
    rw [← q4]; exact Heap.get?_push_of_some _ (b3.extBut b o hbe (b2.extBut b o hbe (b1.extBut b o hbi hb)))
  have st4 : St (i + 1) h4 := D.frame _ _ _ st1 fun b hb o y => by
    have hbe : b ≠ e := fun q => hef (q ▸ hb)
    rw [← q4]; exact Heap.get?_push_of_some _ (b3.extBut b o hbe (b2.extBut b o hbe y))
  show wpAny _ _ (Builtin.SmallTypes.ownedTupleIsFree (.ref e) >>= _) _ _ ⟨h4, g, dr, tk + 1, os⟩
  rw [hsz]
  clear q4 he3 b3 he2 b2 he1 b1 st1 hsz h3 h2 h1
  refine wpAny_bind (wpAny_tupleHeld_enum (s := ⟨h4, g, dr, tk + 1, os⟩) he4 (hk4 T oT hTe hTi hT) fun h5 he5 b5 => ?_)
  replace b5 : Heap.SameBut e h4 h5 := b5
  simp only [Bool.false_eq_true, if_false]
  refine wpAny_pure ⟨_, rfl, hQ x h5 tk px he5 (D.frame _ _ _ st4 fun b hb o y => b5.extBut b o (fun q => hef (q ▸ hb)) y) (b5.extBut _ _ (Nat.ne_of_gt hel) ht4) ?_ fun b o hbe hbi hb => b5.extBut b o hbe (hk4 b o hbe hbi hb)⟩
  show h5.objs.size = hp.objs.size + 1
  rw [b5.1, hz4]
theorem next_enum_heldD {Q : Option Value → Shared → Prop} (D : Draws prog w A.in1 it fp n P St) (he : IsEnumHeld s.heap e it i old T f) (hT : s.heap.get? T = some oT) (hTe : T ≠ e) (hTi : T ≠ it) (hst : St i s.heap) (hlt : i < n) (hne : e ≠ it) (hef : e ∉ fp)
    (hQ : ∀ x h' tk, P i x → IsEnumHeld h' e it ((i : Int) + 1) old T true → St (i + 1) h' → h'.get? s.heap.objs.size = some { cls := .type "tuple", data := .seq #[.int i tk, x] } → h'.objs.size = s.heap.objs.size + 1 →
      (∀ b o, b ≠ e → b ≠ it → s.heap.get? b = some o → h'.get? b = some o) → Q (some (.ref s.heap.objs.size)) { s with heap := h', toks := tk + 1 }) :
    wpAny (model prog w) A (pyNext (.ref e)) Q E s := by
  have hTy : s.TypeIs (.ref e) "enumerate" := ⟨_, he, rfl⟩
  unfold pyNext
  exact wpAny_bind (wpAny_attempt (wpAny_callSpecial?_slot (name := Str.ofString "__next__") hTy F.slot_enumerate_next
    (wpAny_call_entry F.slot_enumerate_next hTy F.entry_enumerate_next (enum_heldD D he hT hTe hTi hst hlt hne hef fun x h' tk a1 a2 a3 a4 a5 a6 => wpAny_pure (hQ x h' tk a1 a2 a3 a4 a5 a6)) (F.args_enumerate_next_1 _))))
theorem end_enum_heldD {i : Int} {Q : Option Value → Shared → Prop} (D : Draws prog w A.in1 it fp n P St) (he : IsEnumHeld s.heap e it i old T f) (hst : St n s.heap)
    (hQ : ∀ h', Heap.ExtBut it s.heap h' → Q none { s with heap := h' }) : wpAny (model prog w) A (pyNext (.ref e)) Q E s := by
  have hTy : s.TypeIs (.ref e) "enumerate" := ⟨_, he, rfl⟩
  unfold pyNext
  refine wpAny_bind (wpAny_attempt (wpAny_callSpecial?_slot (name := Str.ofString "__next__") hTy F.slot_enumerate_next
    (wpAny_call_entry F.slot_enumerate_next hTy F.entry_enumerate_next ?_ (F.args_enumerate_next_1 _))))
  show wpAny _ _ (field (.ref e) 2 >>= _) _ _ _
  refine wpAny_bind (wpAny_field he rfl (x := .ref it) rfl ?_)
  refine wpAny_bind (D.done _ _ _ hst fun h' x he' hx' => ?_)
  obtain ⟨o, ho, hc⟩ := hx'
  refine wpAny_bind (wpAny_isInstance (T := "StopIteration") (b := true) ⟨o, ho, hc⟩ isSubtype_stop ?_)
  exact wpAny_pure (hQ _ he')
end
section
variable {prog : Program} {w : World} {e it : Addr} {fp : List Addr} {n : Nat} {P : Nat → Value → Prop} {St : Nat → Heap → Prop}
theorem pairArg_enumD (hei : e ≠ it) (hef : e ∉ fp) (hif : it ∈ fp) (D : ∀ A : Around, A.handled = none → Draws prog w A it fp n P St) :
    PairArg prog w "enumerate" e (e :: fp) [e, it] n (fun i k v => (∃ t, k = .int i t) ∧ P i v) (fun h => (∃ old, IsEnum h e it 0 old) ∧ St 0 h ∧ ∀ b ∈ fp, ∃ o, h.get? b = some o) where
  type := fun s ok => let ⟨⟨_, he⟩, _⟩ := ok; ⟨_, he, rfl⟩
  notDict := by decide
  keep := fun h h' ok hk => by
    obtain ⟨⟨old, he⟩, st, th⟩ := ok
    exact ⟨⟨old, hk _ _ he⟩, (D ({} : Around) rfl).frame _ _ _ st fun b _ o x => hk b o x, fun b hb => let ⟨o, x⟩ := th b hb; ⟨o, hk b o x⟩⟩
  there := fun h ok b hb => by
    obtain ⟨⟨old, he⟩, st, th⟩ := ok
    rcases List.mem_cons.mp hb with q | q
    · rw [q]; exact ⟨_, he⟩
    · exact th b q
  sub := fun b hb => by
    simp only [List.mem_cons, List.not_mem_nil, or_false] at hb
    rcases hb with q | q
    · rw [q]; exact List.mem_cons_self
    · rw [q]; exact List.mem_cons_of_mem _ hif
  noKeys := fun A s Q E hA ok h => let ⟨⟨_, he⟩, _⟩ := ok; getAttrOr_miss_enumerate he rfl rfl rfl enumerate_no_keys (by decide +kernel) hA h
  iter := fun A s d Q E hA ok hd hdf h => by
    obtain ⟨⟨old, he⟩, st, th⟩ := ok
    have de : d ≠ e := fun q => hdf (by rw [q]; exact List.mem_cons_self)
    have df : d ∉ fp := fun q => hdf (List.mem_cons_of_mem _ q)
    have dit : d ≠ it := fun q => df (by rw [q]; exact hif)
    have D1 := D A.in1 hA
    refine wpAny_pyIter_enum he (h e [e, it] (fun i h => St i h ∧ ((∃ old, IsEnum h e it i old) ∨ ∃ old T f oT, IsEnumHeld h e it i old T f ∧ h.get? T = some oT ∧ T ≠ e ∧ T ≠ it ∧ T ≠ d)) s.heap s.toks ?_
      ⟨st, .inl ⟨old, he⟩⟩ (fun _ _ e => e) fun b hb => .inl hb)
    exact {
      off := fun hm => by
        simp only [List.mem_cons, List.not_mem_nil, or_false] at hm
        rcases hm with x | x
        · exact de x
        · exact dit x
      frame := fun i h1 h2 st hk => by
        obtain ⟨st, he⟩ := st
        refine ⟨D1.frame _ _ _ st fun b hb o x => hk b o (fun q => df (by rw [← q]; exact hb)) x, ?_⟩
        rcases he with ⟨old, he⟩ | ⟨old, T, f, oT, he, hT, r1, r2, r3⟩
        · exact .inl ⟨old, hk _ _ (Ne.symm de) he⟩
        · exact .inr ⟨old, T, f, oT, hk _ _ (Ne.symm de) he, hk _ _ r3 hT, r1, r2, r3⟩
      item := fun i s1 Q1 E1 hi st hds hQ => by
        obtain ⟨st, he⟩ := st
        have ec : ((i + 1 : Nat) : Int) = (i : Int) + 1 := by omega
        have nit : s1.heap.objs.size ≠ it := let ⟨_, x⟩ := D1.live _ _ st; Nat.ne_of_gt (Heap.lt_size x)
        rcases he with ⟨old, he⟩ | ⟨old, T, f, oT, he, hT, r1, r2, r3⟩
        · refine wpAny_pyNext_enum_itemD D1 he st hi hei hef fun x h' tk px ho st' hT hsz hk => ?_
          exact hQ s1.heap.objs.size _ _ h' (tk + 1) ⟨⟨_, rfl⟩, px⟩ (.inl ⟨_, hT, rfl, _, rfl⟩)
            ⟨st', .inr ⟨_, s1.heap.objs.size, false, _, (by rw [ec]; exact ho), hT, Nat.ne_of_gt (Heap.lt_size he), nit, Nat.ne_of_gt hds⟩⟩
            fun b o hb x => hk b o (fun y => hb (by simp [y])) (fun y => hb (by simp [y])) x
        · refine next_enum_heldD D1 he hT r1 r2 st hi hei hef fun x h' tk px ho st' hT' hsz hk => ?_
          exact hQ s1.heap.objs.size _ _ h' (tk + 1) ⟨⟨_, rfl⟩, px⟩ (.inl ⟨_, hT', rfl, _, rfl⟩)
            ⟨st', .inr ⟨old, T, true, oT, (by rw [ec]; exact ho), hk _ _ r1 r2 hT, r1, r2, r3⟩⟩
            fun b o hb x => hk b o (fun y => hb (by simp [y])) (fun y => hb (by simp [y])) x
      done := fun s1 Q1 E1 st hQ => by
        obtain ⟨st, he⟩ := st
        rcases he with ⟨old, he⟩ | ⟨old, T, f, oT, he, hT, r1, r2, r3⟩
        · exact wpAny_pyNext_enum_endD D1 he st fun h' hk => hQ h' s1.toks fun b o hb x => hk b o (fun y => hb (by simp [y])) x
        · exact end_enum_heldD D1 he st fun h' hk => hQ h' s1.toks fun b o hb x => hk b o (fun y => hb (by simp [y])) x }
end
theorem drawsA_of {X : Cx} {pins : List (Addr × Obj)} {σ : L2.St} {H : Hp} {s : Shared} (I : Inv X pins σ H s) {k : Sk} {xs : List V} (ha : k.at X.K H xs) {u : Value} (r : RelV k.val u) {it : Addr}
    (hne : ∀ a, u = .ref a → a ≠ it) (st : ItS k.ty u it 0 s.heap) :
    ∃ (fp : List Addr) (P : Nat → Value → Prop) (St : Nat → Heap → Prop), (∀ A : Around, A.handled = none → Draws X.prog X.w A it fp xs.length P St) ∧ St 0 s.heap ∧ it ∈ fp ∧ (∀ c, c ∈ fp → c = it ∨ u = .ref c) ∧ (∀ c ∈ fp, ∃ o, s.heap.get? c = some o) ∧ ∀ i v, P i v → ∃ x, xs[i]? = some x ∧ RelV x v := by
  have hi : ∃ o, s.heap.get? it = some o := let ⟨o, e, _⟩ := st; ⟨o, e⟩
  have two : ∀ {a : Addr}, (∃ o, s.heap.get? a = some o) → ∀ c ∈ [it, a], ∃ o, s.heap.get? c = some o := fun ha c hc => by
    simp only [List.mem_cons, List.not_mem_nil, or_false] at hc
    rcases hc with z | z
    · rw [z]; exact hi
    · rw [z]; exact ha
  have one : ∀ c ∈ [it], ∃ o, s.heap.get? c = some o := fun c hc => by rw [List.mem_singleton.mp hc]; exact hi
  cases k with
  | l a =>
    cases r
    obtain ⟨its, rv, p, _⟩ := I.list (show SqL X.K H a xs from ha)
    have e : xs.length = its.toArray.size := by rw [rv.length]; simp
    rw [e]
    refine ⟨_, _, _, fun A hh => Draws.list hh it a (hne a rfl) its.toArray, ⟨st, p.isList⟩, by simp, fun c hc => fpc (by simpa using hc), two (let ⟨o, e, _⟩ := p.isList; ⟨o, e⟩), fun i v hv => ?_⟩
    exact vals_back rv (by simpa using hv)
  | t a =>
    cases r
    obtain ⟨its, rv, p, _⟩ := I.tuple (show SqT X.K H a xs from ha)
    have e : xs.length = its.toArray.size := by rw [rv.length]; simp
    rw [e]
    refine ⟨_, _, _, fun A hh => draws_tuple hh it a (hne a rfl) its.toArray, ⟨st, p⟩, by simp, fun c hc => fpc (by simpa using hc), two (let ⟨o, e, _⟩ := p; ⟨o, e⟩), fun i v hv => ?_⟩
    exact vals_back rv (by simpa using hv)
  | s x =>
    obtain ⟨tk, r⟩ := (show ∃ t, u = Value.str x t from r)
    subst r
    have hx : xs = x.cps.toList.map fun c => V.str ⟨#[c]⟩ := ha
    have e : xs.length = x.cps.size := by rw [hx]; simp
    rw [e]
    have fin : ∀ (i : Nat) (v : Value), (∃ c u, x.cps[i]? = some c ∧ v = Value.str ⟨#[c]⟩ u) → ∃ y, xs[i]? = some y ∧ RelV y v := by
      rintro i v ⟨c, u, hc, rfl⟩
      exact ⟨.str ⟨#[c]⟩, by rw [hx]; simp [hc], ⟨u, rfl⟩⟩
    cases hA : x.cps.all (· < 128)
    · have et : strIterType x = "str_iterator" := by simp [strIterType, hA]
      have st' : ItS (strIterType x) _ it 0 s.heap := st
      rw [et] at st'
      exact ⟨_, _, _, fun A hh => Draws.strWide hh it x _, st', by simp, fun c hc => by simpa using hc, one, fin⟩
    · have et : strIterType x = "str_ascii_iterator" := by simp [strIterType, hA]
      have st' : ItS (strIterType x) _ it 0 s.heap := st
      rw [et] at st'
      exact ⟨_, _, _, fun A hh => Draws.strAscii hh it x _, st', by simp, fun c hc => by simpa using hc, one, fin⟩
def enK : Nat → List V → List (Key × V)
  | _, [] => []
  | i, x :: r => (Sum.inl (i : Int), x) :: enK (i + 1) r
def enP : Nat → List PV → List (PV × PV)
  | _, [] => []
  | i, x :: r => (.int (i : Int), x) :: enP (i + 1) r
def tDictEn (K : PySem.W.Frag) (ta : TE) : TE := fun σ H Q => ta σ H fun x H1 => ∃ (k : Sk) (xs : List V), x = k.val ∧ k.at K H1 xs ∧ xs.length ≤ SZ ∧ ∀ p, H1 p = none → Q (.ref p) (upd H1 p (.dK (mergeK [] (enK 0 xs))))
theorem enK_get : ∀ (xs : List V) (j i : Nat), (enK j xs)[i]? = (xs[i]?).map fun x => (Sum.inl ((j + i : Nat) : Int), x)
  | [], j, i => by simp [enK]
  | x :: xs, j, 0 => by simp [enK]
  | x :: xs, j, i + 1 => by simp [enK, enK_get xs (j + 1) i]; congr 1; funext x; congr 2; omega
theorem enK_len : ∀ (xs : List V) (j : Nat), (enK j xs).length = xs.length
  | [], j => rfl
  | x :: xs, j => by simp [enK, enK_len xs (j + 1)]
theorem enK_snoc : ∀ (xs : List V) (j i : Nat) (x : V), xs[i]? = some x → enK j (xs.take (i + 1)) = enK j (xs.take i) ++ [(Sum.inl ((j + i : Nat) : Int), x)]
  | [], j, i, x, h => by simp at h
  | y :: xs, j, 0, x, h => by simp at h; subst h; simp [enK]
  | y :: xs, j, i + 1, x, h => by
    have := enK_snoc xs (j + 1) i x (by simpa using h)
    rw [List.take_succ_cons, List.take_succ_cons, enK, enK, this]
    simp
    omega
section
variable {X : Cx} {W : WX} {a : Expr} {ma : Rho → M PV} {p p2 q pos : Pos}
theorem pe_dictEn {ta : TE} (hc : X.calm = true) (hg : Gl X "dict") (hm : X.mg "dict" = none) (hg2 : Gl X "enumerate") (hm2 : X.mg "enumerate" = none) (ha : PE X a ta) (na : starEach [a] X.env = (false, eval a X.env) :: starEach [] X.env)
    (nb : starEach [.Call (.Name "enumerate" p2) [a] [] q] X.env = (false, eval (.Call (.Name "enumerate" p2) [a] [] q) X.env) :: starEach [] X.env) : PE X (.Call (.Name "dict" p) [.Call (.Name "enumerate" p2) [a] [] q] [] pos) (tDictEn X.K ta) := by
  refine ⟨fun pins s σ H Q I h => Call_ (ld_blt I hg hm PyProof.Rows.boot_dict (callWith_type1 (args_cons (Call_ (ld_blt I hg2 hm2 boot_enumerate ?_)) nb) nb rfl))⟩
  refine callWith_type1 (args_cons (thn (ha.run pins s σ H _ I h) fun v s1 ⟨x, H1, I1, r1, k, xs, ex, hat, hz, q1⟩ => args_nil ?_) na) na rfl
  subst ex
  obtain ⟨i1, l1⟩ := iterOf_of I1 hat r1
  refine call_enumG i1 fun h' he h1 hk => args_nil ?_
  have I2 : Inv X pins σ H1 { s1 with heap := h' } := I1.kept (t' := s1.toks) hk
  obtain ⟨fp, P, St, D, st, hif, hfp, th, hP⟩ := drawsA_of I2 hat r1 (it := s1.heap.objs.size) (fun a e => Nat.ne_of_lt (l1 a e)) h1
  have hei : s1.heap.objs.size + 1 ≠ s1.heap.objs.size := Nat.succ_ne_self _
  have hlt : ∀ c ∈ fp, c < s1.heap.objs.size + 1 := fun c hc' => by
    rcases hfp c hc' with z | z
    · rw [z]; exact Nat.lt_succ_self _
    · exact Nat.lt_succ_of_lt (l1 c z)
  have hef : s1.heap.objs.size + 1 ∉ fp := fun hmm => Nat.lt_irrefl _ (hlt _ hmm)
  have hz2 : xs.length ≤ sizeLine := by rw [sz_eq]; exact hz
  refine PySem.call_dict_arg (pairArg_enumD hei hef hif D) ⟨⟨_, he⟩, st, th⟩ fun s3 es3 hnf ok3 => ?_
  subst es3
  refine PySem.updateFrom_arg (A := X.A.in1) (Tab := fun i h => ∃ vs, KV (mergeK [] (enK 0 (xs.take i))) vs ∧ h.DictOf (mixKind X.prog X.w) h'.objs.size vs) (pairArg_enumD hei hef hif D) .none (I1.ok.hd hc) ok3 hnf ?_ ?_ ?_ ?_ ?_
  · exact ⟨[], .nil, Heap.DictOf.new h'⟩
  · rintro i h ⟨vs, _, hd⟩; exact hd.lt_size
  · rintro i h h2 wr' hd _ ⟨vs, r, hd2⟩ hk2; exact ⟨vs, r, hd2.at' fun o e => hk2 _ o hd e⟩
  · rintro i key v s4 Q4 E4 hi ⟨⟨t, rfl⟩, pv⟩ ⟨vs, r, hd⟩ _ hQ
    obtain ⟨x, hx, rx⟩ := hP i v pv
    have len : vs.length ≤ sizeLine := by
      have e1 := length_mergeK (enK 0 (xs.take i)) []
      rw [enK_len] at e1
      have e2 := List.length_take_le i xs
      have e3 : (mergeK [] (enK 0 (xs.take i))).length = vs.length := r.length
      simp only [List.length_nil] at e1
      omega
    refine wpAny_dictSet_pairs (hsz := len) (k := (Sum.inl (i : Int) : Key)) (kV_is (k := Sum.inl (i : Int)) ⟨t, rfl⟩) hd fun h5 hd5 hs5 => ?_
    refine hQ h5 _ ⟨_, ?_, hd5⟩ hs5
    rw [enK_snoc xs 0 i x hx, Nat.zero_add]
    have e1 : mergeK [] (enK 0 (xs.take i) ++ [(Sum.inl (i : Int), x)]) = putK (mergeK [] (enK 0 (xs.take i))) (Sum.inl (i : Int)) x := by unfold mergeK; rw [List.foldl_append]; rfl
    rw [e1]
    exact r.put _ rx
  · rintro h5 tk ⟨vs, r, hd⟩ hk5
    rw [List.take_of_length_le (Nat.le_refl _)] at r
    have hm3 : (h'.objs.size == sysModules) = false := beq_eq_false_iff_ne.mpr (Nat.ne_of_gt I2.big)
    have len : (mergeK [] (enK 0 xs)).length ≤ sizeLine := by
      have e1 := length_mergeK (enK 0 xs) []
      rw [enK_len] at e1
      simp only [List.length_nil] at e1
      omega
    have fr : ∀ b ∈ [s1.heap.objs.size + 1, s1.heap.objs.size], FpOk X pins H1 b := fun b hb => by
      have hle : s1.heap.objs.size ≤ b := by
        simp only [List.mem_cons, List.not_mem_nil, or_false] at hb
        rcases hb with z | z
        · rw [z]; exact Nat.le_succ _
        · rw [z]; exact Nat.le_refl _
      exact I1.fpOk hle (I1.hok.fresh hle)
    refine ⟨rfl, .ref h'.objs.size, upd H1 h'.objs.size (.dK (mergeK [] (enK 0 xs))), I2.turnedNew (t' := tk) (ch := [s1.heap.objs.size + 1, s1.heap.objs.size]) (fun b o hb e => ?_) fr (Nat.le_refl _) ⟨len, hm3, vs, r, hd⟩, rfl, q1 _ (I2.hok.fresh (Nat.le_refl _))⟩
    exact hk5 b o (Nat.ne_of_lt (Heap.lt_size e)) hb (Heap.get?_push_of_some _ e)
def dictEn (x : PV) : M PV := fun st => match skOf x with
  | some ps => if ps.length ≤ SZ then .ok (.loc st.length) (st ++ [.dct (mergeP [] (enP 0 ps))]) else .bad
  | none => .bad
theorem enP_K {K : PySem.W.Frag} {H : Hp} {μ : Mu} : ∀ {ps : List PV} {vs : List V} (j : Nat), VRs K H μ ps vs → KRs K H μ (enP j ps) (enK j vs)
  | [], vs, j, r => by have e : vs = [] := r; subst e; rfl
  | p :: ps, vs, j, r => by
    obtain ⟨v, t, rfl, r1, r2⟩ := r
    exact ⟨_, _, _, rfl, rfl, r1, enP_K (j + 1) r2⟩
theorem me_dictEn (hc : X.calm = true) (hg : Gl X "dict") (hm : X.mg "dict" = none) (hg2 : Gl X "enumerate") (hm2 : X.mg "enumerate" = none) (ha : ME X W a ma) (na : starEach [a] X.env = (false, eval a X.env) :: starEach [] X.env := by kernel_rfl)
    (nb : starEach [.Call (.Name "enumerate" p2) [a] [] q] X.env = (false, eval (.Call (.Name "enumerate" p2) [a] [] q) X.env) :: starEach [] X.env := by kernel_rfl) : ME X W (.Call (.Name "dict" p) [.Call (.Name "enumerate" p2) [a] [] q] [] pos) (eUn dictEn ma) :=
  PE.imp (pe_dictEn hc hg hm hg2 hm2 ha na nb) fun σ H Q ⟨μ, st, ρ, er, sr, h⟩ => ⟨μ, st, ρ, er, sr, (PostG.bind h).mono fun u H1 ⟨μ1, st1, x, g1, s1, rx, h1⟩ => by
    unfold dictEn at h1
    cases hk : skOf x with
    | none => rw [hk] at h1; exact h1.elim
    | some ps =>
      rw [hk] at h1
      dsimp only at h1
      by_cases hz : ps.length ≤ SZ
      · rw [if_pos hz] at h1
        obtain ⟨k, vs, rfl, t, rs⟩ := sk_at rx hk
        exact ⟨k, vs, rfl, t μ1 H1 (Gr.refl _ _), by rw [← VRs.length rs]; exact hz, fun p hp => post_cell h1 s1 hp ⟨_, upd_same, KRs.mono (gr_alloc hp).v _ _ (KRs.merge (enP_K 0 rs) (show KRs X.K H1 μ1 [] [] from rfl))⟩⟩
      · rw [if_neg hz] at h1; exact h1.elim⟩
end
def extendM (o : PV) (xs : List PV) : M PV := fun st => match lstCell o st with
  | some (n, ys) => match xs with
    | [x] => match listOf x st with
      | some zs => if ys.length + zs.length ≤ SZ then .ok .non (st.set n (.lst (ys ++ zs))) else .bad
      | none => .bad
    | _ => .bad
  | none => .bad
theorem t_extend {K : KW} : TMe K rExtend extendM := by
  intro μ st H o xs u us E Q sr ro rs h
  unfold extendM at h
  cases q : lstCell o st with
  | none => rw [q] at h; exact h.elim
  | some p =>
    obtain ⟨n, ys⟩ := p
    rw [q] at h
    dsimp only at h
    cases xs with
    | nil => exact h.elim
    | cons x t =>
      cases t with
      | cons y t => exact h.elim
      | nil =>
        dsimp only at h
        cases hl : listOf x st with
        | none => rw [hl] at h; exact h.elim
        | some zs =>
          rw [hl] at h
          dsimp only at h
          by_cases hz : ys.length + zs.length ≤ SZ
          · rw [if_pos hz] at h
            obtain ⟨a, vs, rfl, ha, h1, h2⟩ := lstCell_at sr ro q
            obtain ⟨w, rfl, rw'⟩ := one_of rs
            obtain ⟨b, ws, rfl, h3, h4⟩ := listOf_at sr rw' hl
            refine ⟨a, b, vs, ws, rfl, rfl, h1, h3, by rw [← VRs.length h2, ← VRs.length h4, sz_eq]; exact hz, ?_⟩
            exact h μ _ .non (gr_put ha h1 rfl) (sr.put ha ⟨_, upd_same, VRs.monov (gv_put ha) _ _ (VRs.append h2 h4)⟩) rfl
          · rw [if_neg hz] at h; exact h.elim
section
variable {X : Cx} {W : WX} {o e : Expr} {apos cpos : Pos} {mo : Rho → M PV} {ma : Rho → M (List PV)}
theorem me_extend (ho : ME X W o mo) (ha : MA X W [e] ma)
    (hbase : attributeBase o "extend" X.env (eval o X.env) = eval o X.env := by kernel_rfl)
    (hfew : ((backTo cpos (starEach [e] X.env)).all (fun x => !x.1) && (backToKw cpos (keywordEach [] X.env)).all (fun x => x.1.isSome)
      && decide ([e].length + ([] : List Keyword).length + (if ([] : List Keyword).isEmpty then 0 else 1) < 30)) = true := by kernel_rfl)
    (hline : (apos.endLine == cpos.line) = true := by kernel_rfl) (hs : starEach [e] X.env = (false, eval e X.env) :: starEach [] X.env := by kernel_rfl) :
    ME X W (.Call (.Attribute o "extend" apos) [e] [] cpos) (eMeth "list" extendM mo ma) :=
  me_meth PySem.F.plainAttrs_list PySem.F.slot_list_extend PySem.F.type_list_extend mt_extend t_extend ho ha hbase hfew hline hs rfl
end
end MP

set_option maxRecDepth 100000
set_option maxHeartbeats 1000000
namespace MP
open PySem L2
def Z {α : Type} (r : Res α) (Q : α → Sto → Prop) (E : Exn → Sto → Prop) : Prop := match r with
  | .ok a st => Q a st
  | .err x st => E x st
  | .bad => False
def E0 : Exn → Sto → Prop := fun _ _ => False
abbrev KP := PV → Sto → Prop
abbrev KB := Bool → Sto → Prop
abbrev KLs := List PV → Sto → Prop
abbrev KR := Rho → Sto → Prop
abbrev KF := Fl → Sto → Prop
abbrev KU := Unit → Sto → Prop
abbrev KO := Option Int → Sto → Prop
abbrev KI := Int → Sto → Prop
abbrev KX := Exn → Sto → Prop
abbrev KD := List (PV × PV) → Sto → Prop
abbrev ME1 := Rho → M PV
abbrev MT1 := Rho → M Bool
abbrev MS1 := Rho → M Fl
abbrev ML1 := Rho → M (List PV)
section
variable {α β : Type} {st : Sto} {ρ : Rho} {Q : α → Sto → Prop} {E : KX} {QP : KP} {QF : KF} {QB : KB} {QL : KLs} {QR : KR} {QO : KO} {QI : KI} {QU : KU} {QD : KD}
@[simp ↓] theorem Z_ok {a : α} : Z (.ok a st) Q E = Q a st := propext Iff.rfl
@[simp ↓] theorem Z_err {x : Exn} : Z (.err x st : Res α) Q E = E x st := propext Iff.rfl
@[simp ↓] theorem Z_bad : Z (.bad : Res α) Q E = False := propext Iff.rfl
theorem Z.imp {r : Res α} {Q Q' : α → Sto → Prop} {E E' : KX} (h : Z r Q E) (hq : ∀ a st, Q a st → Q' a st) (he : ∀ x st, E x st → E' x st) : Z r Q' E' := by
  cases r with
  | ok a st => exact hq a st h
  | err x st => exact he x st h
  | bad => exact h
theorem Z.go {r : Res α} {Q Q' : α → Sto → Prop} {E' : KX} (h : Z r Q E0) (hq : ∀ a st, Q a st → Q' a st) : Z r Q' E' := h.imp hq fun _ _ h => False.elim h
@[simp ↓] theorem Z_ret {a : α} : Z (M.ret a st) Q E = Q a st := propext Iff.rfl
@[simp ↓] theorem Z_fail : Z ((M.fail : M α) st) Q E = False := propext Iff.rfl
theorem Z_bind {m : M β} {f : β → M α} : Z (M.bind m f st) Q E = Z (m st) (fun a st' => Z (f a st') Q E) E := by
  unfold M.bind; cases m st <;> rfl
@[simp ↓] theorem Z_calm {m : M α} : Z (M.calm m st) Q E = Z (m st) Q E0 := by
  unfold M.calm; cases m st <;> rfl
theorem Z_onErr {m : M α} {k : α → M Fl} : Z (onErr ρ m k st) QF E = Z (m st) (fun a s => Z (k a s) QF E) (fun x s => QF (.exc x ρ) s) := by
  unfold onErr; cases m st <;> rfl
theorem Z_ite {c : Prop} [Decidable c] {m m' : M α} : Z ((if c then m else m') st) Q E = if c then Z (m st) Q E else Z (m' st) Q E := by split <;> rfl
theorem Z_iteR {c : Prop} [Decidable c] {r r' : Res α} : Z (if c then r else r') Q E = if c then Z r Q E else Z r' Q E := by split <;> rfl
@[simp ↓] theorem Z_eVar {i : Nat} {p : PV} (h : ρ[i]? = some (some p)) : Z (eVar i ρ st) QP E = QP p st := by unfold eVar; rw [h]; rfl
@[simp ↓] theorem Z_eC {p : PV} : Z (eC p ρ st) QP E = QP p st := propext Iff.rfl
@[simp ↓] theorem Z_asB {b : Bool} : Z (asB (.bl b) st) QB E = QB b st := propext Iff.rfl
@[simp ↓] theorem Z_asI {i : Int} : Z (asI (.int i) st) QI E = QI i st := propext Iff.rfl
@[simp ↓] theorem Z_aNil : Z (aNil ρ st) QL E = QL [] st := propext Iff.rfl
@[simp ↓] theorem Z_oNone : Z (oNone ρ st) QO E = QO none st := propext Iff.rfl
@[simp ↓] theorem Z_sNext : Z (sNext ρ st) QF E = QF (.next ρ) st := propext Iff.rfl
@[simp ↓] theorem Z_sPass : Z (sPass ρ st) QF E = QF (.next ρ) st := propext Iff.rfl
@[simp ↓] theorem Z_sBreak : Z (sBreak ρ st) QF E = QF (.brk ρ) st := propext Iff.rfl
@[simp ↓] theorem Z_sCont : Z (sCont ρ st) QF E = QF (.cont ρ) st := propext Iff.rfl
@[simp ↓] theorem Z_sRetN : Z (sRetN ρ st) QF E = QF (.ret .non) st := propext Iff.rfl
@[simp ↓] theorem Z_gN {i : Nat} {p : PV} : Z (gN i p ρ st) QR E = QR (ρ.set i (some p)) st := propext Iff.rfl
def kB2 (g : PV → PV → M PV) (x : PV) (QP : KP) (E : KX) : PV → Sto → Prop := fun y s => Z (g x y s) QP E
@[simp ↓] theorem kB2_at {g : PV → PV → M PV} {x : PV} {QP : KP} {E : KX} {y : PV} {s : Sto} : kB2 g x QP E y s = (Z (g x y s) QP E) := propext Iff.rfl
def kB1 (g : PV → PV → M PV) (mb : ME1) (ρ : Rho) (QP : KP) (E : KX) : PV → Sto → Prop := fun x s => Z (mb ρ s) (kB2 g x QP E) E
@[simp ↓] theorem kB1_at {g : PV → PV → M PV} {mb : ME1} {ρ : Rho} {QP : KP} {E : KX} {x : PV} {s : Sto} : kB1 g mb ρ QP E x s = (Z (mb ρ s) (kB2 g x QP E) E) := propext Iff.rfl
@[simp ↓] theorem Z_eBin {g : PV → PV → M PV} {ma mb : ME1} : Z (eBin g ma mb ρ st) QP E = Z (ma ρ st) (kB1 g mb ρ QP E) E := by
  unfold eBin; rw [Z_bind]; simp only [Z_bind]; rfl
def kU (g : PV → M PV) (QP : KP) (E : KX) : PV → Sto → Prop := fun x s => Z (g x s) QP E
@[simp ↓] theorem kU_at {g : PV → M PV} {QP : KP} {E : KX} {x : PV} {s : Sto} : kU g QP E x s = (Z (g x s) QP E) := propext Iff.rfl
@[simp ↓] theorem Z_eUn {g : PV → M PV} {ma : ME1} : Z (eUn g ma ρ st) QP E = Z (ma ρ st) (kU g QP E) E := by
  unfold eUn; rw [Z_bind]; rfl
def kAs (QB : KB) (E : KX) : PV → Sto → Prop := fun x s => Z (asB x s) QB E
@[simp ↓] theorem kAs_bl {QB : KB} {E : KX} {b : Bool} {s : Sto} : kAs QB E (.bl b) s = QB b s := propext Iff.rfl
@[simp ↓] theorem Z_eB {m : ME1} : Z (eB m ρ st) QB E = Z (m ρ st) (kAs QB E) E := by
  unfold eB; rw [Z_bind]; rfl
def kAnd (u : MT1) (ρ : Rho) (QB : KB) (E : KX) : Bool → Sto → Prop := fun c s => if c = true then Z (u ρ s) QB E else QB false s
@[simp ↓] theorem kAnd_t {u : MT1} {ρ : Rho} {QB : KB} {E : KX} {s : Sto} : kAnd u ρ QB E true s = (Z (u ρ s) QB E) := propext Iff.rfl
@[simp ↓] theorem kAnd_f {u : MT1} {ρ : Rho} {QB : KB} {E : KX} {s : Sto} : kAnd u ρ QB E false s = (QB false s) := propext Iff.rfl
theorem kAnd_of {u : MT1} {ρ : Rho} {QB : KB} {E : KX} {c : Bool} {s : Sto} (h : c = true → Z (u ρ s) QB E) (h' : c = false → QB false s) : kAnd u ρ QB E c s := by
  cases c
  · exact h' rfl
  · exact h rfl
@[simp ↓] theorem Z_tAnd {t u : MT1} : Z (tAndM t u ρ st) QB E = Z (t ρ st) (kAnd u ρ QB E) E := by
  unfold tAndM; rw [Z_bind]; congr 1; funext c s; cases c <;> rfl
def kOr (u : MT1) (ρ : Rho) (QB : KB) (E : KX) : Bool → Sto → Prop := fun c s => if c = true then QB true s else Z (u ρ s) QB E
@[simp ↓] theorem kOr_t {u : MT1} {ρ : Rho} {QB : KB} {E : KX} {s : Sto} : kOr u ρ QB E true s = (QB true s) := propext Iff.rfl
@[simp ↓] theorem kOr_f {u : MT1} {ρ : Rho} {QB : KB} {E : KX} {s : Sto} : kOr u ρ QB E false s = (Z (u ρ s) QB E) := propext Iff.rfl
theorem kOr_of {u : MT1} {ρ : Rho} {QB : KB} {E : KX} {c : Bool} {s : Sto} (h : c = true → QB true s) (h' : c = false → Z (u ρ s) QB E) : kOr u ρ QB E c s := by
  cases c
  · exact h' rfl
  · exact h rfl
@[simp ↓] theorem Z_tOr {t u : MT1} : Z (tOrM t u ρ st) QB E = Z (t ρ st) (kOr u ρ QB E) E := by
  unfold tOrM; rw [Z_bind]; congr 1; funext c s; cases c <;> rfl
def kNot (QB : KB) : Bool → Sto → Prop := fun c s => QB (!c) s
@[simp ↓] theorem kNot_at {QB : KB} {c : Bool} {s : Sto} : kNot QB c s = (QB (!c) s) := propext Iff.rfl
@[simp ↓] theorem Z_tNot {t : MT1} : Z (tNotM t ρ st) QB E = Z (t ρ st) (kNot QB) E := by
  unfold tNotM; rw [Z_bind]; rfl
def kAndV (mb : ME1) (ρ : Rho) (QP : KP) (E : KX) : Bool → Sto → Prop := fun c s => if c = true then Z (mb ρ s) QP E else QP (.bl false) s
@[simp ↓] theorem kAndV_t {mb : ME1} {ρ : Rho} {QP : KP} {E : KX} {s : Sto} : kAndV mb ρ QP E true s = (Z (mb ρ s) QP E) := propext Iff.rfl
@[simp ↓] theorem kAndV_f {mb : ME1} {ρ : Rho} {QP : KP} {E : KX} {s : Sto} : kAndV mb ρ QP E false s = (QP (.bl false) s) := propext Iff.rfl
theorem kAndV_of {mb : ME1} {ρ : Rho} {QP : KP} {E : KX} {c : Bool} {s : Sto} (h : c = true → Z (mb ρ s) QP E) (h' : c = false → QP (.bl false) s) : kAndV mb ρ QP E c s := by
  cases c
  · exact h' rfl
  · exact h rfl
@[simp ↓] theorem Z_eAnd {ma mb : ME1} : Z (eAndV ma mb ρ st) QP E = Z (ma ρ st) (kAs (kAndV mb ρ QP E) E) E := by
  unfold eAndV; rw [Z_bind]; congr 1; funext x s; rw [Z_bind]; show Z _ _ _ = Z _ _ _; congr 1; funext c s; cases c <;> rfl
def kOrV (mb : ME1) (ρ : Rho) (QP : KP) (E : KX) : Bool → Sto → Prop := fun c s => if c = true then QP (.bl true) s else Z (mb ρ s) QP E
@[simp ↓] theorem kOrV_t {mb : ME1} {ρ : Rho} {QP : KP} {E : KX} {s : Sto} : kOrV mb ρ QP E true s = (QP (.bl true) s) := propext Iff.rfl
@[simp ↓] theorem kOrV_f {mb : ME1} {ρ : Rho} {QP : KP} {E : KX} {s : Sto} : kOrV mb ρ QP E false s = (Z (mb ρ s) QP E) := propext Iff.rfl
theorem kOrV_of {mb : ME1} {ρ : Rho} {QP : KP} {E : KX} {c : Bool} {s : Sto} (h : c = true → QP (.bl true) s) (h' : c = false → Z (mb ρ s) QP E) : kOrV mb ρ QP E c s := by
  cases c
  · exact h' rfl
  · exact h rfl
@[simp ↓] theorem Z_eOr {ma mb : ME1} : Z (eOrV ma mb ρ st) QP E = Z (ma ρ st) (kAs (kOrV mb ρ QP E) E) E := by
  unfold eOrV; rw [Z_bind]; congr 1; funext x s; rw [Z_bind]; show Z _ _ _ = Z _ _ _; congr 1; funext c s; cases c <;> rfl
def kNotV (QP : KP) : Bool → Sto → Prop := fun c s => QP (.bl (!c)) s
@[simp ↓] theorem kNotV_at {QP : KP} {c : Bool} {s : Sto} : kNotV QP c s = (QP (.bl (!c)) s) := propext Iff.rfl
@[simp ↓] theorem Z_eNot {ma : ME1} : Z (eNotV ma ρ st) QP E = Z (ma ρ st) (kAs (kNotV QP) E) E := by
  unfold eNotV; rw [Z_bind]; congr 1; funext x s; rw [Z_bind]; rfl
def kIf (ma : ME1) (mb : ME1) (ρ : Rho) (QP : KP) (E : KX) : Bool → Sto → Prop := fun c s => if c = true then Z (ma ρ s) QP E else Z (mb ρ s) QP E
@[simp ↓] theorem kIf_t {ma : ME1} {mb : ME1} {ρ : Rho} {QP : KP} {E : KX} {s : Sto} : kIf ma mb ρ QP E true s = (Z (ma ρ s) QP E) := propext Iff.rfl
@[simp ↓] theorem kIf_f {ma : ME1} {mb : ME1} {ρ : Rho} {QP : KP} {E : KX} {s : Sto} : kIf ma mb ρ QP E false s = (Z (mb ρ s) QP E) := propext Iff.rfl
theorem kIf_of {ma : ME1} {mb : ME1} {ρ : Rho} {QP : KP} {E : KX} {c : Bool} {s : Sto} (h : c = true → Z (ma ρ s) QP E) (h' : c = false → Z (mb ρ s) QP E) : kIf ma mb ρ QP E c s := by
  cases c
  · exact h' rfl
  · exact h rfl
@[simp ↓] theorem Z_eIf {t : MT1} {ma mb : ME1} : Z (eIf t ma mb ρ st) QP E = Z (t ρ st) (kIf ma mb ρ QP E) E := by
  unfold eIf; rw [Z_bind]; congr 1; funext c s; cases c <;> rfl
def kA2 (x : PV) (QL : KLs) : List PV → Sto → Prop := fun xs s => QL (x :: xs) s
@[simp ↓] theorem kA2_at {x : PV} {QL : KLs} {xs : List PV} {s : Sto} : kA2 x QL xs s = (QL (x :: xs) s) := propext Iff.rfl
def kA1 (r : ML1) (ρ : Rho) (QL : KLs) (E : KX) : PV → Sto → Prop := fun x s => Z (r ρ s) (kA2 x QL) E
@[simp ↓] theorem kA1_at {r : ML1} {ρ : Rho} {QL : KLs} {E : KX} {x : PV} {s : Sto} : kA1 r ρ QL E x s = (Z (r ρ s) (kA2 x QL) E) := propext Iff.rfl
@[simp ↓] theorem Z_aCons {m : ME1} {r : ML1} : Z (aCons m r ρ st) QL E = Z (m ρ st) (kA1 r ρ QL E) E := by
  unfold aCons; rw [Z_bind]; congr 1; funext x s; rw [Z_bind]; rfl
def kF (f : List PV → M PV) (QP : KP) (E : KX) : List PV → Sto → Prop := fun xs s => Z (f xs s) QP E
@[simp ↓] theorem kF_at {f : List PV → M PV} {QP : KP} {E : KX} {xs : List PV} {s : Sto} : kF f QP E xs s = (Z (f xs s) QP E) := propext Iff.rfl
@[simp ↓] theorem Z_eCall {f : List PV → M PV} {m : ML1} : Z (eCall f m ρ st) QP E = Z (m ρ st) (kF f QP E) E := by
  unfold eCall; rw [Z_bind]; rfl
def kM3 (f : PV → List PV → M PV) (o : PV) (QP : KP) (E : KX) : List PV → Sto → Prop := fun xs s => Z (f o xs s) QP E
@[simp ↓] theorem kM3_at {f : PV → List PV → M PV} {o : PV} {QP : KP} {E : KX} {xs : List PV} {s : Sto} : kM3 f o QP E xs s = (Z (f o xs s) QP E) := propext Iff.rfl
def kM2 (f : PV → List PV → M PV) (ma : ML1) (ρ : Rho) (o : PV) (QP : KP) (E : KX) : Unit → Sto → Prop := fun _ s => Z (ma ρ s) (kM3 f o QP E) E
@[simp ↓] theorem kM2_at {f : PV → List PV → M PV} {ma : ML1} {ρ : Rho} {o : PV} {QP : KP} {E : KX} {a : Unit} {s : Sto} : kM2 f ma ρ o QP E a s = (Z (ma ρ s) (kM3 f o QP E) E) := propext Iff.rfl
def kM1 (T : String) (f : PV → List PV → M PV) (ma : ML1) (ρ : Rho) (QP : KP) (E : KX) : PV → Sto → Prop := fun o s => Z (tyC T o s) (kM2 f ma ρ o QP E) E
@[simp ↓] theorem kM1_at {T : String} {f : PV → List PV → M PV} {ma : ML1} {ρ : Rho} {QP : KP} {E : KX} {o : PV} {s : Sto} : kM1 T f ma ρ QP E o s = (Z (tyC T o s) (kM2 f ma ρ o QP E) E) := propext Iff.rfl
@[simp ↓] theorem Z_eMeth {T : String} {f : PV → List PV → M PV} {mo : ME1} {ma : ML1} : Z (eMeth T f mo ma ρ st) QP E = Z (mo ρ st) (kM1 T f ma ρ QP E) E := by
  unfold eMeth; rw [Z_bind]; simp only [Z_bind]; rfl
def kC3 (g : PV → PV → M PV) (mc : ME1) (ρ : Rho) (y : PV) (QP : KP) (E : KX) : Bool → Sto → Prop := fun c s => if c = true then Z (mc ρ s) (kB2 g y QP E) E else QP (.bl false) s
@[simp ↓] theorem kC3_t {g : PV → PV → M PV} {mc : ME1} {ρ : Rho} {y : PV} {QP : KP} {E : KX} {s : Sto} : kC3 g mc ρ y QP E true s = (Z (mc ρ s) (kB2 g y QP E) E) := propext Iff.rfl
@[simp ↓] theorem kC3_f {g : PV → PV → M PV} {mc : ME1} {ρ : Rho} {y : PV} {QP : KP} {E : KX} {s : Sto} : kC3 g mc ρ y QP E false s = (QP (.bl false) s) := propext Iff.rfl
theorem kC3_of {g : PV → PV → M PV} {mc : ME1} {ρ : Rho} {y : PV} {QP : KP} {E : KX} {c : Bool} {s : Sto} (h : c = true → Z (mc ρ s) (kB2 g y QP E) E) (h' : c = false → QP (.bl false) s) : kC3 g mc ρ y QP E c s := by
  cases c
  · exact h' rfl
  · exact h rfl
def kC2 (f : PV → PV → M PV) (g : PV → PV → M PV) (mc : ME1) (ρ : Rho) (x : PV) (QP : KP) (E : KX) : PV → Sto → Prop := fun y s => Z (f x y s) (kAs (kC3 g mc ρ y QP E) E) E
@[simp ↓] theorem kC2_at {f : PV → PV → M PV} {g : PV → PV → M PV} {mc : ME1} {ρ : Rho} {x : PV} {QP : KP} {E : KX} {y : PV} {s : Sto} : kC2 f g mc ρ x QP E y s = (Z (f x y s) (kAs (kC3 g mc ρ y QP E) E) E) := propext Iff.rfl
def kC1 (f : PV → PV → M PV) (g : PV → PV → M PV) (mb : ME1) (mc : ME1) (ρ : Rho) (QP : KP) (E : KX) : PV → Sto → Prop := fun x s => Z (mb ρ s) (kC2 f g mc ρ x QP E) E
@[simp ↓] theorem kC1_at {f : PV → PV → M PV} {g : PV → PV → M PV} {mb : ME1} {mc : ME1} {ρ : Rho} {QP : KP} {E : KX} {x : PV} {s : Sto} : kC1 f g mb mc ρ QP E x s = (Z (mb ρ s) (kC2 f g mc ρ x QP E) E) := propext Iff.rfl
@[simp ↓] theorem Z_eChain {f g : PV → PV → M PV} {ma mb mc : ME1} : Z (eChain f g ma mb mc ρ st) QP E = Z (ma ρ st) (kC1 f g mb mc ρ QP E) E := by
  unfold eChain; rw [Z_bind]; congr 1; funext x s; rw [Z_bind]; show Z _ _ _ = Z _ _ _; congr 1; funext y s; rw [Z_bind]; show Z _ _ _ = Z _ _ _; congr 1; funext z s; rw [Z_bind]; show Z _ _ _ = Z _ _ _; congr 1; funext c s; cases c
  · rfl
  · show Z (M.bind _ _ _) _ _ = _; rw [Z_bind]; rfl
def seqQ (m' : MS1) (Q : KF) (E : KX) : Fl → Sto → Prop
  | .next ρ, st => Z (m' ρ st) Q E
  | fl, st => Q fl st
@[simp] theorem seqQ_next {m' : MS1} : seqQ m' QF E (.next ρ) st = Z (m' ρ st) QF E := propext Iff.rfl
@[simp] theorem seqQ_ret {m' : MS1} {v : PV} : seqQ m' QF E (.ret v) st = QF (.ret v) st := propext Iff.rfl
@[simp] theorem seqQ_brk {m' : MS1} : seqQ m' QF E (.brk ρ) st = QF (.brk ρ) st := propext Iff.rfl
@[simp] theorem seqQ_cont {m' : MS1} : seqQ m' QF E (.cont ρ) st = QF (.cont ρ) st := propext Iff.rfl
@[simp] theorem seqQ_exc {m' : MS1} {x : Exn} : seqQ m' QF E (.exc x ρ) st = QF (.exc x ρ) st := propext Iff.rfl
@[simp ↓] theorem Z_sSeq {m m' : MS1} : Z (sSeq m m' ρ st) QF E = Z (m ρ st) (seqQ m' QF E) E := by
  unfold sSeq
  cases m ρ st with
  | ok f s => cases f <;> rfl
  | err x s => rfl
  | bad => rfl
def turnQ (k : MS1) (Q : KF) (E : KX) : Fl → Sto → Prop
  | .next ρ, st => Z (k ρ st) Q E
  | .cont ρ, st => Z (k ρ st) Q E
  | .brk ρ, st => Q (.next ρ) st
  | fl, st => Q fl st
@[simp] theorem turnQ_next {k : MS1} : turnQ k QF E (.next ρ) st = Z (k ρ st) QF E := propext Iff.rfl
@[simp] theorem turnQ_cont {k : MS1} : turnQ k QF E (.cont ρ) st = Z (k ρ st) QF E := propext Iff.rfl
@[simp] theorem turnQ_brk {k : MS1} : turnQ k QF E (.brk ρ) st = QF (.next ρ) st := propext Iff.rfl
@[simp] theorem turnQ_ret {k : MS1} {v : PV} : turnQ k QF E (.ret v) st = QF (.ret v) st := propext Iff.rfl
@[simp] theorem turnQ_exc {k : MS1} {x : Exn} : turnQ k QF E (.exc x ρ) st = QF (.exc x ρ) st := propext Iff.rfl
@[simp ↓] theorem Z_turn {k : MS1} {m : M Fl} : Z (turnL k m st) QF E = Z (m st) (turnQ k QF E) E := by
  unfold turnL
  cases m st with
  | ok f s => cases f <;> rfl
  | err x s => rfl
  | bad => rfl
def kX (ρ : Rho) (QF : KF) : Exn → Sto → Prop := fun x s => QF (.exc x ρ) s
@[simp ↓] theorem kX_at {ρ : Rho} {QF : KF} {x : Exn} {s : Sto} : kX ρ QF x s = (QF (.exc x ρ) s) := propext Iff.rfl
def kDrop (ρ : Rho) (QF : KF) : PV → Sto → Prop := fun _ s => QF (.next ρ) s
@[simp ↓] theorem kDrop_at {ρ : Rho} {QF : KF} {a : PV} {s : Sto} : kDrop ρ QF a s = (QF (.next ρ) s) := propext Iff.rfl
@[simp ↓] theorem Z_sDrop {me : ME1} : Z (sDrop me ρ st) QF E = Z (me ρ st) (kDrop ρ QF) (kX ρ QF) := by
  unfold sDrop; rw [Z_onErr]; rfl
def kRet (QF : KF) : PV → Sto → Prop := fun v s => QF (.ret v) s
@[simp ↓] theorem kRet_at {QF : KF} {v : PV} {s : Sto} : kRet QF v s = (QF (.ret v) s) := propext Iff.rfl
@[simp ↓] theorem Z_sRet {me : ME1} : Z (sRet me ρ st) QF E = Z (me ρ st) (kRet QF) (kX ρ QF) := by
  unfold sRet; rw [Z_onErr]; rfl
def kSet (i : Nat) (ρ : Rho) (QF : KF) : PV → Sto → Prop := fun v s => QF (.next (ρ.set i (some v))) s
@[simp ↓] theorem kSet_at {i : Nat} {ρ : Rho} {QF : KF} {v : PV} {s : Sto} : kSet i ρ QF v s = (QF (.next (ρ.set i (some v))) s) := propext Iff.rfl
@[simp ↓] theorem Z_sSet {i : Nat} {me : ME1} : Z (sSet i me ρ st) QF E = Z (me ρ st) (kSet i ρ QF) (kX ρ QF) := by
  unfold sSet; rw [Z_onErr]; rfl
def kSIf (m : MS1) (m' : MS1) (ρ : Rho) (QF : KF) (E : KX) : Bool → Sto → Prop := fun c s => if c = true then Z (m ρ s) QF E else Z (m' ρ s) QF E
@[simp ↓] theorem kSIf_t {m : MS1} {m' : MS1} {ρ : Rho} {QF : KF} {E : KX} {s : Sto} : kSIf m m' ρ QF E true s = (Z (m ρ s) QF E) := propext Iff.rfl
@[simp ↓] theorem kSIf_f {m : MS1} {m' : MS1} {ρ : Rho} {QF : KF} {E : KX} {s : Sto} : kSIf m m' ρ QF E false s = (Z (m' ρ s) QF E) := propext Iff.rfl
theorem kSIf_of {m : MS1} {m' : MS1} {ρ : Rho} {QF : KF} {E : KX} {c : Bool} {s : Sto} (h : c = true → Z (m ρ s) QF E) (h' : c = false → Z (m' ρ s) QF E) : kSIf m m' ρ QF E c s := by
  cases c
  · exact h' rfl
  · exact h rfl
@[simp ↓] theorem Z_sIf {t : MT1} {m m' : MS1} : Z (sIf t m m' ρ st) QF E = Z (t ρ st) (kSIf m m' ρ QF E) (kX ρ QF) := by
  unfold sIf; rw [Z_onErr]; congr 1; funext c s; cases c <;> rfl
def kNx (QF : KF) : Rho → Sto → Prop := fun ρ' s => QF (.next ρ') s
@[simp ↓] theorem kNx_at {QF : KF} {ρ' : Rho} {s : Sto} : kNx QF ρ' s = (QF (.next ρ') s) := propext Iff.rfl
def kAsg (g : GM) (ρ : Rho) (QF : KF) : PV → Sto → Prop := fun v s => Z (g v ρ s) (kNx QF) (kX ρ QF)
@[simp ↓] theorem kAsg_at {g : GM} {ρ : Rho} {QF : KF} {v : PV} {s : Sto} : kAsg g ρ QF v s = (Z (g v ρ s) (kNx QF) (kX ρ QF)) := propext Iff.rfl
@[simp ↓] theorem Z_sAsg {me : ME1} {g : GM} : Z (sAsg me g ρ st) QF E = Z (me ρ st) (kAsg g ρ QF) (kX ρ QF) := by
  unfold sAsg; rw [Z_onErr]; congr 1; funext v s; rw [Z_onErr]; rfl
def kG3 (ρ : Rho) (QR : KR) : Unit → Sto → Prop := fun _ s => QR ρ s
@[simp ↓] theorem kG3_at {ρ : Rho} {QR : KR} {a : Unit} {s : Sto} : kG3 ρ QR a s = (QR ρ s) := propext Iff.rfl
def kG2 (o : PV) (p : PV) (ρ : Rho) (QR : KR) (E : KX) : PV → Sto → Prop := fun i s => Z (setM o i p s) (kG3 ρ QR) E
@[simp ↓] theorem kG2_at {o : PV} {p : PV} {ρ : Rho} {QR : KR} {E : KX} {i : PV} {s : Sto} : kG2 o p ρ QR E i s = (Z (setM o i p s) (kG3 ρ QR) E) := propext Iff.rfl
def kG1 (mi : ME1) (p : PV) (ρ : Rho) (QR : KR) (E : KX) : PV → Sto → Prop := fun o s => Z (mi ρ s) (kG2 o p ρ QR E) E
@[simp ↓] theorem kG1_at {mi : ME1} {p : PV} {ρ : Rho} {QR : KR} {E : KX} {o : PV} {s : Sto} : kG1 mi p ρ QR E o s = (Z (mi ρ s) (kG2 o p ρ QR E) E) := propext Iff.rfl
@[simp ↓] theorem Z_gSub {mo mi : ME1} {p : PV} : Z (gSubM mo mi p ρ st) QR E = Z (mo ρ st) (kG1 mi p ρ QR E) E := by
  unfold gSubM; rw [Z_bind]; simp only [Z_bind]; rfl
def kGs (r : GsM) (xs : List PV) (QR : KR) (E : KX) : Rho → Sto → Prop := fun ρ1 s => Z (r xs ρ1 s) QR E
@[simp] theorem kGs_at {r : GsM} {xs : List PV} {QR : KR} {E : KX} {ρ1 : Rho} {s : Sto} : kGs r xs QR E ρ1 s = (Z (r xs ρ1 s) QR E) := propext Iff.rfl
@[simp ↓] theorem Z_gsCons {g : GM} {r : GsM} {x : PV} {xs : List PV} : Z (gsCons g r (x :: xs) ρ st) QR E = Z (g x ρ st) (kGs r xs QR E) E0 := by
  unfold gsCons; dsimp only; rw [Z_bind, Z_calm]; rfl
@[simp ↓] theorem Z_gsNil : Z (gsNil [] ρ st) QR E = QR ρ st := propext Iff.rfl
@[simp ↓] theorem Z_gT {m : Nat} {r : GsM} {xs : List PV} : Z (gT m r (.tup xs) ρ st) QR E = if xs.length = m then Z (r xs ρ st) QR E0 else False := by
  unfold gT; dsimp only; rw [Z_ite]; by_cases h : xs.length = m
  · rw [if_pos h, if_pos h, Z_calm]
  · rw [if_neg h, if_neg h]; rfl
@[simp ↓] theorem Z_gTLt {m : Nat} {r : GsM} {xs : List PV} : Z (gTL m r (.tup xs) ρ st) QR E = if xs.length = m then Z (r xs ρ st) QR E0 else False := by
  unfold gTL; dsimp only; rw [Z_ite]; by_cases h : xs.length = m
  · rw [if_pos h, if_pos h, Z_calm]
  · rw [if_neg h, if_neg h]; rfl
@[simp ↓] theorem Z_gTLl {m : Nat} {r : GsM} {xs : List PV} : Z (gTL m r (.lst xs) ρ st) QR E = if xs.length = m then Z (r xs ρ st) QR E0 else False := by
  unfold gTL; dsimp only; rw [Z_ite]; by_cases h : xs.length = m
  · rw [if_pos h, if_pos h, Z_calm]
  · rw [if_neg h, if_neg h]; rfl
def kFor (g : GM) (b : MS1) (ρ : Rho) (QF : KF) (E : KX) : List PV → Sto → Prop := fun ps s => Z (forL g b ps ρ s) QF E
@[simp ↓] theorem kFor_at {g : GM} {b : MS1} {ρ : Rho} {QF : KF} {E : KX} {ps : List PV} {s : Sto} : kFor g b ρ QF E ps s = (Z (forL g b ps ρ s) QF E) := propext Iff.rfl
@[simp ↓] theorem Z_sFor {mi : ML1} {g : GM} {b : MS1} : Z (sFor mi g b ρ st) QF E = Z (mi ρ st) (kFor g b ρ QF E) (kX ρ QF) := by
  unfold sFor; rw [Z_onErr]; rfl
theorem Z_forL_nil {g : GM} {b : MS1} : Z (forL g b [] ρ st) QF E = QF (.next ρ) st := propext Iff.rfl
def kF1 (g : GM) (b : MS1) (ps : List PV) (QF : KF) (E : KX) : Rho → Sto → Prop := fun ρ1 s => Z (b ρ1 s) (turnQ (forL g b ps) QF E) E
@[simp] theorem kF1_at {g : GM} {b : MS1} {ps : List PV} {QF : KF} {E : KX} {ρ1 : Rho} {s : Sto} : kF1 g b ps QF E ρ1 s = (Z (b ρ1 s) (turnQ (forL g b ps) QF E) E) := propext Iff.rfl
theorem Z_forL {g : GM} {b : MS1} {p : PV} {ps : List PV} : Z (forL g b (p :: ps) ρ st) QF E = Z (g p ρ st) (kF1 g b ps QF E) (kX ρ QF) := by
  rw [forL, Z_onErr]
  simp only [Z_turn]
  rfl
def kIt (QL : KLs) (E : KX) : PV → Sto → Prop := fun x s => Z (itemsM x s) QL E
@[simp ↓] theorem kIt_at {QL : KLs} {E : KX} {x : PV} {s : Sto} : kIt QL E x s = (Z (itemsM x s) QL E) := propext Iff.rfl
@[simp ↓] theorem Z_iSeq {m : ME1} : Z (iSeq m ρ st) QL E = Z (m ρ st) (kIt QL E) E := by
  unfold iSeq; rw [Z_bind]; rfl
def kFL (f : List PV → M (List PV)) (QL : KLs) (E : KX) : List PV → Sto → Prop := fun xs s => Z (f xs s) QL E
@[simp ↓] theorem kFL_at {f : List PV → M (List PV)} {QL : KLs} {E : KX} {xs : List PV} {s : Sto} : kFL f QL E xs s = (Z (f xs s) QL E) := propext Iff.rfl
@[simp ↓] theorem Z_iCall {f : List PV → M (List PV)} {m : ML1} : Z (iCall f m ρ st) QL E = Z (m ρ st) (kFL f QL E) E := by
  unfold iCall; rw [Z_bind]; rfl
def kS3 (f : PV → Option Int → Option Int → M PV) (x : PV) (l : Option Int) (QP : KP) (E : KX) : Option Int → Sto → Prop := fun h s => Z (f x l h s) QP E
@[simp ↓] theorem kS3_at {f : PV → Option Int → Option Int → M PV} {x : PV} {l : Option Int} {QP : KP} {E : KX} {h : Option Int} {s : Sto} : kS3 f x l QP E h s = (Z (f x l h s) QP E) := propext Iff.rfl
def kS2 (f : PV → Option Int → Option Int → M PV) (mh : Rho → M (Option Int)) (ρ : Rho) (x : PV) (QP : KP) (E : KX) : Option Int → Sto → Prop := fun l s => Z (mh ρ s) (kS3 f x l QP E) E
@[simp ↓] theorem kS2_at {f : PV → Option Int → Option Int → M PV} {mh : Rho → M (Option Int)} {ρ : Rho} {x : PV} {QP : KP} {E : KX} {l : Option Int} {s : Sto} : kS2 f mh ρ x QP E l s = (Z (mh ρ s) (kS3 f x l QP E) E) := propext Iff.rfl
def kS1 (f : PV → Option Int → Option Int → M PV) (ml : Rho → M (Option Int)) (mh : Rho → M (Option Int)) (ρ : Rho) (QP : KP) (E : KX) : PV → Sto → Prop := fun x s => Z (ml ρ s) (kS2 f mh ρ x QP E) E
@[simp ↓] theorem kS1_at {f : PV → Option Int → Option Int → M PV} {ml : Rho → M (Option Int)} {mh : Rho → M (Option Int)} {ρ : Rho} {QP : KP} {E : KX} {x : PV} {s : Sto} : kS1 f ml mh ρ QP E x s = (Z (ml ρ s) (kS2 f mh ρ x QP E) E) := propext Iff.rfl
@[simp ↓] theorem Z_eSl {f : PV → Option Int → Option Int → M PV} {me : ME1} {ml mh : Rho → M (Option Int)} : Z (eSl f me ml mh ρ st) QP E = Z (me ρ st) (kS1 f ml mh ρ QP E) E := by
  unfold eSl; rw [Z_bind]; simp only [Z_bind]; rfl
def kO2 (QO : KO) : Int → Sto → Prop := fun i s => QO (some i) s
@[simp ↓] theorem kO2_at {QO : KO} {i : Int} {s : Sto} : kO2 QO i s = (QO (some i) s) := propext Iff.rfl
def kO1 (QO : KO) (E : KX) : PV → Sto → Prop := fun x s => Z (asI x s) (kO2 QO) E
@[simp ↓] theorem kO1_at {QO : KO} {E : KX} {x : PV} {s : Sto} : kO1 QO E x s = (Z (asI x s) (kO2 QO) E) := propext Iff.rfl
@[simp ↓] theorem Z_oSome {m : ME1} : Z (oSome m ρ st) QO E = Z (m ρ st) (kO1 QO E) E := by
  unfold oSome; rw [Z_bind]; simp only [Z_bind]; rfl
def kP3 (k : PV) (v : PV) (QD : KD) : List (PV × PV) → Sto → Prop := fun ps s => QD ((k, v) :: ps) s
@[simp ↓] theorem kP3_at {k : PV} {v : PV} {QD : KD} {ps : List (PV × PV)} {s : Sto} : kP3 k v QD ps s = (QD ((k, v) :: ps) s) := propext Iff.rfl
def kP2 (ms : List (ME1 × ME1)) (ρ : Rho) (k : PV) (QD : KD) (E : KX) : PV → Sto → Prop := fun v s => Z (pairsM ms ρ s) (kP3 k v QD) E
@[simp ↓] theorem kP2_at {ms : List (ME1 × ME1)} {ρ : Rho} {k : PV} {QD : KD} {E : KX} {v : PV} {s : Sto} : kP2 ms ρ k QD E v s = (Z (pairsM ms ρ s) (kP3 k v QD) E) := propext Iff.rfl
def kP1 (mv : ME1) (ms : List (ME1 × ME1)) (ρ : Rho) (QD : KD) (E : KX) : PV → Sto → Prop := fun k s => Z (mv ρ s) (kP2 ms ρ k QD E) E
@[simp ↓] theorem kP1_at {mv : ME1} {ms : List (ME1 × ME1)} {ρ : Rho} {QD : KD} {E : KX} {k : PV} {s : Sto} : kP1 mv ms ρ QD E k s = (Z (mv ρ s) (kP2 ms ρ k QD E) E) := propext Iff.rfl
@[simp ↓] theorem Z_pairsN : Z (pairsM [] ρ st) QD E = QD [] st := propext Iff.rfl
@[simp ↓] theorem Z_pairsC {mk mv : ME1} {ms : List (ME1 × ME1)} : Z (pairsM ((mk, mv) :: ms) ρ st) QD E = Z (mk ρ st) (kP1 mv ms ρ QD E) E := by
  rw [pairsM, Z_bind]; simp only [Z_bind]; rfl
def kD (QP : KP) : List (PV × PV) → Sto → Prop := fun ps s => if keysOk ps = true ∧ ps.length ≤ 15 then QP (.loc s.length) (s ++ [.dct (mergeP [] ps)]) else False
@[simp ↓] theorem kD_at {QP : KP} {ps : List (PV × PV)} {s : Sto} : kD QP ps s = (if keysOk ps = true ∧ ps.length ≤ 15 then QP (.loc s.length) (s ++ [.dct (mergeP [] ps)]) else False) := propext Iff.rfl
@[simp ↓] theorem Z_eDct {ms : List (ME1 × ME1)} : Z (eDct ms ρ st) QP E = Z (pairsM ms ρ st) (kD QP) E := by
  unfold eDct M.bind
  cases pairsM ms ρ st with
  | ok ps s => exact Z_iteR
  | err x s => rfl
  | bad => rfl
@[simp ↓] theorem Z_eDct0 : Z (eDct0 ρ st) QP E = QP (.loc st.length) (st ++ [.dct []]) := propext Iff.rfl
def kLE (k : List PV → M PV) (QP : KP) (E : KX) : List PV → Sto → Prop := fun acc s => Z (k acc s) QP E
@[simp ↓] theorem kLE_at {k : List PV → M PV} {QP : KP} {E : KX} {acc : List PV} {s : Sto} : kLE k QP E acc s = (Z (k acc s) QP E) := propext Iff.rfl
def kLc (k : List PV → M PV) (g : GM) (t : MT1) (e : ME1) (vs : List Nat) (ρ : Rho) (QP : KP) (E : KX) : List PV → Sto → Prop := fun ps s => Z (lcL g t e (wipeP ρ vs) ps [] s) (kLE k QP E) E
@[simp ↓] theorem kLc_at {k : List PV → M PV} {g : GM} {t : MT1} {e : ME1} {vs : List Nat} {ρ : Rho} {QP : KP} {E : KX} {ps : List PV} {s : Sto} : kLc k g t e vs ρ QP E ps s = (Z (lcL g t e (wipeP ρ vs) ps [] s) (kLE k QP E) E) := propext Iff.rfl
@[simp ↓] theorem Z_eLc {k : List PV → M PV} {mi : ML1} {g : GM} {t : MT1} {e : ME1} {vs : List Nat} : Z (eLc k mi g t e vs ρ st) QP E = Z (mi ρ st) (kLc k g t e vs ρ QP E) E := by
  unfold eLc; rw [Z_bind]; simp only [Z_bind]; rfl
@[simp ↓] theorem Z_lcV {acc : List PV} : Z (lcV acc st) QP E = QP (.lst acc) st := propext Iff.rfl
@[simp ↓] theorem Z_lcN {acc : List PV} : Z (lcN acc st) QP E = QP (.loc st.length) (st ++ [.lst acc]) := propext Iff.rfl
@[simp ↓] theorem Z_tYes : Z (tYesM ρ st) QB E = QB true st := propext Iff.rfl
@[simp ↓] theorem wipeP_nil {ρ : Rho} : wipeP ρ [] = ρ := rfl
@[simp ↓] theorem wipeP_cons {ρ : Rho} {v : Nat} {vs : List Nat} : wipeP ρ (v :: vs) = (wipeP ρ vs).set v none := rfl
theorem lc_nil {g : GM} {t : MT1} {e : ME1} {ρ0 : Rho} {acc : List PV} : Z (lcL g t e ρ0 [] acc st) QL E = QL acc st := propext Iff.rfl
theorem lc_cons {g : GM} {t : MT1} {e : ME1} {ρ0 : Rho} {p : PV} {ps acc : List PV} : Z (lcL g t e ρ0 (p :: ps) acc st) QL E = Z (g p ρ0 st) (fun ρ1 s => Z (t ρ1 s) (fun c s => if c = true then Z (e ρ1 s) (fun y s => if acc.length < 16777216 then Z (lcL g t e ρ0 ps (acc ++ [y]) s) QL E else False) E0 else Z (lcL g t e ρ0 ps acc s) QL E) E0) E0 := by
  rw [lcL, Z_bind, Z_calm]
  congr 1; funext ρ1 s
  rw [Z_bind, Z_calm]
  congr 1; funext c s
  cases c with
  | false => rfl
  | true =>
    show Z (M.bind _ _ _) _ _ = Z _ _ _
    rw [Z_bind, Z_calm]
    congr 1; funext y s
    exact Z_ite
theorem lc_inv {g : GM} {t : MT1} {e : ME1} {ρ0 : Rho} (I : List PV → List PV → Sto → Prop) (hs : ∀ p ps acc st, I (p :: ps) acc st → Z (g p ρ0 st) (fun ρ1 s => Z (t ρ1 s) (fun c s => if c = true then Z (e ρ1 s) (fun y s => acc.length < 16777216 ∧ I ps (acc ++ [y]) s) E0 else I ps acc s) E0) E0) : ∀ (ps acc : List PV) (st : Sto), I ps acc st →
    (∀ acc st, I [] acc st → QL acc st) → Z (lcL g t e ρ0 ps acc st) QL E
  | [], acc, st, h, hq => hq acc st h
  | p :: ps, acc, st, h, hq => by
    rw [lcL, Z_bind, Z_calm]
    refine (hs p ps acc st h).go fun ρ1 s h1 => ?_
    rw [Z_bind, Z_calm]
    refine h1.go fun c s h2 => ?_
    cases c with
    | false => exact lc_inv I hs ps acc s h2 hq
    | true =>
      show Z (M.bind _ _ _) _ _
      rw [Z_bind, Z_calm]
      refine Z.go (show Z (e ρ1 s) (fun y s => acc.length < 16777216 ∧ I ps (acc ++ [y]) s) E0 from h2) fun y s h3 => ?_
      rw [if_pos h3.1]
      exact lc_inv I hs ps (acc ++ [y]) s h3.2 hq
theorem for_inv {g : GM} {b : MS1} (I : List PV → Rho → Sto → Prop) : ∀ (ps : List PV) (ρ : Rho) (st : Sto), I ps ρ st → (∀ p ps ρ st, I (p :: ps) ρ st → Z (g p ρ st) (fun ρ1 s => Z (b ρ1 s) (fun fl s2 => (∃ ρ2, (fl = .next ρ2 ∨ fl = .cont ρ2) ∧ I ps ρ2 s2) ∨ (∃ ρ2, fl = .brk ρ2 ∧ QF (.next ρ2) s2) ∨ (∃ v, fl = .ret v ∧ QF fl s2)) E0) E0) →
    (∀ ρ st, I [] ρ st → QF (.next ρ) st) → Z (forL g b ps ρ st) QF E
  | [], ρ, st, h, _, hq => by rw [Z_forL_nil]; exact hq ρ st h
  | p :: ps, ρ, st, h, hs, hq => by
    rw [Z_forL]
    refine (hs p ps ρ st h).go fun ρ1 s h1 => Z.go h1 fun fl s2 h2 => ?_
    rcases h2 with ⟨ρ3, e | e, h3⟩ | ⟨ρ3, e, h3⟩ | ⟨v, e, h3⟩
    · subst e; exact for_inv I ps _ s2 h3 hs hq
    · subst e; exact for_inv I ps _ s2 h3 hs hq
    · subst e; exact h3
    · subst e; exact h3
end
end MP

set_option maxRecDepth 100000
set_option maxHeartbeats 1000000
namespace MP
open PySem L2
@[simp] theorem atI_0 {α : Type} {x0 : α} {l : List α} : L2.atI (x0 :: l) (0 : Int) = some x0 := by
  unfold L2.atI L2.ixN
  rw [if_pos (by omega), if_pos (by simp only [List.length_cons]; omega)]
  rfl
@[simp] theorem atI_1 {α : Type} {x0 x1 : α} {l : List α} : L2.atI (x0 :: x1 :: l) (1 : Int) = some x1 := by
  unfold L2.atI L2.ixN
  rw [if_pos (by omega), if_pos (by simp only [List.length_cons]; omega)]
  rfl
@[simp] theorem atI_2 {α : Type} {x0 x1 x2 : α} {l : List α} : L2.atI (x0 :: x1 :: x2 :: l) (2 : Int) = some x2 := by
  unfold L2.atI L2.ixN
  rw [if_pos (by omega), if_pos (by simp only [List.length_cons]; omega)]
  rfl
@[simp] theorem atI_3 {α : Type} {x0 x1 x2 x3 : α} {l : List α} : L2.atI (x0 :: x1 :: x2 :: x3 :: l) (3 : Int) = some x3 := by
  unfold L2.atI L2.ixN
  rw [if_pos (by omega), if_pos (by simp only [List.length_cons]; omega)]
  rfl
@[simp] theorem atI_4 {α : Type} {x0 x1 x2 x3 x4 : α} {l : List α} : L2.atI (x0 :: x1 :: x2 :: x3 :: x4 :: l) (4 : Int) = some x4 := by
  unfold L2.atI L2.ixN
  rw [if_pos (by omega), if_pos (by simp only [List.length_cons]; omega)]
  rfl
@[simp] theorem atI_5 {α : Type} {x0 x1 x2 x3 x4 x5 : α} {l : List α} : L2.atI (x0 :: x1 :: x2 :: x3 :: x4 :: x5 :: l) (5 : Int) = some x5 := by
  unfold L2.atI L2.ixN
  rw [if_pos (by omega), if_pos (by simp only [List.length_cons]; omega)]
  rfl
@[simp] theorem atI_6 {α : Type} {x0 x1 x2 x3 x4 x5 x6 : α} {l : List α} : L2.atI (x0 :: x1 :: x2 :: x3 :: x4 :: x5 :: x6 :: l) (6 : Int) = some x6 := by
  unfold L2.atI L2.ixN
  rw [if_pos (by omega), if_pos (by simp only [List.length_cons]; omega)]
  rfl
@[simp] theorem atI_7 {α : Type} {x0 x1 x2 x3 x4 x5 x6 x7 : α} {l : List α} : L2.atI (x0 :: x1 :: x2 :: x3 :: x4 :: x5 :: x6 :: x7 :: l) (7 : Int) = some x7 := by
  unfold L2.atI L2.ixN
  rw [if_pos (by omega), if_pos (by simp only [List.length_cons]; omega)]
  rfl
section
variable {α β : Type} {QL : List PV → Sto → Prop} {st : Sto} {ρ : Rho} {Q : α → Sto → Prop} {E : Exn → Sto → Prop} {QP : PV → Sto → Prop} {QF : Fl → Sto → Prop} {QU : Unit → Sto → Prop} {i j : Int} {a b : List Nat} {xs ys : List PV} {x y : PV} {m : Nat}
def runQ (Q : PV → Sto → Prop) (E : Exn → Sto → Prop) : Fl → Sto → Prop
  | .next _, st => Q .non st
  | .ret p, st => Q p st
  | .exc x _, st => E x st
  | _, _ => False
@[simp] theorem runQ_next : runQ QP E (.next ρ) st = QP .non st := propext Iff.rfl
@[simp] theorem runQ_ret : runQ QP E (.ret x) st = QP x st := propext Iff.rfl
@[simp] theorem runQ_exc {x : Exn} : runQ QP E (.exc x ρ) st = E x st := propext Iff.rfl
theorem Z_run {b : Rho → M Fl} {k : Nat} {ps : List PV} {ρ0 : Rho} (h : ps.map some ++ List.replicate (k - ps.length) none = ρ0) : Z (runB b k ps st) QP E = Z (b ρ0 st) (runQ QP E) E0 := by
  unfold runB
  rw [h]
  cases b ρ0 st with
  | ok f s => cases f <;> rfl
  | err x s => rfl
  | bad => rfl
@[simp ↓] theorem Z_addII : Z (addV (.int i) (.int j) st) QP E = QP (.int (i + j)) st := propext Iff.rfl
@[simp ↓] theorem Z_addSS : Z (addV (.str a) (.str b) st) QP E = if a.length + b.length ≤ 16777216 then QP (.str (a ++ b)) st else False := by unfold addV; dsimp only; rw [Z_ite]; rfl
@[simp ↓] theorem Z_addTT : Z (addV (.tup xs) (.tup ys) st) QP E = if xs.length + ys.length ≤ 16777216 then QP (.tup (xs ++ ys)) st else False := by unfold addV; dsimp only; rw [Z_ite]; rfl
@[simp ↓] theorem Z_addLL : Z (addV (.lst xs) (.lst ys) st) QP E = if xs.length + ys.length ≤ 16777216 then QP (.lst (xs ++ ys)) st else False := by unfold addV; dsimp only [listOf]; rw [Z_iteR]; rfl
@[simp ↓] theorem Z_subII : Z (subV (.int i) (.int j) st) QP E = QP (.int (i - j)) st := propext Iff.rfl
@[simp ↓] theorem Z_mulII : Z (mulV (.int i) (.int j) st) QP E = if mulOk i j = true then QP (.int (i * j)) st else False := by unfold mulV; dsimp only; rw [Z_ite]; rfl
@[simp ↓] theorem Z_mulTI : Z (mulV (.tup xs) (.int i) st) QP E = if xs ≠ [] ∧ -1000000 ≤ i ∧ i ≤ 1000 ∧ xs.length ≤ 1000 then QP (.tup (List.replicate i.toNat xs).flatten) st else False := by unfold mulV; dsimp only; rw [Z_ite]; rfl
theorem mul_left (h1 : -18446744073709551616 < i) (h2 : i < 18446744073709551616) : Z (mulV (.int i) (.int j) st) QP E = QP (.int (i * j)) st := by rw [Z_mulII, if_pos]; simp [mulOk, h1, h2]
theorem mul_right (h1 : -18446744073709551616 < j) (h2 : j < 18446744073709551616) : Z (mulV (.int i) (.int j) st) QP E = QP (.int (i * j)) st := by rw [Z_mulII, if_pos]; simp [mulOk, h1, h2]
@[simp ↓] theorem Z_fdivII : Z (fdivV (.int i) (.int j) st) QP E = if (j ≠ 0 ∧ j.natAbs < 1073741824) ∨ (0 < j ∧ j.natAbs.log2 < 9000) then QP (.int (i.fdiv j)) st else False := by unfold fdivV; dsimp only; rw [Z_ite]; rfl
@[simp ↓] theorem Z_modII : Z (modV (.int i) (.int j) st) QP E = if j ≠ 0 then QP (.int (i.fmod j)) st else False := by unfold modV; dsimp only; rw [Z_ite]; rfl
@[simp ↓] theorem Z_powII : Z (powV (.int i) (.int j) st) QP E = if 0 ≤ j ∧ j ≤ 1000000 ∧ i.natAbs < 18446744073709551616 then QP (.int (i ^ j.toNat)) st else False := by unfold powV; dsimp only; rw [Z_ite]; rfl
@[simp ↓] theorem Z_negI : Z (negV (.int i) st) QP E = QP (.int (-i)) st := propext Iff.rfl
@[simp ↓] theorem Z_ltV {p : Int → Int → Bool} : Z (ltV p (.int i) (.int j) st) QP E = QP (.bl (p i j)) st := propext Iff.rfl
theorem ibeq (i j : Int) : (i == j) = decide (i = j) := by rw [Bool.eq_iff_iff]; simp
@[simp ↓] theorem Z_eqII : Z (eqM (.int i) (.int j) st) QP E = QP (.bl (decide (i = j))) st := by
  unfold eqM; rw [if_pos (by rfl)]; show QP (.bl (i == j)) st = _; rw [ibeq]
@[simp ↓] theorem Z_neII : Z (neM (.int i) (.int j) st) QP E = QP (.bl (decide (i ≠ j))) st := by
  unfold neM; rw [if_pos (by rfl)]; show QP (.bl (!(i == j))) st = _; rw [ibeq]; simp
theorem lbeq {α : Type} [DecidableEq α] (a b : List α) : (a == b) = decide (a = b) := by rw [Bool.eq_iff_iff]; simp
@[simp ↓] theorem Z_eqSS : Z (eqM (.str a) (.str b) st) QP E = QP (.bl (decide (a = b))) st := by
  unfold eqM; rw [if_pos (by rfl)]; show QP (.bl (a == b)) st = _; rw [lbeq]
@[simp ↓] theorem Z_neSS : Z (neM (.str a) (.str b) st) QP E = QP (.bl (decide (a ≠ b))) st := by
  unfold neM; rw [if_pos (by rfl)]; show QP (.bl (!(a == b))) st = _; rw [lbeq]; simp
theorem Z_eq (h : cmpOk x y st = true) : Z (eqM x y st) QP E = QP (.bl (eqb (shal x st) (shal y st))) st := by unfold eqM; rw [if_pos h]; rfl
theorem Z_ne (h : cmpOk x y st = true) : Z (neM x y st) QP E = QP (.bl (!eqb (shal x st) (shal y st))) st := by unfold neM; rw [if_pos h]; rfl
@[simp ↓] theorem Z_isN : Z (isN x .non st) QP E = QP (.bl (nonP x)) st := propext Iff.rfl
@[simp ↓] theorem Z_notN : Z (notN x .non st) QP E = QP (.bl (!nonP x)) st := propext Iff.rfl
@[simp ↓] theorem Z_optS {v : α} : Z (optM (some v) st) Q E = Q v st := propext Iff.rfl
@[simp ↓] theorem Z_optN : Z (optM (none : Option α) st) Q E = False := propext Iff.rfl
@[simp ↓] theorem Z_ixT : Z (ixM (.tup xs) (.int i) st) QP E = Z (optM (L2.atI xs i) st) QP E := propext Iff.rfl
@[simp ↓] theorem Z_ixL : Z (ixM (.lst xs) (.int i) st) QP E = Z (optM (L2.atI xs i) st) QP E := propext Iff.rfl
@[simp ↓] theorem Z_ixZ : Z (ixM (.frz xs) (.int i) st) QP E = Z (optM (L2.atI xs i) st) QP E := propext Iff.rfl
def kIS (QP : KP) : Nat → Sto → Prop := fun c s => QP (.str [c]) s
@[simp ↓] theorem kIS_at {c : Nat} : kIS QP c st = QP (.str [c]) st := propext Iff.rfl
@[simp ↓] theorem Z_ixS : Z (ixM (.str a) (.int i) st) QP E = if a.length ≤ 16777216 then Z (optM (L2.atI a i) st) (kIS QP) E else False := by
  show Z (if a.length ≤ 16777216 then (match L2.atI a i with | some c => .ok (.str [c]) st | none => .bad) else .bad) QP E = _
  rw [Z_iteR]
  cases L2.atI a i <;> rfl
@[simp ↓] theorem Z_ixC (h : st[m]? = some (.lst xs)) : Z (ixM (.loc m) (.int i) st) QP E = Z (optM (L2.atI xs i) st) QP E := by
  unfold ixM seqOf; dsimp only; rw [h]
theorem Z_ixD {kvs : List (PV × PV)} (h : st[m]? = some (.dct kvs)) (hk : (keyOf y).isSome = true) : Z (ixM (.loc m) y st) QP E = Z (optM (lookP kvs y) st) QP E := by
  unfold ixM seqOf dctOf; dsimp only; rw [h]; dsimp only; rw [if_pos hk]
@[simp ↓] theorem Z_ixDs {kvs : List (PV × PV)} (h : st[m]? = some (.dct kvs)) : Z (ixM (.loc m) (.str a) st) QP E = Z (optM (lookP kvs (.str a)) st) QP E := Z_ixD h rfl
@[simp ↓] theorem Z_ixDi {kvs : List (PV × PV)} (h : st[m]? = some (.dct kvs)) : Z (ixM (.loc m) (.int i) st) QP E = Z (optM (lookP kvs (.int i)) st) QP E := Z_ixD h rfl
@[simp] theorem keyOf_int : keyOf (.int i) = some (.inl i) := rfl
@[simp] theorem keyOf_str : keyOf (.str a) = some (.inr ⟨a.toArray⟩) := rfl
@[simp ↓] theorem Z_lenT : Z (lenM [.tup xs] st) QP E = QP (.int xs.length) st := propext Iff.rfl
@[simp ↓] theorem Z_lenL : Z (lenM [.lst xs] st) QP E = QP (.int xs.length) st := propext Iff.rfl
@[simp ↓] theorem Z_lenZ : Z (lenM [.frz xs] st) QP E = QP (.int xs.length) st := propext Iff.rfl
@[simp ↓] theorem Z_lenS : Z (lenM [.str a] st) QP E = if a.length ≤ 16777216 then QP (.int a.length) st else False := by
  show Z (if a.length ≤ 16777216 then .ok (.int a.length) st else .bad) QP E = _; rw [Z_iteR]; rfl
@[simp ↓] theorem Z_lenC (h : st[m]? = some (.lst xs)) : Z (lenM [.loc m] st) QP E = QP (.int xs.length) st := by
  unfold lenM seqOf; dsimp only; rw [h]; rfl
@[simp ↓] theorem Z_mkTup : Z (mkTup xs st) QP E = if xs.length ≤ 16777216 then QP (.tup xs) st else False := by unfold mkTup; rw [Z_ite]; rfl
@[simp ↓] theorem Z_mkLst : Z (mkLst xs st) QP E = if xs.length ≤ 16777216 then QP (.lst xs) st else False := by unfold mkLst; rw [Z_ite]; rfl
@[simp ↓] theorem Z_mkLstN : Z (mkLstN xs st) QP E = if xs.length ≤ 16777216 then QP (.loc st.length) (st ++ [.lst xs]) else False := by unfold mkLstN; rw [Z_iteR]; rfl
@[simp ↓] theorem Z_listN (h : seqOf x st = some xs) : Z (listN [x] st) QP E = QP (.loc st.length) (st ++ [.lst xs]) := by unfold listN; dsimp only; rw [h]; rfl
@[simp ↓] theorem Z_listM (h : seqOf x st = some xs) : Z (listM [x] st) QP E = QP (.lst xs) st := by unfold listM; dsimp only; rw [h]; rfl
@[simp ↓] theorem Z_tupleM (h : seqOf x st = some xs) : Z (tupleM [x] st) QP E = QP (.tup xs) st := by unfold tupleM; dsimp only; rw [h]; rfl
@[simp] theorem seqOf_tup : seqOf (.tup xs) st = some xs := rfl
@[simp] theorem seqOf_lst : seqOf (.lst xs) st = some xs := rfl
@[simp] theorem seqOf_frz : seqOf (.frz xs) st = some xs := rfl
@[simp] theorem seqOf_loc (h : st[m]? = some (.lst xs)) : seqOf (.loc m) st = some xs := by unfold seqOf; dsimp only; rw [h]
@[simp ↓] theorem Z_setL {v : PV} {k : Nat} (h : st[m]? = some (.lst xs)) (hi : ixN xs.length i = some k) : Z (setM (.loc m) (.int i) v st) QU E = QU () (st.set m (.lst (xs.set k v))) := by
  unfold setM; dsimp only; rw [h]; dsimp only; rw [hi]; rfl
theorem Z_setD {v : PV} {kvs : List (PV × PV)} (h : st[m]? = some (.dct kvs)) (hk : (keyOf y).isSome = true) (hl : kvs.length < 16777216) : Z (setM (.loc m) y v st) QU E = QU () (st.set m (.dct (putP kvs y v))) := by
  unfold setM; dsimp only; rw [h]; dsimp only; rw [if_pos ⟨hk, hl⟩]; rfl
@[simp ↓] theorem Z_setDs {v : PV} {kvs : List (PV × PV)} (h : st[m]? = some (.dct kvs)) (hl : kvs.length < 16777216) : Z (setM (.loc m) (.str a) v st) QU E = QU () (st.set m (.dct (putP kvs (.str a) v))) := Z_setD h rfl hl
@[simp ↓] theorem Z_setDi {v : PV} {kvs : List (PV × PV)} (h : st[m]? = some (.dct kvs)) (hl : kvs.length < 16777216) : Z (setM (.loc m) (.int i) v st) QU E = QU () (st.set m (.dct (putP kvs (.int i) v))) := Z_setD h rfl hl
@[simp ↓] theorem Z_slS {lo hi : Option Int} : Z (slM (.str a) lo hi st) QP E = if a.length ≤ 16777216 then QP (.str (cutL a lo hi)) st else False := by unfold slM; dsimp only; rw [Z_ite]; rfl
@[simp ↓] theorem Z_slT {lo hi : Option Int} : Z (slM (.tup xs) lo hi st) QP E = QP (.tup (cutL xs lo hi)) st := propext Iff.rfl
@[simp ↓] theorem Z_slL {lo hi : Option Int} : Z (slM (.lst xs) lo hi st) QP E = QP (.lst (cutL xs lo hi)) st := propext Iff.rfl
theorem Z_isi {T t : String} (h : isiOk T = true) (ht : tyP x st = some t) : Z (isiM [x, .ty T] st) QP E = QP (.bl (isiT t T)) st := by unfold isiM; dsimp only; rw [if_pos h, ht]; rfl
@[simp ↓] theorem Z_isi_non_int : Z (isiM [.non, .ty "int"] st) QP E = QP (.bl false) st := Z_isi (t := "NoneType") (by decide) rfl
@[simp ↓] theorem Z_isi_bl_int {k : Bool} : Z (isiM [.bl k, .ty "int"] st) QP E = QP (.bl true) st := Z_isi (t := "bool") (by decide) rfl
@[simp ↓] theorem Z_isi_int_int : Z (isiM [.int i, .ty "int"] st) QP E = QP (.bl true) st := Z_isi (t := "int") (by decide) rfl
@[simp ↓] theorem Z_isi_str_int : Z (isiM [.str a, .ty "int"] st) QP E = QP (.bl false) st := Z_isi (t := "str") (by decide) rfl
@[simp ↓] theorem Z_isi_tup_int : Z (isiM [.tup xs, .ty "int"] st) QP E = QP (.bl false) st := Z_isi (t := "tuple") (by decide) rfl
@[simp ↓] theorem Z_isi_lst_int : Z (isiM [.lst xs, .ty "int"] st) QP E = QP (.bl false) st := Z_isi (t := "list") (by decide) rfl
@[simp ↓] theorem Z_isi_non_bool : Z (isiM [.non, .ty "bool"] st) QP E = QP (.bl false) st := Z_isi (t := "NoneType") (by decide) rfl
@[simp ↓] theorem Z_isi_bl_bool {k : Bool} : Z (isiM [.bl k, .ty "bool"] st) QP E = QP (.bl true) st := Z_isi (t := "bool") (by decide) rfl
@[simp ↓] theorem Z_isi_int_bool : Z (isiM [.int i, .ty "bool"] st) QP E = QP (.bl false) st := Z_isi (t := "int") (by decide) rfl
@[simp ↓] theorem Z_isi_str_bool : Z (isiM [.str a, .ty "bool"] st) QP E = QP (.bl false) st := Z_isi (t := "str") (by decide) rfl
@[simp ↓] theorem Z_isi_tup_bool : Z (isiM [.tup xs, .ty "bool"] st) QP E = QP (.bl false) st := Z_isi (t := "tuple") (by decide) rfl
@[simp ↓] theorem Z_isi_lst_bool : Z (isiM [.lst xs, .ty "bool"] st) QP E = QP (.bl false) st := Z_isi (t := "list") (by decide) rfl
@[simp ↓] theorem Z_isi_non_str : Z (isiM [.non, .ty "str"] st) QP E = QP (.bl false) st := Z_isi (t := "NoneType") (by decide) rfl
@[simp ↓] theorem Z_isi_bl_str {k : Bool} : Z (isiM [.bl k, .ty "str"] st) QP E = QP (.bl false) st := Z_isi (t := "bool") (by decide) rfl
@[simp ↓] theorem Z_isi_int_str : Z (isiM [.int i, .ty "str"] st) QP E = QP (.bl false) st := Z_isi (t := "int") (by decide) rfl
@[simp ↓] theorem Z_isi_str_str : Z (isiM [.str a, .ty "str"] st) QP E = QP (.bl true) st := Z_isi (t := "str") (by decide) rfl
@[simp ↓] theorem Z_isi_tup_str : Z (isiM [.tup xs, .ty "str"] st) QP E = QP (.bl false) st := Z_isi (t := "tuple") (by decide) rfl
@[simp ↓] theorem Z_isi_lst_str : Z (isiM [.lst xs, .ty "str"] st) QP E = QP (.bl false) st := Z_isi (t := "list") (by decide) rfl
@[simp ↓] theorem Z_isi_non_tuple : Z (isiM [.non, .ty "tuple"] st) QP E = QP (.bl false) st := Z_isi (t := "NoneType") (by decide) rfl
@[simp ↓] theorem Z_isi_bl_tuple {k : Bool} : Z (isiM [.bl k, .ty "tuple"] st) QP E = QP (.bl false) st := Z_isi (t := "bool") (by decide) rfl
@[simp ↓] theorem Z_isi_int_tuple : Z (isiM [.int i, .ty "tuple"] st) QP E = QP (.bl false) st := Z_isi (t := "int") (by decide) rfl
@[simp ↓] theorem Z_isi_str_tuple : Z (isiM [.str a, .ty "tuple"] st) QP E = QP (.bl false) st := Z_isi (t := "str") (by decide) rfl
@[simp ↓] theorem Z_isi_tup_tuple : Z (isiM [.tup xs, .ty "tuple"] st) QP E = QP (.bl true) st := Z_isi (t := "tuple") (by decide) rfl
@[simp ↓] theorem Z_isi_lst_tuple : Z (isiM [.lst xs, .ty "tuple"] st) QP E = QP (.bl false) st := Z_isi (t := "list") (by decide) rfl
@[simp ↓] theorem Z_isi_non_list : Z (isiM [.non, .ty "list"] st) QP E = QP (.bl false) st := Z_isi (t := "NoneType") (by decide) rfl
@[simp ↓] theorem Z_isi_bl_list {k : Bool} : Z (isiM [.bl k, .ty "list"] st) QP E = QP (.bl false) st := Z_isi (t := "bool") (by decide) rfl
@[simp ↓] theorem Z_isi_int_list : Z (isiM [.int i, .ty "list"] st) QP E = QP (.bl false) st := Z_isi (t := "int") (by decide) rfl
@[simp ↓] theorem Z_isi_str_list : Z (isiM [.str a, .ty "list"] st) QP E = QP (.bl false) st := Z_isi (t := "str") (by decide) rfl
@[simp ↓] theorem Z_isi_tup_list : Z (isiM [.tup xs, .ty "list"] st) QP E = QP (.bl false) st := Z_isi (t := "tuple") (by decide) rfl
@[simp ↓] theorem Z_isi_lst_list : Z (isiM [.lst xs, .ty "list"] st) QP E = QP (.bl true) st := Z_isi (t := "list") (by decide) rfl
@[simp ↓] theorem Z_isi_non_dict : Z (isiM [.non, .ty "dict"] st) QP E = QP (.bl false) st := Z_isi (t := "NoneType") (by decide) rfl
@[simp ↓] theorem Z_isi_bl_dict {k : Bool} : Z (isiM [.bl k, .ty "dict"] st) QP E = QP (.bl false) st := Z_isi (t := "bool") (by decide) rfl
@[simp ↓] theorem Z_isi_int_dict : Z (isiM [.int i, .ty "dict"] st) QP E = QP (.bl false) st := Z_isi (t := "int") (by decide) rfl
@[simp ↓] theorem Z_isi_str_dict : Z (isiM [.str a, .ty "dict"] st) QP E = QP (.bl false) st := Z_isi (t := "str") (by decide) rfl
@[simp ↓] theorem Z_isi_tup_dict : Z (isiM [.tup xs, .ty "dict"] st) QP E = QP (.bl false) st := Z_isi (t := "tuple") (by decide) rfl
@[simp ↓] theorem Z_isi_lst_dict : Z (isiM [.lst xs, .ty "dict"] st) QP E = QP (.bl false) st := Z_isi (t := "list") (by decide) rfl
@[simp] theorem tyP_non : tyP .non st = some "NoneType" := rfl
@[simp] theorem tyP_bl {b : Bool} : tyP (.bl b) st = some "bool" := rfl
@[simp] theorem tyP_int : tyP (.int i) st = some "int" := rfl
@[simp] theorem tyP_str : tyP (.str a) st = some "str" := rfl
@[simp] theorem tyP_tup : tyP (.tup xs) st = some "tuple" := rfl
@[simp] theorem tyP_lst : tyP (.lst xs) st = some "list" := rfl
@[simp] theorem rangeOk_iff : rangeOk i ↔ -4611686018427387904 ≤ i ∧ i < 4611686018427387904 := Iff.rfl
@[simp ↓] theorem Z_range1 (h : rangeOk i) : Z (range1 [.int i] st) QL E = QL ((List.range i.toNat).map fun (k : Nat) => .int ((0 : Int) + (k : Int))) st := by unfold range1; dsimp only; rw [if_pos h]; rfl
@[simp ↓] theorem Z_rangeN {l : Nat} (h : l ≤ 16777216) : Z (range1 [.int (l : Int)] st) QL E = QL ((List.range l).map fun (k : Nat) => .int (k : Int)) st := by
  rw [Z_range1 ⟨by omega, by omega⟩, Int.toNat_natCast]
  simp only [Int.zero_add]
@[simp ↓] theorem Z_range2 (h : rangeOk i) (h' : rangeOk j) : Z (range2 [.int i, .int j] st) QL E = QL ((List.range (j - i).toNat).map fun (k : Nat) => .int (i + (k : Int))) st := by unfold range2; dsimp only; rw [if_pos ⟨h, h'⟩]; rfl
@[simp ↓] theorem Z_itT : Z (itemsM (.tup xs) st) QL E = QL xs st := propext Iff.rfl
@[simp ↓] theorem Z_itL : Z (itemsM (.lst xs) st) QL E = QL xs st := propext Iff.rfl
@[simp ↓] theorem Z_itF : Z (itemsM (.frz xs) st) QL E = QL xs st := propext Iff.rfl
@[simp ↓] theorem Z_itS : Z (itemsM (.str a) st) QL E = QL (a.map fun c => .str [c]) st := propext Iff.rfl
@[simp ↓] theorem Z_getTab {tab : List (List Nat × PV)} : Z (getTab tab (.str a) st) QP E = QP ((lookT tab a).getD .non) st := propext Iff.rfl
@[simp ↓] theorem Z_min : Z (minM [.int i, .int j] st) QP E = QP (.int (if j < i then j else i)) st := propext Iff.rfl
@[simp ↓] theorem Z_max : Z (maxM [.int i, .int j] st) QP E = QP (.int (if j > i then j else i)) st := propext Iff.rfl
@[simp ↓] theorem Z_intI : Z (intM [.int i] st) QP E = QP (.int i) st := propext Iff.rfl
@[simp ↓] theorem Z_intB {k : Bool} : Z (intM [.bl k] st) QP E = QP (.int (if k then 1 else 0)) st := propext Iff.rfl
@[simp ↓] theorem Z_enumL : Z (enumM [.lst xs] st) QL E = QL (xs.mapIdx fun i p => .tup [.int (i : Nat), p]) st := propext Iff.rfl
@[simp ↓] theorem Z_inS {n : Bool} {c : Nat} : Z (inM n (.str [c]) (.str a) st) QP E = QP (.bl (ng n (decide (c ∈ a)))) st := propext Iff.rfl
@[simp] theorem ng_t {b : Bool} : ng true b = !b := rfl
@[simp] theorem ng_f {b : Bool} : ng false b = b := rfl
@[simp ↓] theorem Z_tyS : Z (tyC "str" (.str a) st) QU E = QU () st := propext Iff.rfl
theorem Z_join {zs : List (List Nat)} (h : seqOf x st = some (zs.map .str)) (hz : (zs.map (·.length)).sum + zs.length * a.length ≤ 16777216) : Z (joinM (.str a) [x] st) QP E = QP (.str (TL.joinL a zs)) st := by
  have e : ∀ l : List (List Nat), strsOf (l.map .str) = some l := by
    intro l; induction l with
    | nil => rfl
    | cons z l ih => rw [List.map_cons, strsOf, ih]; rfl
  unfold joinM; dsimp only; rw [h]; dsimp only; rw [e]; dsimp only; rw [if_pos hz]; rfl
theorem Z_ixG (h : seqOf x st = some xs) : Z (ixM x (.int i) st) QP E = Z (optM (L2.atI xs i) st) QP E := by unfold ixM; rw [h]
theorem Z_lenG (h : seqOf x st = some xs) : Z (lenM [x] st) QP E = QP (.int xs.length) st := by unfold lenM; dsimp only; rw [h]; rfl
@[simp ↓] theorem Z_tyL (h : st[m]? = some (.lst xs)) : Z (tyC "list" (.loc m) st) QU E = QU () st := by
  unfold tyC listOf; dsimp only; rw [h]; rfl
@[simp ↓] theorem Z_append (h : st[m]? = some (.lst xs)) (hl : xs.length < 16777216) : Z (appendM (.loc m) [x] st) QP E = QP .non (st.set m (.lst (xs ++ [x]))) := by
  unfold appendM lstCell; dsimp only; rw [h]; dsimp only; rw [if_pos hl]; rfl
theorem layPs_ints : ∀ (l : List Int), layPs (l.map .int) = true
  | [] => by simp [layPs]
  | i :: r => by rw [List.map_cons, layPs, layPs_ints r]; simp [layP]
theorem depPs_ints : ∀ (l : List Int), depPs (l.map .int) = 0
  | [] => by simp [depPs]
  | i :: r => by rw [List.map_cons, depPs, depPs_ints r]; simp [depP]
theorem eqbs_ints : ∀ (l : List Int), eqbs (l.map .int) (l.map .int) = true
  | [] => by simp [eqbs]
  | i :: r => by rw [List.map_cons, eqbs, eqbs_ints r]; simp [eqb]
theorem log2_small {m : Int} (h : m.natAbs < 1000000) : m.natAbs.log2 < 9000 := by
  by_cases h0 : m.natAbs = 0
  · rw [h0]; decide
  · exact (Nat.log2_lt h0).mpr (Nat.lt_of_lt_of_le (show m.natAbs < 2 ^ 20 by omega) (Nat.pow_le_pow_right (by omega) (by omega)))
theorem cut_to {α : Type} {l : List α} {p : Int} (h0 : 0 ≤ p) (h1 : p ≤ l.length) : cutL l none (some p) = l.take p.toNat := by
  unfold cutL HT.sIx
  simp
  have : ¬ p < 0 := by omega
  simp [this]
theorem cut_from {α : Type} {l : List α} {p : Int} (h0 : 0 ≤ p) (h1 : p ≤ l.length) : cutL l (some p) none = l.drop p.toNat := by
  have hp : ¬ p < 0 := by omega
  have hm : min p.toNat l.length = p.toNat := by omega
  show (l.drop (if p < 0 then (p + (l.length : Int)).toNat else min p.toNat l.length)).take (l.length - (if p < 0 then (p + (l.length : Int)).toNat else min p.toNat l.length)) = _
  rw [if_neg hp, hm]
  exact List.take_of_length_le (by rw [List.length_drop]; omega)
end
def sCells : List Nat := [99, 101, 108, 108, 115]
def sCount : List Nat := [99, 111, 117, 110, 116]
def sDigits : List Nat := [100, 105, 103, 105, 116, 115]
theorem getN {st : Sto} {m : Nat} {c : Cell} (h : st[m]? = some c) : m < st.length := by
  rcases Nat.lt_or_ge m st.length with h' | h'
  · exact h'
  · rw [List.getElem?_eq_none h'] at h; cases h
structure Box (st : Sto) (b c : Nat) (k : Int) : Prop where
  dct : ∃ d, st[b]? = some (.dct [(.str [99, 101, 108, 108, 115], .loc c), (.str [99, 111, 117, 110, 116], .int k), (.str [100, 105, 103, 105, 116, 115], .bl d)])
  cel : ∃ ns : List Int, ns ≠ [] ∧ st[c]? = some (.lst (ns.map .int))
theorem Box.app {st : Sto} {b c : Nat} {k : Int} (B : Box st b c k) (ys : Sto) : Box (st ++ ys) b c k := by
  obtain ⟨⟨d, hd⟩, ns, hn, hc⟩ := B
  exact ⟨⟨d, by rw [List.getElem?_append_left (getN hd), hd]⟩, ns, hn, by rw [List.getElem?_append_left (getN hc), hc]⟩
theorem Box.setN {st : Sto} {b c m : Nat} {k : Int} {x : Cell} (B : Box st b c k) (h : m ≠ b) (h' : m ≠ c) : Box (st.set m x) b c k := by
  obtain ⟨⟨d, hd⟩, ns, hn, hc⟩ := B
  exact ⟨⟨d, by rw [List.getElem?_set_ne h, hd]⟩, ns, hn, by rw [List.getElem?_set_ne h', hc]⟩
theorem Box.bl {st : Sto} {b c : Nat} {k : Int} (B : Box st b c k) : b < st.length := let ⟨_, h⟩ := B.dct; getN h
theorem Box.cl {st : Sto} {b c : Nat} {k : Int} (B : Box st b c k) : c < st.length := let ⟨_, _, h⟩ := B.cel; getN h
theorem atI_of {α : Type} {xs : List α} {i : Int} (h0 : 0 ≤ i) (h1 : i < xs.length) : L2.atI xs i = some (xs[i.toNat]'(by omega)) := by
  unfold L2.atI L2.ixN
  rw [if_pos h0, if_pos h1]
  simp [List.getElem?_eq_getElem (show i.toNat < xs.length by omega)]
theorem ixN_of {n : Nat} {i : Int} (h0 : 0 ≤ i) (h1 : i < n) : L2.ixN n i = some i.toNat := by
  unfold L2.ixN
  rw [if_pos h0, if_pos h1]
end MP

set_option maxRecDepth 100000
set_option maxHeartbeats 1000000
namespace MP
open PySem L2
mutual
def plP : PV → Bool
  | .non => true
  | .int _ => true
  | .str x => x.all fun c => decide (c < 1114112)
  | .tup xs => plPs xs
  | .lst xs => plPs xs
  | _ => false
def plPs : List PV → Bool
  | [] => true
  | x :: xs => plP x && plPs xs
end
theorem plPs_iff {xs : List PV} : plPs xs = true ↔ ∀ x ∈ xs, plP x = true := by
  induction xs with
  | nil => simp [plPs]
  | cons x xs ih => simp [plPs, ih]
mutual
theorem eqb_pl : ∀ (x y : PV), plP x = true → plP y = true → eqb x y = decide (x = y)
  | .non, y, h, h' => by cases y <;> simp [eqb]
  | .int i, y, h, h' => by
    cases y <;> simp [plP] at h' <;> simp [eqb]
    rw [ibeq]
  | .str a, y, h, h' => by
    cases y <;> simp [plP] at h' <;> simp [eqb]
    rw [lbeq]
  | .tup xs, y, h, h' => by
    cases y <;> simp [plP] at h' <;> simp [eqb]
    exact eqbs_pl xs _ (by simpa [plP] using h) h'
  | .lst xs, y, h, h' => by
    cases y <;> simp [plP] at h' <;> simp [eqb]
    exact eqbs_pl xs _ (by simpa [plP] using h) h'
  | .bl _, _, h, _ => by simp [plP] at h
  | .ty _, _, h, _ => by simp [plP] at h
  | .gl _, _, h, _ => by simp [plP] at h
  | .frz _, _, h, _ => by simp [plP] at h
  | .loc _, _, h, _ => by simp [plP] at h
theorem eqbs_pl : ∀ (x y : List PV), plPs x = true → plPs y = true → eqbs x y = decide (x = y)
  | [], y, h, h' => by cases y <;> simp [eqbs]
  | a :: x, [], h, h' => by simp [eqbs]
  | a :: x, b :: y, h, h' => by
    simp [plPs] at h h'
    rw [eqbs, eqb_pl a b h.1 h'.1, eqbs_pl x y h.2 h'.2]
    simp
end
mutual
theorem lay_pl : ∀ (x : PV), plP x = true → layP x = true
  | .non, h => by simp [layP]
  | .int i, h => by simp [layP]
  | .str a, h => by simpa [layP, plP] using h
  | .tup xs, h => by simp [layP]; exact lays_pl xs (by simpa [plP] using h)
  | .lst xs, h => by simp [layP]; exact lays_pl xs (by simpa [plP] using h)
  | .bl _, h => by simp [plP] at h
  | .ty _, h => by simp [plP] at h
  | .gl _, h => by simp [plP] at h
  | .frz _, h => by simp [plP] at h
  | .loc _, h => by simp [plP] at h
theorem lays_pl : ∀ (x : List PV), plPs x = true → layPs x = true
  | [], h => by simp [layPs]
  | a :: x, h => by
    simp [plPs] at h
    simp [layPs, lay_pl a h.1, lays_pl x h.2]
end
theorem shal_pl {x : PV} {st : Sto} (h : plP x = true) : shal x st = x := by
  cases x <;> simp [plP] at h <;> simp [shal]
def okP (x : PV) : Bool := plP x && decide (depP x ≤ 64)
theorem cmp_ok {x y : PV} {st : Sto} (hx : okP x = true) (hy : okP y = true) : cmpOk x y st = true := by
  simp [okP] at hx hy
  simp [cmpOk, shal_pl hx.1, shal_pl hy.1, lay_pl _ hx.1, lay_pl _ hy.1, hx.2, hy.2]
theorem Z_eqP {x y : PV} {st : Sto} {Q : PV → Sto → Prop} {E : Exn → Sto → Prop} (hx : okP x = true) (hy : okP y = true) : Z (eqM x y st) Q E = Q (.bl (decide (x = y))) st := by
  rw [Z_eq (cmp_ok hx hy)]
  simp [okP] at hx hy
  rw [shal_pl hx.1, shal_pl hy.1, eqb_pl _ _ hx.1 hy.1]
theorem Z_neP {x y : PV} {st : Sto} {Q : PV → Sto → Prop} {E : Exn → Sto → Prop} (hx : okP x = true) (hy : okP y = true) : Z (neM x y st) Q E = Q (.bl (!decide (x = y))) st := by
  rw [Z_ne (cmp_ok hx hy)]
  simp [okP] at hx hy
  rw [shal_pl hx.1, shal_pl hy.1, eqb_pl _ _ hx.1 hy.1]
def fpl : PV → Bool
  | .non => true
  | .int _ => true
  | .str _ => true
  | _ => false
theorem eqb_fpl {x y : PV} (h : fpl x = true) (h' : fpl y = true) : eqb x y = decide (x = y) := by
  cases x <;> simp [fpl] at h <;> cases y <;> simp [fpl] at h' <;> simp [eqb, ibeq, lbeq]
theorem flat_fpl {x : PV} (h : fpl x = true) : flatP x = true := by cases x <;> simp [fpl] at h <;> simp [flatP]
theorem any_fpl {x : PV} (h : fpl x = true) : ∀ {xs : List PV}, xs.all fpl = true → xs.all flatP = true ∧ (xs.any fun p => eqb p x) = decide (x ∈ xs)
  | [], _ => by simp
  | y :: xs, hs => by
    simp at hs
    obtain ⟨h1, h2⟩ := any_fpl h (xs := xs) (by simpa using hs.2)
    have e := eqb_fpl hs.1 h
    refine ⟨by simp [flat_fpl hs.1]; simpa using h1, ?_⟩
    rw [List.any_cons, h2, e]
    by_cases hy : y = x
    · subst hy; simp
    · have : ¬ x = y := fun e => hy e.symm
      simp [hy, this]
theorem Z_inP {n : Bool} {x y : PV} {xs : List PV} {st : Sto} {Q : PV → Sto → Prop} {E : Exn → Sto → Prop} (hs : seqOf y st = some xs) (hx : fpl x = true) (hf : xs.all fpl = true) : Z (inM n x y st) Q E = Q (.bl (ng n (decide (x ∈ xs)))) st := by
  obtain ⟨h1, h2⟩ := any_fpl hx hf
  have e : inM n x y st = (if (flatP x && xs.all flatP) = true then .ok (.bl (ng n (xs.any fun p => eqb p x))) st else .bad) := by
    unfold inM
    cases y with
    | str z => simp [seqOf] at hs
    | tup z => dsimp only; rw [hs]
    | lst z => dsimp only; rw [hs]
    | frz z => dsimp only; rw [hs]
    | loc z => dsimp only; rw [hs]
    | non => simp [seqOf] at hs
    | bl _ => simp [seqOf] at hs
    | int _ => simp [seqOf] at hs
    | ty _ => simp [seqOf] at hs
    | gl _ => simp [seqOf] at hs
  rw [e, if_pos (by rw [h1, flat_fpl hx]; rfl), h2]
  rfl
theorem joinNil : ∀ zs : List (List Nat), TL.joinL [] zs = zs.flatten
  | [] => rfl
  | [p] => by simp [TL.joinL]
  | p :: q :: r => by rw [TL.joinL, joinNil (q :: r)]; simp
theorem Z_joinC {l : List Nat} {st : Sto} {Q : PV → Sto → Prop} {E : Exn → Sto → Prop} (h : l.length ≤ 16777216) : Z (joinM (.str []) [.lst (l.map fun c => PV.str [c])] st) Q E = Q (.str l) st := by
  have e1 : ∀ l : List Nat, (l.map fun c => [c]).flatten = l := by
    intro l; induction l with
    | nil => rfl
    | cons x l ih => simp [ih]
  have e2 : ∀ l : List Nat, ((l.map fun c => [c]).map (·.length)).sum = l.length := by
    intro l; induction l with
    | nil => rfl
    | cons x l ih => rw [List.map_cons, List.map_cons, List.sum_cons, ih]; simp; omega
  rw [Z_join (zs := l.map fun c => [c]) (by simp) (by rw [e2]; simpa using h), joinNil, e1]
theorem str_at {a : List Nat} {i : Int} {m : Nat} (h0 : 0 ≤ i) (h1 : i < m) (hm : m ≤ a.length) (ha : ∀ c ∈ a, c < 1114112) : ∃ c, L2.atI a i = some c ∧ c < 1114112 := ⟨_, atI_of h0 (by omega), ha _ (List.getElem_mem _)⟩
def Sg (z : List Nat) (m : Nat) : Prop := z.length ≤ m ∧ ∀ c ∈ z, c < 1114112
theorem Sg.app {a b : List Nat} {m k : Nat} (h : Sg a m) (h' : Sg b k) : Sg (a ++ b) (m + k) := ⟨by have := h.1; have := h'.1; simp; omega, fun c hc => by
  rcases List.mem_append.mp hc with hc | hc
  · exact h.2 c hc
  · exact h'.2 c hc⟩
theorem Sg.mono {a : List Nat} {m k : Nat} (h : Sg a m) (hk : m ≤ k) : Sg a k := ⟨Nat.le_trans h.1 hk, h.2⟩
theorem Sg.cut {a : List Nat} {m : Nat} {x y : Option Int} (h : Sg a m) : Sg (cutL a x y) m := by
  unfold cutL
  exact ⟨Nat.le_trans (by simp; omega) h.1, fun c hc => h.2 c (List.mem_of_mem_drop (List.mem_of_mem_take hc))⟩
@[simp ↓] theorem Z_slF {xs : List PV} {lo hi : Option Int} {st : Sto} {Q : PV → Sto → Prop} {E : Exn → Sto → Prop} : Z (slM (.frz xs) lo hi st) Q E = Q (.lst (cutL xs lo hi)) st := propext Iff.rfl
theorem cut_map {α β : Type} (f : α → β) {xs : List α} {lo hi : Option Int} : cutL (xs.map f) lo hi = (cutL xs lo hi).map f := by
  unfold cutL; rw [List.length_map, List.map_take, List.map_drop]
theorem cut_len {α : Type} {xs : List α} {lo hi : Option Int} : (cutL xs lo hi).length ≤ xs.length := by
  unfold cutL; simp; omega
theorem cut_mid {α : Type} {xs : List α} {a b : Nat} : cutL xs (some (a : Int)) (some (b : Int)) = (xs.drop a).take (b - a) := by
  unfold cutL
  rw [HT.sIx_nat, HT.sIx_nat]
  apply List.ext_getElem?
  intro i
  simp only [List.getElem?_take, List.getElem?_drop]
  by_cases h : a + i < xs.length
  · rw [show min a xs.length = a by omega]
    by_cases h1 : i < b - a
    · rw [if_pos h1, if_pos (by omega)]
    · rw [if_neg h1, if_neg (by omega)]
  · rw [List.getElem?_eq_none (show xs.length ≤ a + i by omega)]
    split
    · rw [List.getElem?_eq_none (by omega)]; split <;> rfl
    · split <;> rfl
theorem cut_midlen {α : Type} {xs : List α} {a b : Nat} : (cutL xs (some (a : Int)) (some (b : Int))).length ≤ b - a := by
  rw [cut_mid]; simp; omega
section
variable {st : Sto} {Q : PV → Sto → Prop} {E : Exn → Sto → Prop} {QL : List PV → Sto → Prop} {i : Int} {a b : List Nat} {xs ys : List PV} {x : PV} {n : Bool} {tab : List (List Nat × PV)}
theorem Z_strI (h : i.natAbs.log2 < 1920) : Z (strM [.int i] st) Q E = Q (.str (intS i)) st := by unfold strM; dsimp only; rw [if_pos h]; rfl
@[simp ↓] theorem Z_strS : Z (strM [.str a] st) Q E = Q (.str a) st := propext Iff.rfl
@[simp ↓] theorem Z_inTab : Z (inTab n tab (.str a) st) Q E = Q (.bl (ng n (lookT tab a).isSome)) st := propext Iff.rfl
theorem Z_ixTab (h : lookT tab a = some x) : Z (ixTab tab (.str a) st) Q E = Q x st := by unfold ixTab; dsimp only; rw [h]; rfl
@[simp ↓] theorem Z_zipT : Z (zipM [.tup xs, .tup ys] st) QL E = QL (zipP xs ys) st := propext Iff.rfl
@[simp ↓] theorem Z_zipL : Z (zipM [.lst xs, .lst ys] st) QL E = QL (zipP xs ys) st := propext Iff.rfl
theorem Z_index {k : Nat} {r : List Nat} (h : Builtin.Str.occurrences ⟨a.toArray⟩ ⟨b.toArray⟩ 0 a.length 1 = k :: r) : Z (indexM (.str a) [.str b] st) Q E = Q (.int (k : Nat)) st := by unfold indexM; dsimp only; rw [h]; rfl
theorem intsOf_map (l : List Int) : intsOf (l.map .int) = some l := by
  induction l with
  | nil => rfl
  | cons i l ih => rw [List.map_cons, intsOf, ih]; rfl
theorem Z_sumL {l : List Int} : Z (sumM [.lst (l.map .int)] st) Q E = Q (.int l.sum) st := by
  unfold sumM; simp only [lstOf, listOf, intsOf_map]; rfl
end
theorem boolsOf_map (l : List Bool) : boolsOf (l.map .bl) = some l := by
  induction l with
  | nil => rfl
  | cons i l ih => rw [List.map_cons, boolsOf, ih]; rfl
theorem Z_allL {bs : List Bool} {st : Sto} {Q : PV → Sto → Prop} {E : Exn → Sto → Prop} : Z (allM false [.lst (bs.map .bl)] st) Q E = Q (.bl (bs.all id)) st := by
  unfold allM; simp only [listOf, boolsOf_map]; rfl
theorem Z_anyL {bs : List Bool} {st : Sto} {Q : PV → Sto → Prop} {E : Exn → Sto → Prop} : Z (allM true [.lst (bs.map .bl)] st) Q E = Q (.bl (bs.any id)) st := by
  unfold allM; simp only [listOf, boolsOf_map]; rfl
theorem Z_allR {k : Nat} {st : Sto} {Q : PV → Sto → Prop} {E : Exn → Sto → Prop} : Z (allM false [.lst (List.replicate k (.bl true))] st) Q E = Q (.bl true) st := by
  have e := Z_allL (bs := List.replicate k true) (st := st) (Q := Q) (E := E)
  have h : (List.replicate k true).all id = true := by simp
  rw [List.map_replicate, h] at e
  exact e
def kForC (f : List PV → List PV) (g : GM) (b : MS1) (ρ : Rho) (QF : KF) (E : KX) : Nat × List PV → Sto → Prop := fun nx s => Z (forG (gd nx.1 nx.2) g b (f nx.2) ρ s) QF E
@[simp ↓] theorem kForC_at {f : List PV → List PV} {g : GM} {b : MS1} {ρ : Rho} {QF : KF} {E : KX} {n : Nat} {xs : List PV} {s : Sto} : kForC f g b ρ QF E (n, xs) s = Z (forG (gd n xs) g b (f xs) ρ s) QF E := propext Iff.rfl
@[simp ↓] theorem Z_sForC {f : List PV → List PV} {mi : Rho → M (Nat × List PV)} {g : GM} {b : MS1} {ρ : Rho} {st : Sto} {QF : KF} {E : KX} : Z (sForC f mi g b ρ st) QF E = Z (mi ρ st) (kForC f g b ρ QF E) (kX ρ QF) := by
  unfold sForC; rw [Z_onErr]; rfl
def kCell (Q : Nat × List PV → Sto → Prop) : PV → Sto → Prop := fun v s => Z (atCell v s) Q E0
theorem kCell_at {Q : Nat × List PV → Sto → Prop} {n : Nat} {xs : List PV} {s : Sto} (h : s[n]? = some (.lst xs)) : kCell Q (.loc n) s = Q (n, xs) s := by
  unfold kCell atCell; dsimp only; rw [h]; rfl
@[simp ↓] theorem Z_iCell {m : ME1} {ρ : Rho} {st : Sto} {Q : Nat × List PV → Sto → Prop} {E : KX} : Z (iCell m ρ st) Q E = Z (m ρ st) (kCell Q) E := by
  unfold iCell; rw [Z_bind]
  congr 1; funext v s
  unfold kCell atCell
  cases v with
  | loc n => dsimp only; cases s[n]? with
    | none => rfl
    | some c => cases c <;> rfl
  | _ => rfl
theorem gd_of {n : Nat} {xs : List PV} {st : Sto} (h : st[n]? = some (.lst xs)) : gd n xs st = true := by unfold gd; rw [h]; simp
theorem Z_forG_nil {G : Sto → Bool} {g : GM} {b : MS1} {ρ : Rho} {st : Sto} {QF : KF} {E : KX} (h : G st = true) : Z (forG G g b [] ρ st) QF E = QF (.next ρ) st := by
  unfold forG; rw [if_pos h]; rfl
theorem Z_forG {G : Sto → Bool} {g : GM} {b : MS1} {p : PV} {ps : List PV} {ρ : Rho} {st : Sto} {QF : KF} {E : KX} (h : G st = true) : Z (forG G g b (p :: ps) ρ st) QF E = Z (g p ρ st) (fun ρ1 s => Z (b ρ1 s) (turnQ (forG G g b ps) QF E) E) (kX ρ QF) := by
  rw [forG]; dsimp only; rw [if_pos h, Z_onErr]
  congr 1; funext ρ1 s
  unfold turnL
  cases b ρ1 s with
  | ok f s' => cases f <;> rfl
  | err x s' => rfl
  | bad => rfl
theorem for_invG {G : Sto → Bool} {g : GM} {b : MS1} {QF : KF} {E : KX} (I : List PV → Rho → Sto → Prop) (hG : ∀ ps ρ st, I ps ρ st → G st = true) : ∀ (ps : List PV) (ρ : Rho) (st : Sto), I ps ρ st → (∀ p ps ρ st, I (p :: ps) ρ st → Z (g p ρ st) (fun ρ1 s => Z (b ρ1 s) (fun fl s2 => (∃ ρ2, (fl = .next ρ2 ∨ fl = .cont ρ2) ∧ I ps ρ2 s2) ∨ (∃ ρ2, fl = .brk ρ2 ∧ QF (.next ρ2) s2) ∨ (∃ v, fl = .ret v ∧ QF fl s2)) E0) E0) →
    (∀ ρ st, I [] ρ st → QF (.next ρ) st) → Z (forG G g b ps ρ st) QF E
  | [], ρ, st, h, _, hq => by rw [Z_forG_nil (hG _ _ _ h)]; exact hq ρ st h
  | p :: ps, ρ, st, h, hs, hq => by
    rw [Z_forG (hG _ _ _ h)]
    refine (hs p ps ρ st h).go fun ρ1 s h1 => Z.go h1 fun fl s2 h2 => ?_
    rcases h2 with ⟨ρ3, e | e, h3⟩ | ⟨ρ3, e, h3⟩ | ⟨v, e, h3⟩
    · subst e; exact for_invG I hG ps ρ3 s2 h3 hs hq
    · subst e; exact for_invG I hG ps ρ3 s2 h3 hs hq
    · subst e; exact h3
    · subst e; exact h3
def kLcC (f : List PV → List PV) (k : List PV → M PV) (g : GM) (t : MT1) (e : ME1) (vs : List Nat) (ρ : Rho) (QP : KP) (E : KX) : Nat × List PV → Sto → Prop := fun nx s => Z (lcG (gd nx.1 nx.2) g t e (wipeP ρ vs) (f nx.2) [] s) (kLE k QP E) E
@[simp ↓] theorem kLcC_at {f : List PV → List PV} {k : List PV → M PV} {g : GM} {t : MT1} {e : ME1} {vs : List Nat} {ρ : Rho} {QP : KP} {E : KX} {n : Nat} {xs : List PV} {s : Sto} : kLcC f k g t e vs ρ QP E (n, xs) s = Z (lcG (gd n xs) g t e (wipeP ρ vs) (f xs) [] s) (kLE k QP E) E := propext Iff.rfl
@[simp ↓] theorem Z_eLcC {f : List PV → List PV} {k : List PV → M PV} {mi : Rho → M (Nat × List PV)} {g : GM} {t : MT1} {e : ME1} {vs : List Nat} {ρ : Rho} {st : Sto} {QP : KP} {E : KX} : Z (eLcC f k mi g t e vs ρ st) QP E = Z (mi ρ st) (kLcC f k g t e vs ρ QP E) E := by
  unfold eLcC; rw [Z_bind]; simp only [Z_bind]; rfl
theorem lcG_nil {G : Sto → Bool} {g : GM} {t : MT1} {e : ME1} {ρ0 : Rho} {acc : List PV} {st : Sto} {QL : KLs} {E : KX} (h : G st = true) : Z (lcG G g t e ρ0 [] acc st) QL E = QL acc st := by unfold lcG; rw [if_pos h]; rfl
theorem lcG_cons {G : Sto → Bool} {g : GM} {t : MT1} {e : ME1} {ρ0 : Rho} {p : PV} {ps acc : List PV} {st : Sto} {QL : KLs} {E : KX} (h : G st = true) : Z (lcG G g t e ρ0 (p :: ps) acc st) QL E = Z (g p ρ0 st) (fun ρ1 s => Z (t ρ1 s) (fun c s => if c = true then Z (e ρ1 s) (fun y s => if acc.length < 16777216 then Z (lcG G g t e ρ0 ps (acc ++ [y]) s) QL E else False) E0 else Z (lcG G g t e ρ0 ps acc s) QL E) E0) E0 := by
  rw [lcG]; dsimp only; rw [if_pos h, Z_bind, Z_calm]
  congr 1; funext ρ1 s
  rw [Z_bind, Z_calm]
  congr 1; funext c s
  cases c with
  | false => rfl
  | true =>
    rw [if_pos rfl, if_pos rfl, Z_bind, Z_calm]
    congr 1; funext y s
    rw [Z_ite]
    rfl
abbrev DG : List Nat := [48, 49, 50, 51, 52, 53, 54, 55, 56, 57]
def isD (c : Nat) : Bool := decide (c ∈ DG)
theorem isD_iff (c : Nat) : isD c = true ↔ 48 ≤ c ∧ c ≤ 57 := by
  simp [isD]; omega
theorem inD {st : Sto} {b : Bool} {c : Nat} {Q : PV → Sto → Prop} {E : Exn → Sto → Prop} : Z (inM b (.str [c]) (.str DG) st) Q E = Q (.bl (ng b (isD c))) st := propext Iff.rfl
section
open PySem.NumText
theorem fold_bd : ∀ (cs : List Nat) (a : Nat), AllDigits cs → a * 10 ^ cs.length ≤ cs.foldl (fun acc c => acc * 10 + (c - 48)) a ∧ cs.foldl (fun acc c => acc * 10 + (c - 48)) a < (a + 1) * 10 ^ cs.length
  | [], a, _ => by simp
  | c :: cs, a, h => by
    have hc := h.head
    obtain ⟨h1, h2⟩ := fold_bd cs (a * 10 + (c - 48)) h.tail
    rw [List.foldl_cons, List.length_cons, Nat.pow_succ]
    constructor
    · refine Nat.le_trans ?_ h1
      rw [show a * (10 ^ cs.length * 10) = (a * 10) * 10 ^ cs.length by rw [Nat.mul_comm (10 ^ cs.length), Nat.mul_assoc]]
      exact Nat.mul_le_mul_right _ (by omega)
    · refine Nat.lt_of_lt_of_le h2 ?_
      rw [show (a + 1) * (10 ^ cs.length * 10) = ((a + 1) * 10) * 10 ^ cs.length by rw [Nat.mul_comm (10 ^ cs.length), Nat.mul_assoc]]
      exact Nat.mul_le_mul_right _ (by omega)
theorem allD {d : List Nat} (h : d.all isD = true) : AllDigits d := fun c hc => (isD_iff c).mp (List.all_eq_true.mp h c hc)
theorem Z_intS {d : List Nat} {st : Sto} {Q : PV → Sto → Prop} {E : Exn → Sto → Prop} (h : d.all isD = true) (h0 : d ≠ []) (hl : d.length ≤ 640) : Z (intM [.str d] st) Q E = Q (.int (digitsVal d : Nat)) st := by
  have e := intText_digits (x := ⟨d.toArray⟩) (by simpa using allD h) (by simpa using h0) (by show d.toArray.size ≤ 4300; simp; omega)
  unfold intM; dsimp only; rw [if_pos hl, e]
  simp
theorem val_great {c : Nat} {d : List Nat} (h : (c :: d).all isD = true) (hl : 5 ≤ d.length) (h0 : c ≠ 48) : 99999 < digitsVal (c :: d) := by
  have hc := (allD h).head
  have h1 := (fold_bd d (0 * 10 + (c - 48)) (allD h).tail).1
  have h2 : 10 ^ 5 ≤ 10 ^ d.length := Nat.pow_le_pow_right (by omega) hl
  have h3 : 1 * 10 ^ d.length ≤ (0 * 10 + (c - 48)) * 10 ^ d.length := Nat.mul_le_mul_right _ (by omega)
  unfold digitsVal
  rw [List.foldl_cons]
  omega
end
theorem Z_idxD {c : Nat} {st : Sto} {Q : PV → Sto → Prop} {E : Exn → Sto → Prop} (h : isD c = true) : Z (indexM (.str DG) [.str [c]] st) Q E = Q (.int ((c - 48 : Nat) : Int)) st := by
  have hc := (isD_iff c).mp h
  have h2 : c = 48 ∨ c = 49 ∨ c = 50 ∨ c = 51 ∨ c = 52 ∨ c = 53 ∨ c = 54 ∨ c = 55 ∨ c = 56 ∨ c = 57 := by omega
  rcases h2 with rfl | rfl | rfl | rfl | rfl | rfl | rfl | rfl | rfl | rfl <;> exact Z_index (r := []) (by decide +kernel)
section
variable {κ : Type} [DecidableEq κ]
theorem foldl_ddS : ∀ (l acc : List κ), acc.Nodup → (l.foldl ddS acc).Nodup ∧ ((l.foldl ddS acc).length = acc.length + l.length ↔ (acc ++ l).Nodup)
  | [], acc, h => by simp [h]
  | k :: l, acc, h => by
    have hl : ∀ (l acc : List κ), (l.foldl ddS acc).length ≤ acc.length + l.length := by
      intro l; induction l with
      | nil => intro acc; simp
      | cons k l ih => intro acc; have := ih (ddS acc k); have := ddS_len acc k; simp; omega
    by_cases hk : k ∈ acc
    · have e : ddS acc k = acc := if_pos hk
      obtain ⟨a, b⟩ := foldl_ddS l acc h
      rw [List.foldl_cons, e]
      refine ⟨a, fun q => ?_, fun q => ?_⟩
      · have := hl l acc; simp at q; omega
      · exfalso
        rw [List.nodup_append] at q
        exact q.2.2 k hk k (by simp) rfl
    · have e : ddS acc k = acc ++ [k] := if_neg hk
      obtain ⟨a, b⟩ := foldl_ddS l (acc ++ [k]) (by
        rw [List.nodup_append]
        refine ⟨h, by simp, fun x hx y hy => ?_⟩
        simp at hy; subst hy
        intro e; subst e; exact hk hx)
      rw [List.foldl_cons, e]
      refine ⟨a, ?_⟩
      rw [show acc.length + (k :: l).length = (acc ++ [k]).length + l.length by simp; omega, b]
      simp
theorem dd_nodup (l : List κ) : ((dd l).length = l.length) ↔ l.Nodup := by
  have := (foldl_ddS l [] List.nodup_nil).2
  simpa [dd] using this
end
theorem keysOf_str (zs : List (List Nat)) : keysOf (zs.map .str) = some (zs.map fun z => .inr ⟨z.toArray⟩) := by
  induction zs with
  | nil => rfl
  | cons z zs ih => rw [List.map_cons, keysOf, ih]; rfl
theorem Z_lenSet {x : PV} {zs : List (List Nat)} {st : Sto} {Q : PV → Sto → Prop} {E : Exn → Sto → Prop} (h : seqOf x st = some (zs.map .str)) (hl : zs.length ≤ 1000) (hq : ∀ m : Nat, (m = zs.length ↔ zs.Nodup) → m ≤ zs.length → Q (.int m) st) : Z (lenSetM x st) Q E := by
  unfold lenSetM
  rw [h]; dsimp only
  rw [keysOf_str]; dsimp only
  rw [if_pos (by simpa using hl)]
  refine hq _ ?_ ?_
  · have := dd_nodup (zs.map fun z => (Sum.inr ⟨z.toArray⟩ : L2.Key))
    rw [List.length_map] at this
    rw [this]
    refine List.pairwise_map.trans ?_
    refine ⟨fun h => h.imp fun {a b} h e => h (by rw [e]), fun h => h.imp fun {a b} h e => h (by simpa using e)⟩
  · have := dd_len (zs.map fun z => (Sum.inr ⟨z.toArray⟩ : L2.Key))
    rwa [List.length_map] at this
section
variable {st : Sto} {ρ : Rho} {QP : KP} {E : KX} {QF : KF} {n : Nat} {c m f : String} {cs : List String} {fs : List (String × PV)} {v y : PV}
@[simp] theorem lookA_nil : lookA [] f = none := rfl
@[simp] theorem lookA_cons {g : String} {r : List (String × PV)} : lookA ((g, v) :: r) f = if g = f then some v else lookA r f := rfl
@[simp] theorem putA_nil : putA f v [] = [(f, v)] := rfl
@[simp] theorem putA_cons {g : String} {w : PV} {r : List (String × PV)} : putA f v ((g, w) :: r) = if g = f then (g, v) :: r else (g, w) :: putA f v r := rfl
@[simp ↓] theorem Z_attr (h : st[n]? = some (.ins c fs)) (hc : c ∈ cs) (hl : lookA fs f = some v) : Z (attrM cs f (.loc n) st) QP E = QP v st := by
  unfold attrM; dsimp only; rw [h]; dsimp only; rw [if_pos hc, hl]; rfl
def kSA1 (cs : List String) (f : String) (mo : ME1) (ρ : Rho) (QF : KF) (E : KX) : PV → Sto → Prop := fun y s => Z (mo ρ s) (fun x s => Z (setA cs f y x s) (fun _ s => QF (.next ρ) s) (kX ρ QF)) (kX ρ QF)
@[simp ↓] theorem Z_sAttr {mo mv : ME1} : Z (sAttr cs f mo mv ρ st) QF E = Z (mv ρ st) (kSA1 cs f mo ρ QF E) (kX ρ QF) := by
  unfold sAttr kSA1; rw [Z_onErr]; congr 1; funext y s; rw [Z_onErr]; congr 1; funext x s; rw [Z_onErr]; rfl
def kSA2 (cs : List String) (f : String) (y : PV) (ρ : Rho) (QF : KF) : PV → Sto → Prop := fun x s => Z (setA cs f y x s) (fun _ s => QF (.next ρ) s) (kX ρ QF)
@[simp ↓] theorem kSA1_at {mo : ME1} {s : Sto} : kSA1 cs f mo ρ QF E y s = Z (mo ρ s) (kSA2 cs f y ρ QF) (kX ρ QF) := propext Iff.rfl
@[simp ↓] theorem kSA2_at {s : Sto} (h : s[n]? = some (.ins c fs)) (hc : c ∈ cs) (hl : fs.length < 1000) : kSA2 cs f y ρ QF (.loc n) s = QF (.next ρ) (s.set n (.ins c (putA f y fs))) := by
  unfold kSA2 setA; dsimp only; rw [h]; dsimp only; rw [if_pos ⟨hc, hl⟩]; rfl
def kMt3 (mf : List PV → M PV) (o : PV) (QP : KP) (E : KX) : List PV → Sto → Prop := fun xs s => Z (mf (o :: xs) s) QP E
@[simp ↓] theorem kMt3_at {mf : List PV → M PV} {o : PV} {xs : List PV} {s : Sto} : kMt3 mf o QP E xs s = Z (mf (o :: xs) s) QP E := propext Iff.rfl
def kMt1 (c m : String) (mf : List PV → M PV) (ma : ML1) (ρ : Rho) (QP : KP) (E : KX) : PV → Sto → Prop := fun o s => Z (insC c m o s) (fun _ s => Z (ma ρ s) (kMt3 mf o QP E) E) E
@[simp ↓] theorem Z_eMth {mf : List PV → M PV} {mo : ME1} {ma : ML1} : Z (eMth c m mf mo ma ρ st) QP E = Z (mo ρ st) (kMt1 c m mf ma ρ QP E) E := by
  unfold eMth kMt1; rw [Z_bind]; congr 1; funext o s; rw [Z_bind]; congr 1; funext u s; rw [Z_bind]; rfl
@[simp ↓] theorem kMt1_at {mf : List PV → M PV} {ma : ML1} {s : Sto} (h : s[n]? = some (.ins c fs)) (hl : lookA fs m = none) : kMt1 c m mf ma ρ QP E (.loc n) s = Z (ma ρ s) (kMt3 mf (.loc n) QP E) E := by
  unfold kMt1 insC; dsimp only; rw [h]; dsimp only; rw [if_pos ⟨rfl, hl⟩]; rfl
def kNew (QP : KP) (n : Nat) : PV → Sto → Prop := fun v s => v = .non ∧ QP (.loc n) s
@[simp ↓] theorem kNew_at {s : Sto} : kNew QP n .non s = QP (.loc n) s := by unfold kNew; simp
@[simp ↓] theorem Z_mkIns {mf : List PV → M PV} {xs : List PV} : Z (mkIns c mf xs st) QP E = Z (mf (.loc st.length :: xs) (st ++ [.ins c []])) (kNew QP st.length) E0 := by
  unfold mkIns kNew
  cases mf (.loc st.length :: xs) (st ++ [.ins c []]) with
  | ok v s => cases v <;> simp [Z]
  | err x s => rfl
  | bad => rfl
end
section
variable {st : Sto} {ρ : Rho} {QP : KP} {QL : List PV → Sto → Prop} {E : KX} {xs ys : List PV} {a : List Nat} {n j : Nat} {x y z : PV} {kvs : List (PV × PV)}
@[simp ↓] theorem Z_zipLT : Z (zipM [.lst xs, .tup ys] st) QL E = QL (zipP xs ys) st := propext Iff.rfl
@[simp ↓] theorem Z_zipTL : Z (zipM [.tup xs, .lst ys] st) QL E = QL (zipP xs ys) st := propext Iff.rfl
@[simp ↓] theorem Z_zipTS : Z (zipM [.tup xs, .str a] st) QL E = QL (zipP xs (a.map fun c => .str [c])) st := propext Iff.rfl
@[simp ↓] theorem Z_zipLS : Z (zipM [.lst xs, .str a] st) QL E = QL (zipP xs (a.map fun c => .str [c])) st := propext Iff.rfl
def kGd (x z : PV) (QP : KP) (E : KX) : PV → Sto → Prop := fun y s => Z (dgetM x y z s) QP E
def kGe1 (me : ME1) (ρ : Rho) (QP : KP) (E : KX) : PV → Sto → Prop := fun x s => Z (isDct x s) (fun _ s => Z (me ρ s) (kGd x .non QP E) E) E
@[simp ↓] theorem Z_eGet1 {mo me : ME1} : Z (eGet1 mo me ρ st) QP E = Z (mo ρ st) (kGe1 me ρ QP E) E := by
  unfold eGet1 kGe1; rw [Z_bind]; congr 1; funext o s; rw [Z_bind]; congr 1; funext u s; rw [Z_bind]; rfl
@[simp ↓] theorem kGe1_at {me : ME1} {s : Sto} (h : s[n]? = some (.dct kvs)) : kGe1 me ρ QP E (.loc n) s = Z (me ρ s) (kGd (.loc n) .non QP E) E := by
  unfold kGe1 isDct dctOf; dsimp only; rw [h]; rfl
@[simp ↓] theorem kGd_at {s : Sto} (h : s[n]? = some (.dct kvs)) (hk : (keyOf y).isSome = true) : kGd (.loc n) z QP E y s = QP ((lookP kvs y).getD z) s := by
  unfold kGd dgetM dctOf; dsimp only; rw [h]; dsimp only; rw [if_pos hk]; rfl
def kGe3 (x y : PV) (QP : KP) (E : KX) : PV → Sto → Prop := fun z s => Z (dgetM x y z s) QP E
def kGe2 (md : ME1) (x : PV) (ρ : Rho) (QP : KP) (E : KX) : PV → Sto → Prop := fun y s => Z (md ρ s) (kGe3 x y QP E) E
def kGeA (me md : ME1) (ρ : Rho) (QP : KP) (E : KX) : PV → Sto → Prop := fun x s => Z (isDct x s) (fun _ s => Z (me ρ s) (kGe2 md x ρ QP E) E) E
@[simp ↓] theorem Z_eGet2 {mo me md : ME1} : Z (eGet2 mo me md ρ st) QP E = Z (mo ρ st) (kGeA me md ρ QP E) E := by
  unfold eGet2 kGeA; rw [Z_bind]; congr 1; funext o s; rw [Z_bind]; congr 1; funext u s; rw [Z_bind]; congr 1; funext w s; rw [Z_bind]; rfl
@[simp ↓] theorem kGeA_at {me md : ME1} {s : Sto} (h : s[n]? = some (.dct kvs)) : kGeA me md ρ QP E (.loc n) s = Z (me ρ s) (kGe2 md (.loc n) ρ QP E) E := by
  unfold kGeA isDct dctOf; dsimp only; rw [h]; rfl
@[simp ↓] theorem kGe2_at {md : ME1} {s : Sto} : kGe2 md x ρ QP E y s = Z (md ρ s) (kGe3 x y QP E) E := propext Iff.rfl
@[simp ↓] theorem kGe3_at {s : Sto} (h : s[n]? = some (.dct kvs)) (hk : (keyOf y).isSome = true) : kGe3 (.loc n) y QP E z s = QP ((lookP kvs y).getD z) s := by
  unfold kGe3 dgetM dctOf; dsimp only; rw [h]; dsimp only; rw [if_pos hk]; rfl
theorem Z_indexL (h : (flatP y && ys.all flatP) = true) (hj : idxP y ys = some j) : Z (indexL (.lst ys) [y] st) QP E = QP (.int (j : Nat)) st := by
  unfold indexL; dsimp only; rw [if_pos h, hj]; rfl
end
@[simp ↓] theorem Z_mulL {xs : List PV} {i : Int} {st : Sto} {Q : PV → Sto → Prop} {E : Exn → Sto → Prop} : Z (mulL (.lst xs) (.int i) st) Q E = if -1000000 ≤ i ∧ i ≤ 1000 ∧ xs.length ≤ 1000 then Q (.lst (List.replicate i.toNat xs).flatten) st else False := by unfold mulL; dsimp only; rw [Z_ite]; rfl
theorem Z_addN {x y : PV} {a b : List PV} {st : Sto} {Q : PV → Sto → Prop} {E : Exn → Sto → Prop} (h1 : listOf x st = some a) (h2 : listOf y st = some b) (hz : a.length + b.length ≤ 1000000) : Z (addN x y st) Q E = Q (.loc st.length) (st ++ [.lst (a ++ b)]) := by
  unfold addN; rw [h1, h2]; dsimp only; rw [if_pos (Nat.le_trans hz (by decide))]; rfl
theorem Z_dictD {m : Nat} {kvs : List (PV × PV)} {st : Sto} {Q : PV → Sto → Prop} {E : Exn → Sto → Prop} (h : st[m]? = some (.dct kvs)) : Z (dictM [.loc m] st) Q E = Q (.loc st.length) (st ++ [.dct kvs]) := by
  unfold dictM dctOf; dsimp only; rw [h]; rfl
theorem Z_dictP {x : PV} {ys : List PV} {ps : List (PV × PV)} {st : Sto} {Q : PV → Sto → Prop} {E : Exn → Sto → Prop} (h0 : dctOf x st = none) (h1 : listOf x st = some ys) (h2 : pairsOf ys = some ps) (h3 : keysOk ps = true) : Z (dictM [x] st) Q E = Q (.loc st.length) (st ++ [.dct (mergeP [] ps)]) := by
  unfold dictM; dsimp only; rw [h0]; dsimp only; rw [h1]; dsimp only; rw [h2]; dsimp only; rw [if_pos h3]; rfl
theorem Z_sortedD {m : Nat} {kvs : List (PV × PV)} {ss : List (List Nat)} {st : Sto} {Q : PV → Sto → Prop} {E : Exn → Sto → Prop} (h : st[m]? = some (.dct kvs)) (hs : strsOf (kvs.map Prod.fst) = some ss) (hz : ss.length < 64) : Z (sortedM [.loc m] st) Q E = Q (.lst ((sortS ss).map .str)) st := by
  unfold sortedM dctOf; dsimp only; rw [h]; dsimp only; rw [hs]; dsimp only; rw [if_pos hz]; rfl
theorem Z_sortedI {x : PV} {ys : List PV} {ns : List Int} {st : Sto} {Q : PV → Sto → Prop} {E : Exn → Sto → Prop} (h0 : dctOf x st = none) (h1 : listOf x st = some ys) (h2 : intsOf ys = some ns) : Z (sortedM [x] st) Q E = Q (.lst ((sortI ns).map .int)) st := by
  unfold sortedM; dsimp only; rw [h0]; dsimp only; rw [h1]; dsimp only; rw [h2]; rfl
theorem Z_sortedDI {m : Nat} {kvs : List (PV × PV)} {ns : List Int} {st : Sto} {Q : PV → Sto → Prop} {E : Exn → Sto → Prop} (h : st[m]? = some (.dct kvs)) (h1 : strsOf (kvs.map Prod.fst) = none) (hs : intsOf (kvs.map Prod.fst) = some ns) : Z (sortedM [.loc m] st) Q E = Q (.lst ((sortI ns).map .int)) st := by
  unfold sortedM dctOf; dsimp only; rw [h]; dsimp only; rw [h1]; dsimp only; rw [hs]; rfl
section
variable {st : Sto} {ρ : Rho} {QP : KP} {QU : KU} {E : KX} {m : Nat} {x y v : PV} {kvs : List (PV × PV)} {b : Bool}
theorem Z_inN (h : st[m]? = some (.dcn kvs)) (hk : (nkT x).isSome = true) : Z (inM b x (.loc m) st) QP E = QP (.bl (ng b (lookP kvs x).isSome)) st := by
  unfold inM seqOf; dsimp only; rw [h]; dsimp only; rw [if_pos hk]; rfl
theorem Z_inLf (h : st[m]? = some (.dcl kvs)) (hk : (lfOf x).isSome = true) : Z (inM b x (.loc m) st) QP E = QP (.bl (ng b (lookP kvs x).isSome)) st := by
  unfold inM seqOf; dsimp only; rw [h]; dsimp only; rw [if_pos hk]; rfl
theorem Z_ixN (h : st[m]? = some (.dcn kvs)) (hk : (nkT y).isSome = true) : Z (ixM (.loc m) y st) QP E = Z (optM (lookP kvs y) st) QP E := by
  unfold ixM seqOf dctOf gdOf; dsimp only; rw [h]; dsimp only; rw [if_pos hk]
theorem Z_ixLf (h : st[m]? = some (.dcl kvs)) (hk : (lfOf y).isSome = true) : Z (ixM (.loc m) y st) QP E = Z (optM (lookP kvs y) st) QP E := by
  unfold ixM seqOf dctOf gdOf; dsimp only; rw [h]; dsimp only; rw [if_pos hk]
theorem Z_setN (h : st[m]? = some (.dcn kvs)) (hk : (nkT y).isSome = true) (hl : kvs.length < 16777216) : Z (setM (.loc m) y v st) QU E = QU () (st.set m (.dcn (putP kvs y v))) := by
  unfold setM; dsimp only; rw [h]; dsimp only; rw [if_pos ⟨hk, hl⟩]; rfl
theorem Z_setLf (h : st[m]? = some (.dcl kvs)) (hk : (lfOf y).isSome = true) (hl : kvs.length < 16777216) : Z (setM (.loc m) y v st) QU E = QU () (st.set m (.dcl (putP kvs y v))) := by
  unfold setM; dsimp only; rw [h]; dsimp only; rw [if_pos ⟨hk, hl⟩]; rfl
def kGg (x : PV) (QP : KP) (E : KX) : PV → Sto → Prop := fun y s => Z (ggetM x y s) QP E
def kGg1 (me : ME1) (ρ : Rho) (QP : KP) (E : KX) : PV → Sto → Prop := fun x s => Z (isGd x s) (fun _ s => Z (me ρ s) (kGg x QP E) E) E
@[simp ↓] theorem Z_eGetG {mo me : ME1} : Z (eGetG mo me ρ st) QP E = Z (mo ρ st) (kGg1 me ρ QP E) E := by
  unfold eGetG kGg1; rw [Z_bind]; congr 1; funext o s; rw [Z_bind]; congr 1; funext u s; rw [Z_bind]; rfl
@[simp ↓] theorem kGg1_at {me : ME1} {s : Sto} (h : s[m]? = some (.dcn kvs)) : kGg1 me ρ QP E (.loc m) s = Z (me ρ s) (kGg (.loc m) QP E) E := by
  unfold kGg1 isGd; dsimp only; rw [h]; rfl
theorem kGg_at {s : Sto} (h : s[m]? = some (.dcn kvs)) (hk : (nkT y).isSome = true) : kGg (.loc m) QP E y s = QP ((lookP kvs y).getD .non) s := by
  unfold kGg ggetM gdOf; dsimp only; rw [h]; dsimp only; rw [if_pos hk]; rfl
@[simp ↓] theorem Z_eDcn0 : Z (eDcn0 ρ st) QP E = QP (.loc st.length) (st ++ [.dcn []]) := propext Iff.rfl
@[simp ↓] theorem Z_eDcl0 : Z (eDcl0 ρ st) QP E = QP (.loc st.length) (st ++ [.dcl []]) := propext Iff.rfl
end
def kUn (n : Nat) (kvs : List (PV × PV)) (QF : KF) : Fl → Sto → Prop := fun f s => match f with
  | .exc _ _ => False
  | f => isLck n kvs s = true ∧ QF f (s.set n (.dct kvs))
theorem isLck_of {n : Nat} {kvs : List (PV × PV)} {s : Sto} (h : s[n]? = some (.lck kvs)) : isLck n kvs s = true := by unfold isLck; rw [h]; simp
theorem kUn_next {n : Nat} {kvs : List (PV × PV)} {QF : KF} {s : Sto} {ρ : Rho} (h : s[n]? = some (.lck kvs)) : kUn n kvs QF (.next ρ) s = QF (.next ρ) (s.set n (.dct kvs)) := by
  unfold kUn; dsimp only; rw [isLck_of h]; simp
theorem Z_forD {i n : Nat} {kvs : List (PV × PV)} {g : GM} {b : MS1} {ρ : Rho} {st : Sto} {QF : KF} {E : KX} (hi : ρ[i]? = some (some (.loc n))) (h : st[n]? = some (.dct kvs)) : Z (sForD i g b ρ st) QF E = Z (forL g b (kvs.map Prod.fst) ρ (st.set n (.lck kvs))) (kUn n kvs QF) E0 := by
  unfold sForD; rw [hi]; dsimp only; rw [h]; dsimp only
  cases forL g b (kvs.map Prod.fst) ρ (st.set n (.lck kvs)) with
  | bad => rfl
  | err x s => rfl
  | ok f s =>
    cases f <;> first | rfl | (unfold unlk; dsimp only; rw [Z_iteR]; simp only [Z_ok, Z_bad, Z, kUn]; split <;> simp_all)
theorem Z_forDs {i : Nat} {v : PV} {g : GM} {b : MS1} {ρ : Rho} {st : Sto} {QF : KF} {E : KX} (hi : ρ[i]? = some (some v)) (hv : ∀ n, v ≠ .loc n) : Z (sForD i g b ρ st) QF E = Z (sFor (iSeq (eVar i)) g b ρ st) QF E := by
  unfold sForD; rw [hi]
  cases v with
  | loc n => exact absurd rfl (hv n)
  | _ => rfl
@[simp ↓] theorem Z_enumGt {xs : List PV} {st : Sto} {QL : KLs} {E : KX} : Z (enumG [.tup xs] st) QL E = QL (enumP xs) st := propext Iff.rfl
@[simp ↓] theorem Z_enumGl {xs : List PV} {st : Sto} {QL : KLs} {E : KX} : Z (enumG [.lst xs] st) QL E = QL (enumP xs) st := propext Iff.rfl
@[simp ↓] theorem Z_enumGs {a : List Nat} {st : Sto} {QL : KLs} {E : KX} : Z (enumG [.str a] st) QL E = QL (enumP (a.map fun c => .str [c])) st := propext Iff.rfl
@[simp ↓] theorem Z_isB {a b : Bool} {st : Sto} {QP : KP} {E : KX} : Z (isN (.bl a) (.bl b) st) QP E = QP (.bl (decide (a = b))) st := propext Iff.rfl
@[simp ↓] theorem Z_notB {a b : Bool} {st : Sto} {QP : KP} {E : KX} : Z (notN (.bl a) (.bl b) st) QP E = QP (.bl (!decide (a = b))) st := propext Iff.rfl
@[simp ↓] theorem Z_mulS {a : List Nat} {i : Int} {st : Sto} {Q : PV → Sto → Prop} {E : Exn → Sto → Prop} : Z (mulS (.str a) (.int i) st) Q E = if -1000000 ≤ i ∧ i ≤ 1000 ∧ a.length ≤ 1000 then Q (.str (List.replicate i.toNat a).flatten) st else False := by unfold mulS; dsimp only; rw [Z_ite]; rfl
theorem Z_eqG {n : Bool} {a b : Nat} {kx ky : List (PV × PV)} {st : Sto} {Q : PV → Sto → Prop} {E : Exn → Sto → Prop} (ha : st[a]? = some (.dct kx)) (hb : st[b]? = some (.dct ky)) (hx : kx.all (fun p => flP p.2) = true) (hy : ky.all (fun p => flP p.2) = true) : Z (eqG n (.loc a) (.loc b) st) Q E = Q (.bl (ng n (dEqP kx ky))) st := by
  unfold eqG dctOf; dsimp only; rw [ha, hb]; dsimp only; rw [hx, hy]; rfl
section
variable {g : GM} {b : MS1} {ρ : Rho} {st : Sto} {QF : KF} {E : KX} {QP : KP} {xs ps : List PV} {n : Nat} {a : List Nat}
theorem forG_yes : ∀ (ps : List PV) (ρ : Rho), forG yesG g b ps ρ = forL g b ps ρ
  | [], ρ => by unfold forG forL; rfl
  | p :: ps, ρ => by
    unfold forG forL
    have e : forG yesG g b ps = forL g b ps := funext fun ρ => forG_yes ps ρ
    rw [e]; rfl
theorem lcG_yes {t : MT1} {e : ME1} {ρ0 : Rho} : ∀ (ps acc : List PV), lcG yesG g t e ρ0 ps acc = lcL g t e ρ0 ps acc
  | [], acc => by unfold lcG lcL; rfl
  | p :: ps, acc => by
    unfold lcG lcL
    have e2 : ∀ acc, lcG yesG g t e ρ0 ps acc = lcL g t e ρ0 ps acc := fun acc => lcG_yes ps acc
    simp only [e2]; rfl
def kAny (Q : GI → Sto → Prop) (E : KX) : PV → Sto → Prop := fun v s => Z (anyM v s) Q E
def kEnA (Q : GI → Sto → Prop) (E : KX) : PV → Sto → Prop := fun v s => Z (enumA v s) Q E
@[simp ↓] theorem Z_iAny {m : ME1} {Q : GI → Sto → Prop} : Z (iAny m ρ st) Q E = Z (m ρ st) (kAny Q E) E := by unfold iAny kAny; rw [Z_bind]
@[simp ↓] theorem Z_iEnumA {m : ME1} {Q : GI → Sto → Prop} : Z (iEnumA m ρ st) Q E = Z (m ρ st) (kEnA Q E) E := by unfold iEnumA kEnA; rw [Z_bind]
@[simp ↓] theorem kAny_t {Q : GI → Sto → Prop} : kAny Q E (.tup xs) st = Q (yesG, xs) st := propext Iff.rfl
@[simp ↓] theorem kAny_l {Q : GI → Sto → Prop} : kAny Q E (.lst xs) st = Q (yesG, xs) st := propext Iff.rfl
@[simp ↓] theorem kAny_f {Q : GI → Sto → Prop} : kAny Q E (.frz xs) st = Q (yesG, xs) st := propext Iff.rfl
@[simp ↓] theorem kAny_s {Q : GI → Sto → Prop} : kAny Q E (.str a) st = Q (yesG, a.map fun c => .str [c]) st := propext Iff.rfl
@[simp ↓] theorem kAny_c {Q : GI → Sto → Prop} (h : st[n]? = some (.lst xs)) : kAny Q E (.loc n) st = Q (gd n xs, xs) st := by unfold kAny anyM; dsimp only; rw [h]; rfl
@[simp ↓] theorem kEnA_t {Q : GI → Sto → Prop} : kEnA Q E (.tup xs) st = Q (yesG, enumP xs) st := propext Iff.rfl
@[simp ↓] theorem kEnA_l {Q : GI → Sto → Prop} : kEnA Q E (.lst xs) st = Q (yesG, enumP xs) st := propext Iff.rfl
@[simp ↓] theorem kEnA_s {Q : GI → Sto → Prop} : kEnA Q E (.str a) st = Q (yesG, enumP (a.map fun c => .str [c])) st := propext Iff.rfl
@[simp ↓] theorem kEnA_c {Q : GI → Sto → Prop} (h : st[n]? = some (.lst xs)) : kEnA Q E (.loc n) st = Q (gd n xs, enumP xs) st := by unfold kEnA enumA; dsimp only; rw [h]; rfl
def kForA (g : GM) (b : MS1) (ρ : Rho) (QF : KF) (E : KX) : GI → Sto → Prop := fun gx s => Z (forG gx.1 g b gx.2 ρ s) QF E
@[simp ↓] theorem Z_sForA {mi : Rho → M GI} : Z (sForA mi g b ρ st) QF E = Z (mi ρ st) (kForA g b ρ QF E) (kX ρ QF) := by unfold sForA; rw [Z_onErr]; rfl
@[simp ↓] theorem kForA_y : kForA g b ρ QF E (yesG, ps) st = Z (forL g b ps ρ st) QF E := by unfold kForA; dsimp only; rw [forG_yes]
theorem kForA_g : kForA g b ρ QF E (gd n xs, ps) st = Z (forG (gd n xs) g b ps ρ st) QF E := rfl
def kLcA (k : List PV → M PV) (g : GM) (t : MT1) (e : ME1) (vs : List Nat) (ρ : Rho) (QP : KP) (E : KX) : GI → Sto → Prop := fun gx s => Z (lcG gx.1 g t e (wipeP ρ vs) gx.2 [] s) (kLE k QP E) E
@[simp ↓] theorem Z_eLcA {k : List PV → M PV} {mi : Rho → M GI} {t : MT1} {e : ME1} {vs : List Nat} : Z (eLcA k mi g t e vs ρ st) QP E = Z (mi ρ st) (kLcA k g t e vs ρ QP E) E := by
  unfold eLcA; rw [Z_bind]; simp only [Z_bind]; rfl
@[simp ↓] theorem kLcA_y {k : List PV → M PV} {t : MT1} {e : ME1} {vs : List Nat} : kLcA k g t e vs ρ QP E (yesG, ps) st = Z (lcL g t e (wipeP ρ vs) ps [] st) (kLE k QP E) E := by unfold kLcA; dsimp only; rw [lcG_yes]
theorem kLcA_g {k : List PV → M PV} {t : MT1} {e : ME1} {vs : List Nat} : kLcA k g t e vs ρ QP E (gd n xs, ps) st = Z (lcG (gd n xs) g t e (wipeP ρ vs) ps [] st) (kLE k QP E) E := rfl
end
theorem Z_maxL {x : PV} {ys : List PV} {n : Int} {ns : List Int} {st : Sto} {Q : PV → Sto → Prop} {E : Exn → Sto → Prop} (h : lstOf x st = some ys) (h2 : intsOf ys = some (n :: ns)) : Z (maxL [x] st) Q E = Q (.int (maxI n ns)) st := by
  unfold maxL; dsimp only; rw [h]; dsimp only; rw [h2]; rfl
theorem Z_minL {x : PV} {ys : List PV} {n : Int} {ns : List Int} {st : Sto} {Q : PV → Sto → Prop} {E : Exn → Sto → Prop} (h : lstOf x st = some ys) (h2 : intsOf ys = some (n :: ns)) : Z (minL [x] st) Q E = Q (.int (minI n ns)) st := by
  unfold minL; dsimp only; rw [h]; dsimp only; rw [h2]; rfl
theorem Z_listA {x : PV} {ys : List PV} {st : Sto} {Q : PV → Sto → Prop} {E : Exn → Sto → Prop} (h : itemsA x st = some ys) : Z (listA [x] st) Q E = Q (.lst ys) st := by
  unfold listA; dsimp only; rw [h]; rfl
theorem Z_listAN {x : PV} {ys : List PV} {st : Sto} {Q : PV → Sto → Prop} {E : Exn → Sto → Prop} (h : itemsA x st = some ys) : Z (listAN [x] st) Q E = Q (.loc st.length) (st ++ [.lst ys]) := by
  unfold listAN; dsimp only; rw [h]; rfl
section
variable {st : Sto} {a : List Nat} {xs : List PV} {m : Nat} {kvs : List (PV × PV)}
@[simp] theorem itemsA_tup : itemsA (.tup xs) st = some xs := rfl
@[simp] theorem itemsA_lst : itemsA (.lst xs) st = some xs := rfl
@[simp] theorem itemsA_frz : itemsA (.frz xs) st = some xs := rfl
theorem itemsA_str (h : a.length ≤ SZ) : itemsA (.str a) st = some (a.map fun c => .str [c]) := by unfold itemsA; dsimp only; rw [if_pos h]
theorem itemsA_loc (h : st[m]? = some (.lst xs)) : itemsA (.loc m) st = some xs := by unfold itemsA dctOf; dsimp only; rw [h]; dsimp only; exact seqOf_loc h
theorem itemsA_dct (h : st[m]? = some (.dct kvs)) : itemsA (.loc m) st = some (kvs.map Prod.fst) := by unfold itemsA dctOf; dsimp only; rw [h]
end
theorem Z_dictEn {x : PV} {ps : List PV} {st : Sto} {Q : PV → Sto → Prop} {E : Exn → Sto → Prop} (h : skOf x = some ps) (hz : ps.length ≤ SZ) : Z (dictEn x st) Q E = Q (.loc st.length) (st ++ [.dct (mergeP [] (enP 0 ps))]) := by
  unfold dictEn; rw [h]; dsimp only; rw [if_pos hz]; rfl
def kGA2 (cs : List String) (f : String) (p : PV) (ρ : Rho) (QR : KR) (E : KX) : PV → Sto → Prop := fun o s => Z (setA cs f p o s) (fun _ s => QR ρ s) E
@[simp ↓] theorem Z_gAttr {cs : List String} {f : String} {mo : ME1} {p : PV} {ρ : Rho} {st : Sto} {QR : KR} {E : KX} : Z (gAttr cs f mo p ρ st) QR E = Z (mo ρ st) (kGA2 cs f p ρ QR E) E := by
  unfold gAttr kGA2; rw [Z_bind]; congr 1; funext o s; rw [Z_bind]; rfl
@[simp ↓] theorem kGA2_at {cs : List String} {f c : String} {p : PV} {ρ : Rho} {QR : KR} {E : KX} {n : Nat} {fs : List (String × PV)} {s : Sto} (h : s[n]? = some (.ins c fs)) (hc : c ∈ cs) (hl : fs.length < 1000) : kGA2 cs f p ρ QR E (.loc n) s = QR ρ (s.set n (.ins c (putA f p fs))) := by
  unfold kGA2 setA; dsimp only; rw [h]; dsimp only; rw [if_pos ⟨hc, hl⟩]; rfl
@[simp ↓] theorem Z_extend {st : Sto} {m : Nat} {x : PV} {ys zs : List PV} {Q : PV → Sto → Prop} {E : Exn → Sto → Prop} (h : st[m]? = some (.lst ys)) (h2 : listOf x st = some zs) (hz : ys.length + zs.length ≤ 16777216) : Z (extendM (.loc m) [x] st) Q E = Q .non (st.set m (.lst (ys ++ zs))) := by
  unfold extendM lstCell; dsimp only; rw [h]; dsimp only; rw [h2]; dsimp only; rw [if_pos hz]; rfl
end MP

set_option maxRecDepth 100000
namespace K80
open PySem L2 MP
def tab_OPERATIONS : List (List Nat × PV) := [([97, 100, 100], .tup [.str [110], .str [110, 110]]), ([115, 117, 98], .tup [.str [110], .str [110, 110]]), ([109, 117, 108], .tup [.str [110], .str [110, 110]]), ([100, 105, 118], .tup [.str [110], .str [110, 110]]), ([114, 101, 115, 116], .tup [.str [110], .str [110, 110]]), ([108, 101, 115, 115], .tup [.str [110], .str [110, 110]]), ([115, 97, 109, 101], .tup [.str [110], .str [110, 110]]), ([112, 105, 99, 107], .tup [.str [110], .str [110, 110, 110]]), ([99, 111, 112, 121], .tup [.str [110], .str [110]]), ([97, 116], .tup [.str [110], .str [114, 110]]), ([115, 105, 122, 101], .tup [.str [110], .str [114]]), ([112, 117, 116], .tup [.str [114], .str [114, 110, 110]]), ([109, 97, 110, 121], .tup [.str [114], .str [110, 110]]), ([109, 97, 107, 101], .tup [.str [114], .non]), ([107, 101, 101, 112], .tup [.str [114], .str [114]])]
def b_taken_in (n : Nat) : Rho → M Fl :=
  (sRet (eBin addV (eBin modV (eBin subV (eVar 0) (eC (.int (-32768)))) (eC (.int 65536))) (eC (.int (-32768)))))
@[irreducible] def F_taken_in (n : Nat) : List PV → M PV := runB (b_taken_in n) 1
theorem z_taken_in {n : Nat} {p0 : PV} {st : Sto} {Q : PV → Sto → Prop} {E : Exn → Sto → Prop} : Z (F_taken_in n [p0] st) Q E = Z (b_taken_in n [some p0] st) (runQ Q E) E0 := by unfold F_taken_in; exact Z_run rfl
def b_kinds_of (n : Nat) : Rho → M Fl :=
  (sRet (eUn (getTab tab_OPERATIONS) (eVar 0)))
@[irreducible] def F_kinds_of (n : Nat) : List PV → M PV := runB (b_kinds_of n) 1
theorem z_kinds_of {n : Nat} {p0 : PV} {st : Sto} {Q : PV → Sto → Prop} {E : Exn → Sto → Prop} : Z (F_kinds_of n [p0] st) Q E = Z (b_kinds_of n [some p0] st) (runQ Q E) E0 := by unfold F_kinds_of; exact Z_run rfl
def b_divided (n : Nat) : Rho → M Fl :=
  (sSeq (sIf (eB (eBin eqM (eVar 1) (eC (.int 0)))) (sRet (eC (.int 0))) sNext)
  (sRet (eCall (F_taken_in n) (aCons (eBin fdivV (eVar 0) (eVar 1)) aNil))))
@[irreducible] def F_divided (n : Nat) : List PV → M PV := runB (b_divided n) 2
theorem z_divided {n : Nat} {p0 p1 : PV} {st : Sto} {Q : PV → Sto → Prop} {E : Exn → Sto → Prop} : Z (F_divided n [p0, p1] st) Q E = Z (b_divided n [some p0, some p1] st) (runQ Q E) E0 := by unfold F_divided; exact Z_run rfl
def b_done_sum (n : Nat) : Rho → M Fl :=
  (sSeq (sIf (eB (eBin eqM (eVar 0) (eC (.str [97, 100, 100])))) (sRet (eCall (F_taken_in n) (aCons (eBin addV (eVar 1) (eVar 2)) aNil))) sNext)
  (sSeq (sIf (eB (eBin eqM (eVar 0) (eC (.str [115, 117, 98])))) (sRet (eCall (F_taken_in n) (aCons (eBin subV (eVar 1) (eVar 2)) aNil))) sNext)
  (sSeq (sIf (eB (eBin eqM (eVar 0) (eC (.str [109, 117, 108])))) (sRet (eCall (F_taken_in n) (aCons (eBin mulV (eVar 1) (eVar 2)) aNil))) sNext)
  (sSeq (sIf (eB (eBin eqM (eVar 0) (eC (.str [100, 105, 118])))) (sRet (eCall (F_divided n) (aCons (eVar 1) (aCons (eVar 2) aNil)))) sNext)
  (sSeq (sIf (eB (eBin eqM (eVar 0) (eC (.str [114, 101, 115, 116])))) (sRet (eCall (F_taken_in n) (aCons (eBin subV (eVar 1) (eBin mulV (eVar 2) (eCall (F_divided n) (aCons (eVar 1) (aCons (eVar 2) aNil))))) aNil))) sNext)
  (sSeq (sIf (eB (eBin eqM (eVar 0) (eC (.str [108, 101, 115, 115])))) (sRet (eCall intM (aCons (eBin ltI (eVar 1) (eVar 2)) aNil))) sNext)
  (sRet (eCall intM (aCons (eBin eqM (eVar 1) (eVar 2)) aNil)))))))))
@[irreducible] def F_done_sum (n : Nat) : List PV → M PV := runB (b_done_sum n) 3
theorem z_done_sum {n : Nat} {p0 p1 p2 : PV} {st : Sto} {Q : PV → Sto → Prop} {E : Exn → Sto → Prop} : Z (F_done_sum n [p0, p1, p2] st) Q E = Z (b_done_sum n [some p0, some p1, some p2] st) (runQ Q E) E0 := by unfold F_done_sum; exact Z_run rfl
def b_put_at (n : Nat) : Rho → M Fl :=
  (sSeq (sIf (tOrM (eB (eBin ltI (eVar 1) (eC (.int 0)))) (eB (eBin geI (eVar 1) (eCall lenM (aCons (eVar 0) aNil))))) (sRet (eVar 0)) sNext)
  (sRet (eBin addV (eBin addV (eSl slM (eVar 0) oNone (oSome (eVar 1))) (eCall mkTup (aCons (eVar 2) aNil))) (eSl slM (eVar 0) (oSome (eBin addV (eVar 1) (eC (.int 1)))) oNone))))
@[irreducible] def F_put_at (n : Nat) : List PV → M PV := runB (b_put_at n) 3
theorem z_put_at {n : Nat} {p0 p1 p2 : PV} {st : Sto} {Q : PV → Sto → Prop} {E : Exn → Sto → Prop} : Z (F_put_at n [p0, p1, p2] st) Q E = Z (b_put_at n [some p0, some p1, some p2] st) (runQ Q E) E0 := by unfold F_put_at; exact Z_run rfl
def b_done_row (n : Nat) : Rho → M Fl :=
  (sSeq (sIf (eB (eBin eqM (eVar 0) (eC (.str [97, 116])))) (sSeq (sSet 2 (eChain leI ltI (eC (.int 0)) (eBin ixM (eVar 1) (eC (.int 1))) (eCall lenM (aCons (eBin ixM (eVar 1) (eC (.int 0))) aNil))))
  (sRet (eIf (eB (eVar 2)) (eBin ixM (eBin ixM (eVar 1) (eC (.int 0))) (eBin ixM (eVar 1) (eC (.int 1)))) (eC (.int 0))))) sNext)
  (sSeq (sIf (eB (eBin eqM (eVar 0) (eC (.str [115, 105, 122, 101])))) (sRet (eCall lenM (aCons (eBin ixM (eVar 1) (eC (.int 0))) aNil))) sNext)
  (sSeq (sIf (eB (eBin eqM (eVar 0) (eC (.str [112, 117, 116])))) (sRet (eCall (F_put_at n) (aCons (eBin ixM (eVar 1) (eC (.int 0))) (aCons (eBin ixM (eVar 1) (eC (.int 1))) (aCons (eBin ixM (eVar 1) (eC (.int 2))) aNil))))) sNext)
  (sSeq (sIf (eB (eBin eqM (eVar 0) (eC (.str [109, 97, 110, 121])))) (sRet (eBin mulV (eCall mkTup (aCons (eBin ixM (eVar 1) (eC (.int 1))) aNil)) (eCall maxM (aCons (eC (.int 0)) (aCons (eCall minM (aCons (eC (.int 40)) (aCons (eBin ixM (eVar 1) (eC (.int 0))) aNil))) aNil))))) sNext)
  (sRet (eCall tupleM (aCons (eVar 1) aNil)))))))
@[irreducible] def F_done_row (n : Nat) : List PV → M PV := runB (b_done_row n) 3
theorem z_done_row {n : Nat} {p0 p1 : PV} {st : Sto} {Q : PV → Sto → Prop} {E : Exn → Sto → Prop} : Z (F_done_row n [p0, p1] st) Q E = Z (b_done_row n [some p0, some p1, none] st) (runQ Q E) E0 := by unfold F_done_row; exact Z_run rfl
def b_done (n : Nat) : Rho → M Fl :=
  (sSeq (sIf (tOrM (eB (eBin eqM (eVar 0) (eC (.str [99, 111, 112, 121])))) (eB (eBin eqM (eVar 0) (eC (.str [107, 101, 101, 112]))))) (sRet (eBin ixM (eVar 1) (eC (.int 0)))) sNext)
  (sSeq (sIf (eB (eBin eqM (eVar 0) (eC (.str [112, 105, 99, 107])))) (sRet (eIf (eB (eBin neM (eBin ixM (eVar 1) (eC (.int 0))) (eC (.int 0)))) (eBin ixM (eVar 1) (eC (.int 1))) (eBin ixM (eVar 1) (eC (.int 2))))) sNext)
  (sSeq (sIf (eB (eBin (inM false) (eVar 0) (eCall mkTup (aCons (eC (.str [97, 116])) (aCons (eC (.str [115, 105, 122, 101])) (aCons (eC (.str [112, 117, 116])) (aCons (eC (.str [109, 97, 110, 121])) (aCons (eC (.str [109, 97, 107, 101])) aNil)))))))) (sRet (eCall (F_done_row n) (aCons (eVar 0) (aCons (eVar 1) aNil)))) sNext)
  (sRet (eCall (F_done_sum n) (aCons (eVar 0) (aCons (eBin ixM (eVar 1) (eC (.int 0))) (aCons (eBin ixM (eVar 1) (eC (.int 1))) aNil))))))))
@[irreducible] def F_done (n : Nat) : List PV → M PV := runB (b_done n) 2
theorem z_done {n : Nat} {p0 p1 : PV} {st : Sto} {Q : PV → Sto → Prop} {E : Exn → Sto → Prop} : Z (F_done n [p0, p1] st) Q E = Z (b_done n [some p0, some p1] st) (runQ Q E) E0 := by unfold F_done; exact Z_run rfl
def b_Engine__begin (n : Nat) : Rho → M Fl :=
  (sSeq (sAttr ["Engine"] "base" (eVar 0) (eCall lenM (aCons (eUn (attrM ["Engine"] "memory") (eVar 0)) aNil)))
  (sSeq (sDrop (eMeth "list" extendM (eUn (attrM ["Engine"] "memory") (eVar 0)) (aCons (eBin addV (eVar 2) (eBin mulL (eCall mkLst (aCons (eC (.int 0)) aNil)) (eBin subV (eBin ixM (eBin ixM (eUn (attrM ["Engine"] "code") (eVar 0)) (eVar 1)) (eC (.int 3))) (eCall lenM (aCons (eVar 2) aNil))))) aNil)))
  (sSeq (sAttr ["Engine"] "now" (eVar 0) (eVar 1))
  (sAttr ["Engine"] "at" (eVar 0) (eC (.int 0))))))
@[irreducible] def F_Engine__begin (n : Nat) : List PV → M PV := runB (b_Engine__begin n) 3
theorem z_Engine__begin {n : Nat} {p0 p1 p2 : PV} {st : Sto} {Q : PV → Sto → Prop} {E : Exn → Sto → Prop} : Z (F_Engine__begin n [p0, p1, p2] st) Q E = Z (b_Engine__begin n [some p0, some p1, some p2] st) (runQ Q E) E0 := by unfold F_Engine__begin; exact Z_run rfl
def b_Engine____init__ (n : Nat) : Rho → M Fl :=
  (sSeq (sAttr ["Engine"] "code" (eVar 0) (eVar 1))
  (sSeq (sAttr ["Engine"] "boxes" (eVar 0) eDct0)
  (sSeq (sAttr ["Engine"] "left" (eVar 0) (eVar 4))
  (sSeq (sAttr ["Engine"] "waiting" (eVar 0) (eCall mkLstN aNil))
  (sSeq (sAttr ["Engine"] "memory" (eVar 0) (eCall mkLstN aNil))
  (sSeq (sAttr ["Engine"] "base" (eVar 0) (eC (.int 0)))
  (sSeq (sAttr ["Engine"] "now" (eVar 0) (eVar 2))
  (sSeq (sAttr ["Engine"] "at" (eVar 0) (eC (.int 0)))
  (sDrop (eMth "Engine" "begin" (F_Engine__begin n) (eVar 0) (aCons (eVar 2) (aCons (eCall listA (aCons (eVar 3) aNil)) aNil))))))))))))
@[irreducible] def F_Engine____init__ (n : Nat) : List PV → M PV := runB (b_Engine____init__ n) 5
theorem z_Engine____init__ {n : Nat} {p0 p1 p2 p3 p4 : PV} {st : Sto} {Q : PV → Sto → Prop} {E : Exn → Sto → Prop} : Z (F_Engine____init__ n [p0, p1, p2, p3, p4] st) Q E = Z (b_Engine____init__ n [some p0, some p1, some p2, some p3, some p4] st) (runQ Q E) E0 := by unfold F_Engine____init__; exact Z_run rfl
def b_Engine__value (n : Nat) : Rho → M Fl :=
  (sSeq (sIf (eB (eCall isiM (aCons (eVar 1) (aCons (eC (.ty "str")) aNil)))) (sRet (eBin ixM (eUn (attrM ["Engine"] "boxes") (eVar 0)) (eVar 1))) sNext)
  (sSeq (sIf (eB (eCall isiM (aCons (eVar 1) (aCons (eC (.ty "tuple")) aNil)))) (sRet (eBin ixM (eUn (attrM ["Engine"] "memory") (eVar 0)) (eBin addV (eUn (attrM ["Engine"] "base") (eVar 0)) (eBin ixM (eVar 1) (eC (.int 1)))))) sNext)
  (sRet (eVar 1))))
@[irreducible] def F_Engine__value (n : Nat) : List PV → M PV := runB (b_Engine__value n) 2
theorem z_Engine__value {n : Nat} {p0 p1 : PV} {st : Sto} {Q : PV → Sto → Prop} {E : Exn → Sto → Prop} : Z (F_Engine__value n [p0, p1] st) Q E = Z (b_Engine__value n [some p0, some p1] st) (runQ Q E) E0 := by unfold F_Engine__value; exact Z_run rfl
def b_Engine__call (n : Nat) : Rho → M Fl :=
  (sSeq (sIf (eB (eBin eqM (eUn (attrM ["Engine"] "left") (eVar 0)) (eC (.int 0)))) (sRet (eCall mkTup (aCons (eC (.str [100, 114, 121])) aNil))) sNext)
  (sSeq (sAttr ["Engine"] "left" (eVar 0) (eBin subV (eUn (attrM ["Engine"] "left") (eVar 0)) (eC (.int 1))))
  (sSeq (sSet 2 (eLcA lcV (iAny (eBin ixM (eVar 1) (eC (.int 2)))) (gN 3) tYesM (eMth "Engine" "value" (F_Engine__value n) (eVar 0) (aCons (eVar 3) aNil)) [3]))
  (sSeq (sDrop (eMeth "list" appendM (eUn (attrM ["Engine"] "waiting") (eVar 0)) (aCons (eCall mkTup (aCons (eUn (attrM ["Engine"] "now") (eVar 0)) (aCons (eUn (attrM ["Engine"] "at") (eVar 0)) (aCons (eUn (attrM ["Engine"] "base") (eVar 0)) (aCons (eBin ixM (eVar 1) (eC (.int 3))) aNil))))) aNil)))
  (sSeq (sDrop (eMth "Engine" "begin" (F_Engine__begin n) (eVar 0) (aCons (eBin ixM (eVar 1) (eC (.int 1))) (aCons (eVar 2) aNil))))
  (sRet (eC .non)))))))
@[irreducible] def F_Engine__call (n : Nat) : List PV → M PV := runB (b_Engine__call n) 4
theorem z_Engine__call {n : Nat} {p0 p1 : PV} {st : Sto} {Q : PV → Sto → Prop} {E : Exn → Sto → Prop} : Z (F_Engine__call n [p0, p1] st) Q E = Z (b_Engine__call n [some p0, some p1, none, none] st) (runQ Q E) E0 := by unfold F_Engine__call; exact Z_run rfl
def L1_Engine__give (n : Nat) : Rho → M Fl :=
  (sAsg (eVar 5) (gSubM (eUn (attrM ["Engine"] "memory") (eVar 0)) (eBin addV (eUn (attrM ["Engine"] "base") (eVar 0)) (eBin ixM (eVar 4) (eC (.int 1))))))
def L0_Engine__give (n : Nat) : Rho → M Fl :=
  (sDrop (eMeth "list" popM (eUn (attrM ["Engine"] "memory") (eVar 0)) aNil))
theorem zL0_Engine__give {n : Nat} {ρ : Rho} {st : Sto} {Q : Fl → Sto → Prop} {E : Exn → Sto → Prop} : Z (L0_Engine__give n ρ st) Q E = Z ((sDrop (eMeth "list" popM (eUn (attrM ["Engine"] "memory") (eVar 0)) aNil)) ρ st) Q E := by unfold L0_Engine__give; rfl
theorem zL1_Engine__give {n : Nat} {ρ : Rho} {st : Sto} {Q : Fl → Sto → Prop} {E : Exn → Sto → Prop} : Z (L1_Engine__give n ρ st) Q E = Z ((sAsg (eVar 5) (gSubM (eUn (attrM ["Engine"] "memory") (eVar 0)) (eBin addV (eUn (attrM ["Engine"] "base") (eVar 0)) (eBin ixM (eVar 4) (eC (.int 1)))))) ρ st) Q E := by unfold L1_Engine__give; rfl
def b_Engine__give (n : Nat) : Rho → M Fl :=
  (sSeq (sSet 2 (eLcA lcV (iAny (eBin ixM (eVar 1) (eC (.int 1)))) (gN 6) tYesM (eMth "Engine" "value" (F_Engine__value n) (eVar 0) (aCons (eVar 6) aNil)) [6]))
  (sSeq (sIf (eB (eBin eqM (eUn (attrM ["Engine"] "waiting") (eVar 0)) (eCall mkLst aNil))) (sRet (eCall mkTup (aCons (eC (.str [98, 97, 99, 107])) (aCons (eCall tupleM (aCons (eVar 2) aNil)) aNil)))) sNext)
  (sSeq (whileF (eB (eBin gtI (eCall lenM (aCons (eUn (attrM ["Engine"] "memory") (eVar 0)) aNil)) (eUn (attrM ["Engine"] "base") (eVar 0)))) (L0_Engine__give n) n)
  (sSeq (sAsg (eMeth "list" popM (eUn (attrM ["Engine"] "waiting") (eVar 0)) aNil) (gT 4 (gsCons (gAttr ["Engine"] "now" (eVar 0)) (gsCons (gAttr ["Engine"] "at" (eVar 0)) (gsCons (gAttr ["Engine"] "base" (eVar 0)) (gsCons (gN 3) gsNil))))))
  (sSeq (sFor (iCall zipM (aCons (eVar 3) (aCons (eVar 2) aNil))) (gT 2 (gsCons (gN 4) (gsCons (gN 5) gsNil))) (L1_Engine__give n))
  (sRet (eC .non)))))))
@[irreducible] def F_Engine__give (n : Nat) : List PV → M PV := runB (b_Engine__give n) 7
theorem z_Engine__give {n : Nat} {p0 p1 : PV} {st : Sto} {Q : PV → Sto → Prop} {E : Exn → Sto → Prop} : Z (F_Engine__give n [p0, p1] st) Q E = Z (b_Engine__give n [some p0, some p1, none, none, none, none, none] st) (runQ Q E) E0 := by unfold F_Engine__give; exact Z_run rfl
def b_Engine__lay_in (n : Nat) : Rho → M Fl :=
  (sIf (eB (eBin eqM (eBin ixM (eVar 1) (eC (.int 0))) (eC (.str [108, 111, 97, 100])))) (sAsg (eBin ixM (eUn (attrM ["Engine"] "memory") (eVar 0)) (eBin addV (eUn (attrM ["Engine"] "base") (eVar 0)) (eBin ixM (eVar 1) (eC (.int 2))))) (gSubM (eUn (attrM ["Engine"] "boxes") (eVar 0)) (eBin ixM (eVar 1) (eC (.int 1))))) (sIf (eB (eBin eqM (eBin ixM (eVar 1) (eC (.int 0))) (eC (.str [115, 116, 111, 114, 101])))) (sAsg (eBin ixM (eUn (attrM ["Engine"] "boxes") (eVar 0)) (eBin ixM (eVar 1) (eC (.int 2)))) (gSubM (eUn (attrM ["Engine"] "memory") (eVar 0)) (eBin addV (eUn (attrM ["Engine"] "base") (eVar 0)) (eBin ixM (eVar 1) (eC (.int 1)))))) (sAsg (eCall (F_done n) (aCons (eBin ixM (eVar 1) (eC (.int 0))) (aCons (eCall tupleM (aCons (eLcA lcV (iAny (eBin ixM (eVar 1) (eC (.int 2)))) (gN 2) tYesM (eMth "Engine" "value" (F_Engine__value n) (eVar 0) (aCons (eVar 2) aNil)) [2]) aNil)) aNil))) (gSubM (eUn (attrM ["Engine"] "boxes") (eVar 0)) (eBin ixM (eVar 1) (eC (.int 1)))))))
@[irreducible] def F_Engine__lay_in (n : Nat) : List PV → M PV := runB (b_Engine__lay_in n) 3
theorem z_Engine__lay_in {n : Nat} {p0 p1 : PV} {st : Sto} {Q : PV → Sto → Prop} {E : Exn → Sto → Prop} : Z (F_Engine__lay_in n [p0, p1] st) Q E = Z (b_Engine__lay_in n [some p0, some p1, none] st) (runQ Q E) E0 := by unfold F_Engine__lay_in; exact Z_run rfl
def b_Engine__go_on (n : Nat) : Rho → M Fl :=
  (sSeq (sSet 1 (eBin ixM (eBin ixM (eBin ixM (eUn (attrM ["Engine"] "code") (eVar 0)) (eUn (attrM ["Engine"] "now") (eVar 0))) (eC (.int 4))) (eUn (attrM ["Engine"] "at") (eVar 0))))
  (sSeq (sAttr ["Engine"] "at" (eVar 0) (eBin addV (eUn (attrM ["Engine"] "at") (eVar 0)) (eC (.int 1))))
  (sSeq (sSet 2 (eBin ixM (eVar 1) (eC (.int 0))))
  (sSeq (sIf (eB (eBin eqM (eVar 2) (eC (.str [116, 105, 99, 107])))) (sSeq (sIf (eB (eBin eqM (eUn (attrM ["Engine"] "left") (eVar 0)) (eC (.int 0)))) (sRet (eCall mkTup (aCons (eC (.str [100, 114, 121])) aNil))) sNext)
  (sAttr ["Engine"] "left" (eVar 0) (eBin subV (eUn (attrM ["Engine"] "left") (eVar 0)) (eC (.int 1))))) (sIf (eB (eBin eqM (eVar 2) (eC (.str [110, 101, 101, 100])))) (sIf (eB (eBin eqM (eMth "Engine" "value" (F_Engine__value n) (eVar 0) (aCons (eBin ixM (eVar 1) (eC (.int 2))) aNil)) (eC (.int 0)))) (sRet (eCall mkTup (aCons (eC (.str [102, 97, 117, 108, 116])) (aCons (eBin ixM (eVar 1) (eC (.int 1))) aNil)))) sNext) (sIf (eB (eBin eqM (eVar 2) (eC (.str [106, 117, 109, 112])))) (sAttr ["Engine"] "at" (eVar 0) (eBin ixM (eVar 1) (eC (.int 1)))) (sIf (eB (eBin eqM (eVar 2) (eC (.str [98, 114, 97, 110, 99, 104])))) (sIf (eB (eBin neM (eMth "Engine" "value" (F_Engine__value n) (eVar 0) (aCons (eBin ixM (eVar 1) (eC (.int 1))) aNil)) (eC (.int 0)))) (sAttr ["Engine"] "at" (eVar 0) (eBin ixM (eVar 1) (eC (.int 2)))) sNext) (sIf (eB (eBin eqM (eVar 2) (eC (.str [99, 97, 108, 108])))) (sRet (eMth "Engine" "call" (F_Engine__call n) (eVar 0) (aCons (eVar 1) aNil))) (sIf (eB (eBin eqM (eVar 2) (eC (.str [103, 105, 118, 101])))) (sRet (eMth "Engine" "give" (F_Engine__give n) (eVar 0) (aCons (eVar 1) aNil))) (sDrop (eMth "Engine" "lay_in" (F_Engine__lay_in n) (eVar 0) (aCons (eVar 1) aNil)))))))))
  (sRet (eC .non))))))
@[irreducible] def F_Engine__go_on (n : Nat) : List PV → M PV := runB (b_Engine__go_on n) 3
theorem z_Engine__go_on {n : Nat} {p0 : PV} {st : Sto} {Q : PV → Sto → Prop} {E : Exn → Sto → Prop} : Z (F_Engine__go_on n [p0] st) Q E = Z (b_Engine__go_on n [some p0, none, none] st) (runQ Q E) E0 := by unfold F_Engine__go_on; exact Z_run rfl
def L0_run_code (n : Nat) : Rho → M Fl :=
  (sSet 5 (eMth "Engine" "go_on" (F_Engine__go_on n) (eVar 4) aNil))
theorem zL0_run_code {n : Nat} {ρ : Rho} {st : Sto} {Q : Fl → Sto → Prop} {E : Exn → Sto → Prop} : Z (L0_run_code n ρ st) Q E = Z ((sSet 5 (eMth "Engine" "go_on" (F_Engine__go_on n) (eVar 4) aNil)) ρ st) Q E := by unfold L0_run_code; rfl
def b_run_code (n : Nat) : Rho → M Fl :=
  (sSeq (sSet 4 (eCall (mkIns "Engine" (F_Engine____init__ n)) (aCons (eVar 0) (aCons (eVar 1) (aCons (eVar 2) (aCons (eVar 3) aNil))))))
  (sSeq (sSet 5 (eC .non))
  (sSeq (whileF (eB (eBin isN (eVar 5) (eC .non))) (L0_run_code n) n)
  (sRet (eVar 5)))))
@[irreducible] def F_run_code (n : Nat) : List PV → M PV := runB (b_run_code n) 6
theorem z_run_code {n : Nat} {p0 p1 p2 p3 : PV} {st : Sto} {Q : PV → Sto → Prop} {E : Exn → Sto → Prop} : Z (F_run_code n [p0, p1, p2, p3] st) Q E = Z (b_run_code n [some p0, some p1, some p2, some p3, none, none] st) (runQ Q E) E0 := by unfold F_run_code; exact Z_run rfl
def b_ways_on (n : Nat) : Rho → M Fl :=
  (sSeq (sIf (eB (eBin eqM (eBin ixM (eVar 0) (eC (.int 0))) (eC (.str [103, 105, 118, 101])))) (sRet (eCall mkLst aNil)) sNext)
  (sSeq (sIf (eB (eBin eqM (eBin ixM (eVar 0) (eC (.int 0))) (eC (.str [106, 117, 109, 112])))) (sRet (eCall mkLst (aCons (eBin ixM (eVar 0) (eC (.int 1))) aNil))) sNext)
  (sSeq (sIf (eB (eBin eqM (eBin ixM (eVar 0) (eC (.int 0))) (eC (.str [98, 114, 97, 110, 99, 104])))) (sRet (eCall mkLst (aCons (eBin addV (eVar 1) (eC (.int 1))) (aCons (eBin ixM (eVar 0) (eC (.int 2))) aNil)))) sNext)
  (sRet (eCall mkLst (aCons (eBin addV (eVar 1) (eC (.int 1))) aNil))))))
@[irreducible] def F_ways_on (n : Nat) : List PV → M PV := runB (b_ways_on n) 2
theorem z_ways_on {n : Nat} {p0 p1 : PV} {st : Sto} {Q : PV → Sto → Prop} {E : Exn → Sto → Prop} : Z (F_ways_on n [p0, p1] st) Q E = Z (b_ways_on n [some p0, some p1] st) (runQ Q E) E0 := by unfold F_ways_on; exact Z_run rfl
def L1_steps_come_to (n : Nat) : Rho → M Fl :=
  (sIf (tAndM (eB (eBin ltI (eVar 4) (eCall lenM (aCons (eVar 0) aNil)))) (eB (eBin (inM true) (eVar 4) (eVar 1)))) (sSeq (sAsg (eC (.bl true)) (gSubM (eVar 1) (eVar 4)))
  (sDrop (eMeth "list" appendM (eVar 2) (aCons (eVar 4) aNil)))) sNext)
def L0_steps_come_to (n : Nat) : Rho → M Fl :=
  (sSeq (sSet 3 (eMeth "list" popM (eVar 2) aNil))
  (sForA (iAny (eCall (F_ways_on n) (aCons (eBin ixM (eVar 0) (eVar 3)) (aCons (eVar 3) aNil)))) (gN 4) (L1_steps_come_to n)))
theorem zL0_steps_come_to {n : Nat} {ρ : Rho} {st : Sto} {Q : Fl → Sto → Prop} {E : Exn → Sto → Prop} : Z (L0_steps_come_to n ρ st) Q E = Z ((sSeq (sSet 3 (eMeth "list" popM (eVar 2) aNil))   (sForA (iAny (eCall (F_ways_on n) (aCons (eBin ixM (eVar 0) (eVar 3)) (aCons (eVar 3) aNil)))) (gN 4) (L1_steps_come_to n))) ρ st) Q E := by unfold L0_steps_come_to; rfl
theorem zL1_steps_come_to {n : Nat} {ρ : Rho} {st : Sto} {Q : Fl → Sto → Prop} {E : Exn → Sto → Prop} : Z (L1_steps_come_to n ρ st) Q E = Z ((sIf (tAndM (eB (eBin ltI (eVar 4) (eCall lenM (aCons (eVar 0) aNil)))) (eB (eBin (inM true) (eVar 4) (eVar 1)))) (sSeq (sAsg (eC (.bl true)) (gSubM (eVar 1) (eVar 4)))   (sDrop (eMeth "list" appendM (eVar 2) (aCons (eVar 4) aNil)))) sNext) ρ st) Q E := by unfold L1_steps_come_to; rfl
def b_steps_come_to (n : Nat) : Rho → M Fl :=
  (sSeq (sSet 1 (eDct [((eC (.int 0)), (eC (.bl true)))]))
  (sSeq (sSet 2 (eCall mkLstN (aCons (eC (.int 0)) aNil)))
  (sSeq (whileF (eB (eBin neM (eVar 2) (eCall mkLst aNil))) (L0_steps_come_to n) n)
  (sRet (eCall sortedM (aCons (eCall listA (aCons (eVar 1) aNil)) aNil))))))
@[irreducible] def F_steps_come_to (n : Nat) : List PV → M PV := runB (b_steps_come_to n) 5
theorem z_steps_come_to {n : Nat} {p0 : PV} {st : Sto} {Q : PV → Sto → Prop} {E : Exn → Sto → Prop} : Z (F_steps_come_to n [p0] st) Q E = Z (b_steps_come_to n [some p0, none, none, none, none] st) (runQ Q E) E0 := by unfold F_steps_come_to; exact Z_run rfl
def b_things_read (n : Nat) : Rho → M Fl :=
  (sSeq (sSet 1 (eBin ixM (eVar 0) (eC (.int 0))))
  (sSeq (sIf (tOrM (eB (eBin eqM (eVar 1) (eC (.str [116, 105, 99, 107])))) (eB (eBin eqM (eVar 1) (eC (.str [106, 117, 109, 112]))))) (sRet (eCall mkLst aNil)) sNext)
  (sSeq (sIf (eB (eBin eqM (eVar 1) (eC (.str [108, 111, 97, 100])))) (sRet (eCall mkLst (aCons (eCall mkTup (aCons (eBin ixM (eBin ixM (eVar 0) (eC (.int 1))) (eC (.int 0))) (aCons (eBin ixM (eVar 0) (eC (.int 2))) aNil))) aNil))) sNext)
  (sSeq (sIf (tOrM (eB (eBin eqM (eVar 1) (eC (.str [98, 114, 97, 110, 99, 104])))) (tOrM (eB (eBin eqM (eVar 1) (eC (.str [103, 105, 118, 101])))) (eB (eBin eqM (eVar 1) (eC (.str [99, 97, 108, 108])))))) (sSeq (sSet 2 (eBin ixM (eVar 0) (eC (.int 1))))
  (sSeq (sIf (eB (eBin eqM (eVar 1) (eC (.str [99, 97, 108, 108])))) (sSet 2 (eBin ixM (eVar 0) (eC (.int 2)))) sNext)
  (sSeq (sIf (eB (eBin eqM (eVar 1) (eC (.str [98, 114, 97, 110, 99, 104])))) (sSet 2 (eCall mkTup (aCons (eBin ixM (eVar 0) (eC (.int 1))) aNil))) sNext)
  (sRet (eCall listA (aCons (eVar 2) aNil)))))) sNext)
  (sSeq (sIf (tOrM (eB (eBin eqM (eVar 1) (eC (.str [115, 116, 111, 114, 101])))) (eB (eBin eqM (eVar 1) (eC (.str [110, 101, 101, 100]))))) (sRet (eCall mkLst (aCons (eBin ixM (eVar 0) (eC (.int 2))) aNil))) sNext)
  (sRet (eCall listA (aCons (eBin ixM (eVar 0) (eC (.int 2))) aNil))))))))
@[irreducible] def F_things_read (n : Nat) : List PV → M PV := runB (b_things_read n) 3
theorem z_things_read {n : Nat} {p0 : PV} {st : Sto} {Q : PV → Sto → Prop} {E : Exn → Sto → Prop} : Z (F_things_read n [p0] st) Q E = Z (b_things_read n [some p0, none, none] st) (runQ Q E) E0 := by unfold F_things_read; exact Z_run rfl
def L1_laid_behind (n : Nat) : Rho → M Fl :=
  (sAsg (eVar 5) (gSubM (eVar 3) (eVar 6)))
def L0_laid_behind (n : Nat) : Rho → M Fl :=
  (sIf (tNotM (eB (eCall isiM (aCons (eVar 4) (aCons (eC (.ty "str")) aNil))))) (sAsg (eBin ixM (eVar 1) (eVar 4)) (gSubM (eVar 3) (eVar 4))) sNext)
theorem zL0_laid_behind {n : Nat} {ρ : Rho} {st : Sto} {Q : Fl → Sto → Prop} {E : Exn → Sto → Prop} : Z (L0_laid_behind n ρ st) Q E = Z ((sIf (tNotM (eB (eCall isiM (aCons (eVar 4) (aCons (eC (.ty "str")) aNil))))) (sAsg (eBin ixM (eVar 1) (eVar 4)) (gSubM (eVar 3) (eVar 4))) sNext) ρ st) Q E := by unfold L0_laid_behind; rfl
theorem zL1_laid_behind {n : Nat} {ρ : Rho} {st : Sto} {Q : Fl → Sto → Prop} {E : Exn → Sto → Prop} : Z (L1_laid_behind n ρ st) Q E = Z ((sAsg (eVar 5) (gSubM (eVar 3) (eVar 6))) ρ st) Q E := by unfold L1_laid_behind; rfl
def b_laid_behind (n : Nat) : Rho → M Fl :=
  (sSeq (sSet 2 (eBin ixM (eVar 0) (eC (.int 0))))
  (sSeq (sSet 3 (eCall dictM (aCons (eVar 1) aNil)))
  (sSeq (sIf (eB (eBin eqM (eVar 2) (eC (.str [115, 116, 111, 114, 101])))) (sAsg (eBin ixM (eBin ixM (eVar 0) (eC (.int 2))) (eC (.int 0))) (gSubM (eVar 3) (eBin ixM (eVar 0) (eC (.int 1))))) (sIf (eB (eBin eqM (eVar 2) (eC (.str [99, 97, 108, 108])))) (sSeq (sSet 3 eDct0)
  (sSeq (sForA (iAny (eCall listA (aCons (eVar 1) aNil))) (gN 4) (L0_laid_behind n))
  (sForA (iAny (eBin ixM (eVar 0) (eC (.int 3)))) (gT 2 (gsCons (gN 5) (gsCons (gN 6) gsNil))) (L1_laid_behind n)))) (sIf (tAndM (eB (eBin neM (eVar 2) (eC (.str [116, 105, 99, 107])))) (tAndM (eB (eBin neM (eVar 2) (eC (.str [106, 117, 109, 112])))) (tAndM (eB (eBin neM (eVar 2) (eC (.str [98, 114, 97, 110, 99, 104])))) (tAndM (eB (eBin neM (eVar 2) (eC (.str [110, 101, 101, 100])))) (eB (eBin neM (eVar 2) (eC (.str [103, 105, 118, 101])))))))) (sAsg (eBin ixM (eBin ixM (eVar 0) (eC (.int 1))) (eC (.int 0))) (gSubM (eVar 3) (eBin ixM (eVar 0) (eC (.int 1))))) sNext)))
  (sRet (eVar 3)))))
@[irreducible] def F_laid_behind (n : Nat) : List PV → M PV := runB (b_laid_behind n) 7
theorem z_laid_behind {n : Nat} {p0 p1 : PV} {st : Sto} {Q : PV → Sto → Prop} {E : Exn → Sto → Prop} : Z (F_laid_behind n [p0, p1] st) Q E = Z (b_laid_behind n [some p0, some p1, none, none, none, none, none] st) (runQ Q E) E0 := by unfold F_laid_behind; exact Z_run rfl
def L0_reads_well (n : Nat) : Rho → M Fl :=
  (sSeq (sIf (tAndM (eB (eCall isiM (aCons (eVar 2) (aCons (eC (.ty "str")) aNil)))) (eB (eBin (inM true) (eVar 2) (eVar 1)))) (sRet (eC (.bl false))) sNext)
  (sIf (tAndM (eB (eCall isiM (aCons (eVar 2) (aCons (eC (.ty "tuple")) aNil)))) (eB (eBin neM (eGet1 (eVar 1) (eBin ixM (eVar 2) (eC (.int 1)))) (eBin ixM (eVar 2) (eC (.int 0)))))) (sRet (eC (.bl false))) sNext))
theorem zL0_reads_well {n : Nat} {ρ : Rho} {st : Sto} {Q : Fl → Sto → Prop} {E : Exn → Sto → Prop} : Z (L0_reads_well n ρ st) Q E = Z ((sSeq (sIf (tAndM (eB (eCall isiM (aCons (eVar 2) (aCons (eC (.ty "str")) aNil)))) (eB (eBin (inM true) (eVar 2) (eVar 1)))) (sRet (eC (.bl false))) sNext)   (sIf (tAndM (eB (eCall isiM (aCons (eVar 2) (aCons (eC (.ty "tuple")) aNil)))) (eB (eBin neM (eGet1 (eVar 1) (eBin ixM (eVar 2) (eC (.int 1)))) (eBin ixM (eVar 2) (eC (.int 0)))))) (sRet (eC (.bl false))) sNext)) ρ st) Q E := by unfold L0_reads_well; rfl
def b_reads_well (n : Nat) : Rho → M Fl :=
  (sSeq (sForA (iAny (eCall (F_things_read n) (aCons (eVar 0) aNil))) (gN 2) (L0_reads_well n))
  (sRet (eC (.bl true))))
@[irreducible] def F_reads_well (n : Nat) : List PV → M PV := runB (b_reads_well n) 3
theorem z_reads_well {n : Nat} {p0 p1 : PV} {st : Sto} {Q : PV → Sto → Prop} {E : Exn → Sto → Prop} : Z (F_reads_well n [p0, p1] st) Q E = Z (b_reads_well n [some p0, some p1, none] st) (runQ Q E) E0 := by unfold F_reads_well; exact Z_run rfl
def L2_states_ahead (n : Nat) : Rho → M Fl :=
  (sIf (eB (eBin eqM (eGet1 (eBin ixM (eVar 2) (eVar 6)) (eVar 8)) (eBin ixM (eVar 5) (eVar 8)))) (sAsg (eBin ixM (eVar 5) (eVar 8)) (gSubM (eVar 7) (eVar 8))) sNext)
def L1_states_ahead (n : Nat) : Rho → M Fl :=
  (sIf (eB (eBin ltI (eVar 6) (eCall lenM (aCons (eVar 1) aNil)))) (sSeq (sSet 7 (eVar 5))
  (sSeq (sIf (eB (eBin (inM false) (eVar 6) (eVar 2))) (sSeq (sSet 7 eDct0)
  (sForA (iAny (eCall listA (aCons (eVar 5) aNil))) (gN 8) (L2_states_ahead n))) sNext)
  (sIf (tOrM (eB (eBin (inM true) (eVar 6) (eVar 2))) (eB (eBin ltI (eCall lenM (aCons (eVar 7) aNil)) (eCall lenM (aCons (eBin ixM (eVar 2) (eVar 6)) aNil))))) (sSeq (sAsg (eVar 7) (gSubM (eVar 2) (eVar 6)))
  (sDrop (eMeth "list" appendM (eVar 3) (aCons (eVar 6) aNil)))) sNext))) sNext)
def L0_states_ahead (n : Nat) : Rho → M Fl :=
  (sSeq (sSet 4 (eMeth "list" popM (eVar 3) aNil))
  (sSeq (sSet 5 (eCall (F_laid_behind n) (aCons (eBin ixM (eVar 1) (eVar 4)) (aCons (eBin ixM (eVar 2) (eVar 4)) aNil))))
  (sForA (iAny (eCall (F_ways_on n) (aCons (eBin ixM (eVar 1) (eVar 4)) (aCons (eVar 4) aNil)))) (gN 6) (L1_states_ahead n))))
theorem zL0_states_ahead {n : Nat} {ρ : Rho} {st : Sto} {Q : Fl → Sto → Prop} {E : Exn → Sto → Prop} : Z (L0_states_ahead n ρ st) Q E = Z ((sSeq (sSet 4 (eMeth "list" popM (eVar 3) aNil))   (sSeq (sSet 5 (eCall (F_laid_behind n) (aCons (eBin ixM (eVar 1) (eVar 4)) (aCons (eBin ixM (eVar 2) (eVar 4)) aNil))))   (sForA (iAny (eCall (F_ways_on n) (aCons (eBin ixM (eVar 1) (eVar 4)) (aCons (eVar 4) aNil)))) (gN 6) (L1_states_ahead n)))) ρ st) Q E := by unfold L0_states_ahead; rfl
theorem zL1_states_ahead {n : Nat} {ρ : Rho} {st : Sto} {Q : Fl → Sto → Prop} {E : Exn → Sto → Prop} : Z (L1_states_ahead n ρ st) Q E = Z ((sIf (eB (eBin ltI (eVar 6) (eCall lenM (aCons (eVar 1) aNil)))) (sSeq (sSet 7 (eVar 5))   (sSeq (sIf (eB (eBin (inM false) (eVar 6) (eVar 2))) (sSeq (sSet 7 eDct0)   (sForA (iAny (eCall listA (aCons (eVar 5) aNil))) (gN 8) (L2_states_ahead n))) sNext)   (sIf (tOrM (eB (eBin (inM true) (eVar 6) (eVar 2))) (eB (eBin ltI (eCall lenM (aCons (eVar 7) aNil)) (eCall lenM (aCons (eBin ixM (eVar 2) (eVar 6)) aNil))))) (sSeq (sAsg (eVar 7) (gSubM (eVar 2) (eVar 6)))   (sDrop (eMeth "list" appendM (eVar 3) (aCons (eVar 6) aNil)))) sNext))) sNext) ρ st) Q E := by unfold L1_states_ahead; rfl
theorem zL2_states_ahead {n : Nat} {ρ : Rho} {st : Sto} {Q : Fl → Sto → Prop} {E : Exn → Sto → Prop} : Z (L2_states_ahead n ρ st) Q E = Z ((sIf (eB (eBin eqM (eGet1 (eBin ixM (eVar 2) (eVar 6)) (eVar 8)) (eBin ixM (eVar 5) (eVar 8)))) (sAsg (eBin ixM (eVar 5) (eVar 8)) (gSubM (eVar 7) (eVar 8))) sNext) ρ st) Q E := by unfold L2_states_ahead; rfl
def b_states_ahead (n : Nat) : Rho → M Fl :=
  (sSeq (sSet 2 (eDct [((eC (.int 0)), (eUn dictEn (eVar 0)))]))
  (sSeq (sSet 3 (eCall mkLstN (aCons (eC (.int 0)) aNil)))
  (sSeq (whileF (eB (eBin neM (eVar 3) (eCall mkLst aNil))) (L0_states_ahead n) n)
  (sRet (eVar 2)))))
@[irreducible] def F_states_ahead (n : Nat) : List PV → M PV := runB (b_states_ahead n) 9
theorem z_states_ahead {n : Nat} {p0 p1 : PV} {st : Sto} {Q : PV → Sto → Prop} {E : Exn → Sto → Prop} : Z (F_states_ahead n [p0, p1] st) Q E = Z (b_states_ahead n [some p0, some p1, none, none, none, none, none, none, none] st) (runQ Q E) E0 := by unfold F_states_ahead; exact Z_run rfl
def L1_leads_back (n : Nat) : Rho → M Fl :=
  (sSeq (sIf (eB (eBin eqM (eVar 6) (eVar 1))) (sRet (eC (.bl true))) sNext)
  (sIf (tAndM (eB (eBin (inM false) (eVar 6) (eVar 2))) (eB (eBin (inM true) (eVar 6) (eVar 3)))) (sSeq (sAsg (eC (.bl true)) (gSubM (eVar 3) (eVar 6)))
  (sDrop (eMeth "list" appendM (eVar 4) (aCons (eVar 6) aNil)))) sNext))
def L0_leads_back (n : Nat) : Rho → M Fl :=
  (sSeq (sSet 5 (eMeth "list" popM (eVar 4) aNil))
  (sForA (iAny (eCall (F_ways_on n) (aCons (eBin ixM (eVar 0) (eVar 5)) (aCons (eVar 5) aNil)))) (gN 6) (L1_leads_back n)))
theorem zL0_leads_back {n : Nat} {ρ : Rho} {st : Sto} {Q : Fl → Sto → Prop} {E : Exn → Sto → Prop} : Z (L0_leads_back n ρ st) Q E = Z ((sSeq (sSet 5 (eMeth "list" popM (eVar 4) aNil))   (sForA (iAny (eCall (F_ways_on n) (aCons (eBin ixM (eVar 0) (eVar 5)) (aCons (eVar 5) aNil)))) (gN 6) (L1_leads_back n))) ρ st) Q E := by unfold L0_leads_back; rfl
theorem zL1_leads_back {n : Nat} {ρ : Rho} {st : Sto} {Q : Fl → Sto → Prop} {E : Exn → Sto → Prop} : Z (L1_leads_back n ρ st) Q E = Z ((sSeq (sIf (eB (eBin eqM (eVar 6) (eVar 1))) (sRet (eC (.bl true))) sNext)   (sIf (tAndM (eB (eBin (inM false) (eVar 6) (eVar 2))) (eB (eBin (inM true) (eVar 6) (eVar 3)))) (sSeq (sAsg (eC (.bl true)) (gSubM (eVar 3) (eVar 6)))   (sDrop (eMeth "list" appendM (eVar 4) (aCons (eVar 6) aNil)))) sNext)) ρ st) Q E := by unfold L1_leads_back; rfl
def b_leads_back (n : Nat) : Rho → M Fl :=
  (sSeq (sSet 3 eDct0)
  (sSeq (sSet 4 (eCall mkLstN (aCons (eVar 1) aNil)))
  (sSeq (whileF (eB (eBin neM (eVar 4) (eCall mkLst aNil))) (L0_leads_back n) n)
  (sRet (eC (.bl false))))))
@[irreducible] def F_leads_back (n : Nat) : List PV → M PV := runB (b_leads_back n) 7
theorem z_leads_back {n : Nat} {p0 p1 p2 : PV} {st : Sto} {Q : PV → Sto → Prop} {E : Exn → Sto → Prop} : Z (F_leads_back n [p0, p1, p2] st) Q E = Z (b_leads_back n [some p0, some p1, some p2, none, none, none, none] st) (runQ Q E) E0 := by unfold F_leads_back; exact Z_run rfl
def L1_step_on_a_ring (n : Nat) : Rho → M Fl :=
  (sIf (eB (eCall (F_leads_back n) (aCons (eVar 0) (aCons (eVar 4) (aCons (eVar 3) aNil))))) (sRet (eVar 4)) sNext)
def L0_step_on_a_ring (n : Nat) : Rho → M Fl :=
  (sSeq (sIf (eB (eBin notN (eVar 2) (eC .non))) (sSet 1 (eVar 2)) sNext)
  (sSeq (sSet 3 (eCall dictM (aCons (eLcA lcV (iAny (eVar 1)) (gN 5) tYesM (eCall mkTup (aCons (eVar 5) (aCons (eC (.bl true)) aNil))) [5]) aNil)))
  (sSet 2 (eLcA lcV (iAny (eVar 1)) (gN 5) (eB (eBin neM (eLcA lcV (iAny (eCall (F_ways_on n) (aCons (eBin ixM (eVar 0) (eVar 5)) (aCons (eVar 5) aNil)))) (gN 6) (eB (eBin (inM false) (eVar 6) (eVar 3))) (eVar 6) [6]) (eCall mkLst aNil))) (eVar 5) [5]))))
theorem zL0_step_on_a_ring {n : Nat} {ρ : Rho} {st : Sto} {Q : Fl → Sto → Prop} {E : Exn → Sto → Prop} : Z (L0_step_on_a_ring n ρ st) Q E = Z ((sSeq (sIf (eB (eBin notN (eVar 2) (eC .non))) (sSet 1 (eVar 2)) sNext)   (sSeq (sSet 3 (eCall dictM (aCons (eLcA lcV (iAny (eVar 1)) (gN 5) tYesM (eCall mkTup (aCons (eVar 5) (aCons (eC (.bl true)) aNil))) [5]) aNil)))   (sSet 2 (eLcA lcV (iAny (eVar 1)) (gN 5) (eB (eBin neM (eLcA lcV (iAny (eCall (F_ways_on n) (aCons (eBin ixM (eVar 0) (eVar 5)) (aCons (eVar 5) aNil)))) (gN 6) (eB (eBin (inM false) (eVar 6) (eVar 3))) (eVar 6) [6]) (eCall mkLst aNil))) (eVar 5) [5])))) ρ st) Q E := by unfold L0_step_on_a_ring; rfl
theorem zL1_step_on_a_ring {n : Nat} {ρ : Rho} {st : Sto} {Q : Fl → Sto → Prop} {E : Exn → Sto → Prop} : Z (L1_step_on_a_ring n ρ st) Q E = Z ((sIf (eB (eCall (F_leads_back n) (aCons (eVar 0) (aCons (eVar 4) (aCons (eVar 3) aNil))))) (sRet (eVar 4)) sNext) ρ st) Q E := by unfold L1_step_on_a_ring; rfl
def b_step_on_a_ring (n : Nat) : Rho → M Fl :=
  (sSeq (sSet 1 (eLcA lcV (iAny (eCall (F_steps_come_to n) (aCons (eVar 0) aNil))) (gN 5) (tAndM (eB (eBin neM (eBin ixM (eBin ixM (eVar 0) (eVar 5)) (eC (.int 0))) (eC (.str [116, 105, 99, 107])))) (eB (eBin neM (eBin ixM (eBin ixM (eVar 0) (eVar 5)) (eC (.int 0))) (eC (.str [99, 97, 108, 108]))))) (eVar 5) [5]))
  (sSeq (sSet 2 (eC .non))
  (sSeq (whileF (tOrM (eB (eBin isN (eVar 2) (eC .non))) (eB (eBin ltI (eCall lenM (aCons (eVar 2) aNil)) (eCall lenM (aCons (eVar 1) aNil))))) (L0_step_on_a_ring n) n)
  (sSeq (sForA (iAny (eVar 1)) (gN 4) (L1_step_on_a_ring n))
  (sRet (eC .non))))))
@[irreducible] def F_step_on_a_ring (n : Nat) : List PV → M PV := runB (b_step_on_a_ring n) 7
theorem z_step_on_a_ring {n : Nat} {p0 : PV} {st : Sto} {Q : PV → Sto → Prop} {E : Exn → Sto → Prop} : Z (F_step_on_a_ring n [p0] st) Q E = Z (b_step_on_a_ring n [some p0, none, none, none, none, none, none] st) (runQ Q E) E0 := by unfold F_step_on_a_ring; exact Z_run rfl
def b_is_whole (n : Nat) : Rho → M Fl :=
  (sRet (eAndV (eCall isiM (aCons (eVar 0) (aCons (eC (.ty "int")) aNil))) (eAndV (eNotV (eCall isiM (aCons (eVar 0) (aCons (eC (.ty "bool")) aNil)))) (eChain leI leI (eVar 1) (eVar 0) (eVar 2)))))
@[irreducible] def F_is_whole (n : Nat) : List PV → M PV := runB (b_is_whole n) 3
theorem z_is_whole {n : Nat} {p0 p1 p2 : PV} {st : Sto} {Q : PV → Sto → Prop} {E : Exn → Sto → Prop} : Z (F_is_whole n [p0, p1, p2] st) Q E = Z (b_is_whole n [some p0, some p1, some p2] st) (runQ Q E) E0 := by unfold F_is_whole; exact Z_run rfl
def b_is_word (n : Nat) : Rho → M Fl :=
  (sSeq (sIf (tOrM (tNotM (eB (eCall isiM (aCons (eVar 0) (aCons (eC (.ty "str")) aNil))))) (tOrM (eB (eBin ltI (eCall lenM (aCons (eVar 0) aNil)) (eC (.int 1)))) (eB (eBin gtI (eCall lenM (aCons (eVar 0) aNil)) (eC (.int 8)))))) (sRet (eC (.bl false))) sNext)
  (sRet (eBin eqM (eLcA lcV (iAny (eVar 0)) (gN 1) (eB (eBin (inM true) (eVar 1) (eC (.str [97, 98, 99, 100, 101, 102, 103, 104, 105, 106, 107, 108, 109, 110, 111, 112, 113, 114, 115, 116, 117, 118, 119, 120, 121, 122])))) (eVar 1) [1]) (eCall mkLst aNil))))
@[irreducible] def F_is_word (n : Nat) : List PV → M PV := runB (b_is_word n) 2
theorem z_is_word {n : Nat} {p0 : PV} {st : Sto} {Q : PV → Sto → Prop} {E : Exn → Sto → Prop} : Z (F_is_word n [p0] st) Q E = Z (b_is_word n [some p0, none] st) (runQ Q E) E0 := by unfold F_is_word; exact Z_run rfl
def b_is_kinds (n : Nat) : Rho → M Fl :=
  (sRet (eAndV (eCall isiM (aCons (eVar 0) (aCons (eC (.ty "str")) aNil))) (eAndV (eBin leI (eCall lenM (aCons (eVar 0) aNil)) (eVar 1)) (eBin eqM (eLcA lcV (iAny (eVar 0)) (gN 2) (eB (eBin (inM true) (eVar 2) (eC (.str [110, 114])))) (eVar 2) [2]) (eCall mkLst aNil)))))
@[irreducible] def F_is_kinds (n : Nat) : List PV → M PV := runB (b_is_kinds n) 3
theorem z_is_kinds {n : Nat} {p0 p1 : PV} {st : Sto} {Q : PV → Sto → Prop} {E : Exn → Sto → Prop} : Z (F_is_kinds n [p0, p1] st) Q E = Z (b_is_kinds n [some p0, some p1, none] st) (runQ Q E) E0 := by unfold F_is_kinds; exact Z_run rfl
def b_is_box (n : Nat) : Rho → M Fl :=
  (sRet (eAndV (eCall isiM (aCons (eVar 0) (aCons (eC (.ty "str")) aNil))) (eBin (inM false) (eVar 0) (eC (.tup [.str [110, 48], .str [110, 49], .str [110, 50], .str [110, 51], .str [110, 52], .str [110, 53], .str [110, 54], .str [110, 55], .str [114, 48], .str [114, 49], .str [114, 50], .str [114, 51]])))))
@[irreducible] def F_is_box (n : Nat) : List PV → M PV := runB (b_is_box n) 1
theorem z_is_box {n : Nat} {p0 : PV} {st : Sto} {Q : PV → Sto → Prop} {E : Exn → Sto → Prop} : Z (F_is_box n [p0] st) Q E = Z (b_is_box n [some p0] st) (runQ Q E) E0 := by unfold F_is_box; exact Z_run rfl
def b_is_operand (n : Nat) : Rho → M Fl :=
  (sSeq (sIf (tAndM (eB (eBin eqM (eVar 1) (eC (.str [110])))) (eB (eCall (F_is_whole n) (aCons (eVar 0) (aCons (eUn negV (eC (.int 32768))) (aCons (eC (.int 32767)) aNil)))))) (sRet (eC (.bl true))) sNext)
  (sRet (eAndV (eCall (F_is_box n) (aCons (eVar 0) aNil)) (eBin eqM (eBin ixM (eVar 0) (eC (.int 0))) (eVar 1)))))
@[irreducible] def F_is_operand (n : Nat) : List PV → M PV := runB (b_is_operand n) 2
theorem z_is_operand {n : Nat} {p0 p1 : PV} {st : Sto} {Q : PV → Sto → Prop} {E : Exn → Sto → Prop} : Z (F_is_operand n [p0, p1] st) Q E = Z (b_is_operand n [some p0, some p1] st) (runQ Q E) E0 := by unfold F_is_operand; exact Z_run rfl
def b_is_cell (n : Nat) : Rho → M Fl :=
  (sSeq (sIf (tOrM (tNotM (eB (eCall isiM (aCons (eVar 0) (aCons (eC (.ty "tuple")) aNil))))) (eB (eBin neM (eCall lenM (aCons (eVar 0) aNil)) (eC (.int 2))))) (sRet (eC (.bl false))) sNext)
  (sRet (eAndV (eCall isiM (aCons (eBin ixM (eVar 0) (eC (.int 0))) (aCons (eC (.ty "str")) aNil))) (eAndV (eBin eqM (eBin ixM (eVar 0) (eC (.int 0))) (eVar 1)) (eCall (F_is_whole n) (aCons (eBin ixM (eVar 0) (eC (.int 1))) (aCons (eC (.int 0)) (aCons (eBin subV (eVar 2) (eC (.int 1))) aNil))))))))
@[irreducible] def F_is_cell (n : Nat) : List PV → M PV := runB (b_is_cell n) 3
theorem z_is_cell {n : Nat} {p0 p1 p2 : PV} {st : Sto} {Q : PV → Sto → Prop} {E : Exn → Sto → Prop} : Z (F_is_cell n [p0, p1, p2] st) Q E = Z (b_is_cell n [some p0, some p1, some p2] st) (runQ Q E) E0 := by unfold F_is_cell; exact Z_run rfl
def L0_are_laid (n : Nat) : Rho → M Fl :=
  (sIf (tAndM (tNotM (eB (eCall (F_is_operand n) (aCons (eVar 3) (aCons (eVar 4) aNil))))) (tNotM (eB (eCall (F_is_cell n) (aCons (eVar 3) (aCons (eVar 4) (aCons (eVar 2) aNil))))))) (sRet (eC (.bl false))) sNext)
theorem zL0_are_laid {n : Nat} {ρ : Rho} {st : Sto} {Q : Fl → Sto → Prop} {E : Exn → Sto → Prop} : Z (L0_are_laid n ρ st) Q E = Z ((sIf (tAndM (tNotM (eB (eCall (F_is_operand n) (aCons (eVar 3) (aCons (eVar 4) aNil))))) (tNotM (eB (eCall (F_is_cell n) (aCons (eVar 3) (aCons (eVar 4) (aCons (eVar 2) aNil))))))) (sRet (eC (.bl false))) sNext) ρ st) Q E := by unfold L0_are_laid; rfl
def b_are_laid (n : Nat) : Rho → M Fl :=
  (sSeq (sIf (tOrM (tNotM (eB (eCall isiM (aCons (eVar 0) (aCons (eC (.ty "tuple")) aNil))))) (eB (eBin neM (eCall lenM (aCons (eVar 0) aNil)) (eCall lenM (aCons (eVar 1) aNil))))) (sRet (eC (.bl false))) sNext)
  (sSeq (sFor (iCall zipM (aCons (eVar 0) (aCons (eVar 1) aNil))) (gT 2 (gsCons (gN 3) (gsCons (gN 4) gsNil))) (L0_are_laid n))
  (sRet (eC (.bl true)))))
@[irreducible] def F_are_laid (n : Nat) : List PV → M PV := runB (b_are_laid n) 5
theorem z_are_laid {n : Nat} {p0 p1 p2 : PV} {st : Sto} {Q : PV → Sto → Prop} {E : Exn → Sto → Prop} : Z (F_are_laid n [p0, p1, p2] st) Q E = Z (b_are_laid n [some p0, some p1, some p2, none, none] st) (runQ Q E) E0 := by unfold F_are_laid; exact Z_run rfl
def b_is_operation (n : Nat) : Rho → M Fl :=
  (sSeq (sIf (tOrM (eB (eBin neM (eCall lenM (aCons (eVar 0) aNil)) (eC (.int 3)))) (tOrM (eB (eBin isN (eCall (F_kinds_of n) (aCons (eBin ixM (eVar 0) (eC (.int 0))) aNil)) (eC .non))) (tNotM (eB (eCall isiM (aCons (eBin ixM (eVar 0) (eC (.int 2))) (aCons (eC (.ty "tuple")) aNil))))))) (sRet (eC (.bl false))) sNext)
  (sSeq (sAsg (eCall (F_kinds_of n) (aCons (eBin ixM (eVar 0) (eC (.int 0))) aNil)) (gT 2 (gsCons (gN 1) (gsCons (gN 2) gsNil))))
  (sSeq (sIf (eB (eBin isN (eVar 2) (eC .non))) (sSeq (sSet 2 (eBin mulS (eC (.str [110])) (eCall lenM (aCons (eBin ixM (eVar 0) (eC (.int 2))) aNil))))
  (sIf (eB (eBin gtI (eCall lenM (aCons (eVar 2) aNil)) (eC (.int 8)))) (sRet (eC (.bl false))) sNext)) sNext)
  (sSeq (sIf (tOrM (tNotM (eB (eCall (F_is_box n) (aCons (eBin ixM (eVar 0) (eC (.int 1))) aNil)))) (tOrM (eB (eBin neM (eBin ixM (eBin ixM (eVar 0) (eC (.int 1))) (eC (.int 0))) (eVar 1))) (eB (eBin neM (eCall lenM (aCons (eBin ixM (eVar 0) (eC (.int 2))) aNil)) (eCall lenM (aCons (eVar 2) aNil)))))) (sRet (eC (.bl false))) sNext)
  (sRet (eBin eqM (eLc lcV (iCall zipM (aCons (eBin ixM (eVar 0) (eC (.int 2))) (aCons (eVar 2) aNil))) (gT 2 (gsCons (gN 3) (gsCons (gN 4) gsNil))) (tNotM (eB (eCall (F_is_operand n) (aCons (eVar 3) (aCons (eVar 4) aNil))))) (eVar 3) [3, 4]) (eCall mkLst aNil)))))))
@[irreducible] def F_is_operation (n : Nat) : List PV → M PV := runB (b_is_operation n) 5
theorem z_is_operation {n : Nat} {p0 : PV} {st : Sto} {Q : PV → Sto → Prop} {E : Exn → Sto → Prop} : Z (F_is_operation n [p0] st) Q E = Z (b_is_operation n [some p0, none, none, none, none] st) (runQ Q E) E0 := by unfold F_is_operation; exact Z_run rfl
def b_is_call (n : Nat) : Rho → M Fl :=
  (sSeq (sIf (tOrM (eB (eBin neM (eCall lenM (aCons (eVar 0) aNil)) (eC (.int 4)))) (tNotM (eB (eCall (F_is_whole n) (aCons (eBin ixM (eVar 0) (eC (.int 1))) (aCons (eC (.int 0)) (aCons (eBin subV (eCall lenM (aCons (eVar 2) aNil)) (eC (.int 1))) aNil))))))) (sRet (eC (.bl false))) sNext)
  (sSeq (sSet 3 (eBin ixM (eVar 2) (eBin ixM (eVar 0) (eC (.int 1)))))
  (sSeq (sIf (tOrM (tNotM (eB (eCall (F_are_laid n) (aCons (eBin ixM (eVar 0) (eC (.int 2))) (aCons (eBin ixM (eVar 3) (eC (.int 1))) (aCons (eVar 1) aNil)))))) (tOrM (tNotM (eB (eCall isiM (aCons (eBin ixM (eVar 0) (eC (.int 3))) (aCons (eC (.ty "tuple")) aNil))))) (eB (eBin neM (eCall lenM (aCons (eBin ixM (eVar 0) (eC (.int 3))) aNil)) (eCall lenM (aCons (eBin ixM (eVar 3) (eC (.int 2))) aNil)))))) (sRet (eC (.bl false))) sNext)
  (sSeq (sIf (eB (eBin neM (eLc lcV (iCall zipM (aCons (eBin ixM (eVar 0) (eC (.int 3))) (aCons (eBin ixM (eVar 3) (eC (.int 2))) aNil))) (gT 2 (gsCons (gN 4) (gsCons (gN 5) gsNil))) (tNotM (eB (eCall (F_is_cell n) (aCons (eVar 4) (aCons (eVar 5) (aCons (eVar 1) aNil)))))) (eVar 4) [4, 5]) (eCall mkLst aNil))) (sRet (eC (.bl false))) sNext)
  (sRet (eBin eqM (eUn lenSetM (eLcA lcV (iAny (eBin ixM (eVar 0) (eC (.int 3)))) (gT 2 (gsCons (gN 5) (gsCons (gN 6) gsNil))) tYesM (eVar 6) [5, 6])) (eCall lenM (aCons (eBin ixM (eVar 0) (eC (.int 3))) aNil))))))))
@[irreducible] def F_is_call (n : Nat) : List PV → M PV := runB (b_is_call n) 7
theorem z_is_call {n : Nat} {p0 p1 p2 : PV} {st : Sto} {Q : PV → Sto → Prop} {E : Exn → Sto → Prop} : Z (F_is_call n [p0, p1, p2] st) Q E = Z (b_is_call n [some p0, some p1, some p2, none, none, none, none] st) (runQ Q E) E0 := by unfold F_is_call; exact Z_run rfl
def b_is_step (n : Nat) : Rho → M Fl :=
  (sSeq (sIf (tOrM (tNotM (eB (eCall isiM (aCons (eVar 0) (aCons (eC (.ty "tuple")) aNil))))) (tOrM (eB (eBin ltI (eCall lenM (aCons (eVar 0) aNil)) (eC (.int 1)))) (tNotM (eB (eCall isiM (aCons (eBin ixM (eVar 0) (eC (.int 0))) (aCons (eC (.ty "str")) aNil))))))) (sRet (eC (.bl false))) sNext)
  (sSeq (sSet 3 (eBin ixM (eVar 0) (eC (.int 0))))
  (sSeq (sSet 4 (eBin ixM (eVar 1) (eC (.int 3))))
  (sSeq (sSet 5 (eBin subV (eCall lenM (aCons (eBin ixM (eVar 1) (eC (.int 4))) aNil)) (eC (.int 1))))
  (sSeq (sIf (eB (eBin eqM (eVar 3) (eC (.str [116, 105, 99, 107])))) (sRet (eBin eqM (eCall lenM (aCons (eVar 0) aNil)) (eC (.int 1)))) sNext)
  (sSeq (sIf (eB (eBin eqM (eVar 3) (eC (.str [103, 105, 118, 101])))) (sRet (eAndV (eBin eqM (eCall lenM (aCons (eVar 0) aNil)) (eC (.int 2))) (eCall (F_are_laid n) (aCons (eBin ixM (eVar 0) (eC (.int 1))) (aCons (eBin ixM (eVar 1) (eC (.int 2))) (aCons (eVar 4) aNil)))))) sNext)
  (sSeq (sIf (eB (eBin eqM (eVar 3) (eC (.str [106, 117, 109, 112])))) (sRet (eAndV (eBin eqM (eCall lenM (aCons (eVar 0) aNil)) (eC (.int 2))) (eCall (F_is_whole n) (aCons (eBin ixM (eVar 0) (eC (.int 1))) (aCons (eC (.int 0)) (aCons (eVar 5) aNil)))))) sNext)
  (sSeq (sIf (eB (eBin eqM (eVar 3) (eC (.str [98, 114, 97, 110, 99, 104])))) (sRet (eAndV (eBin eqM (eCall lenM (aCons (eVar 0) aNil)) (eC (.int 3))) (eAndV (eCall (F_is_operand n) (aCons (eBin ixM (eVar 0) (eC (.int 1))) (aCons (eC (.str [110])) aNil))) (eCall (F_is_whole n) (aCons (eBin ixM (eVar 0) (eC (.int 2))) (aCons (eC (.int 0)) (aCons (eVar 5) aNil))))))) sNext)
  (sSeq (sIf (eB (eBin eqM (eVar 3) (eC (.str [110, 101, 101, 100])))) (sRet (eAndV (eBin eqM (eCall lenM (aCons (eVar 0) aNil)) (eC (.int 3))) (eAndV (eCall (F_is_word n) (aCons (eBin ixM (eVar 0) (eC (.int 1))) aNil)) (eCall (F_is_operand n) (aCons (eBin ixM (eVar 0) (eC (.int 2))) (aCons (eC (.str [110])) aNil)))))) sNext)
  (sSeq (sIf (eB (eBin eqM (eVar 3) (eC (.str [108, 111, 97, 100])))) (sRet (eAndV (eBin eqM (eCall lenM (aCons (eVar 0) aNil)) (eC (.int 3))) (eAndV (eCall (F_is_box n) (aCons (eBin ixM (eVar 0) (eC (.int 1))) aNil)) (eCall (F_is_whole n) (aCons (eBin ixM (eVar 0) (eC (.int 2))) (aCons (eC (.int 0)) (aCons (eBin subV (eVar 4) (eC (.int 1))) aNil))))))) sNext)
  (sSeq (sIf (eB (eBin eqM (eVar 3) (eC (.str [115, 116, 111, 114, 101])))) (sRet (eAndV (eBin eqM (eCall lenM (aCons (eVar 0) aNil)) (eC (.int 3))) (eAndV (eCall (F_is_whole n) (aCons (eBin ixM (eVar 0) (eC (.int 1))) (aCons (eC (.int 0)) (aCons (eBin subV (eVar 4) (eC (.int 1))) aNil)))) (eCall (F_is_box n) (aCons (eBin ixM (eVar 0) (eC (.int 2))) aNil))))) sNext)
  (sSeq (sIf (eB (eBin eqM (eVar 3) (eC (.str [99, 97, 108, 108])))) (sRet (eCall (F_is_call n) (aCons (eVar 0) (aCons (eVar 4) (aCons (eVar 2) aNil))))) sNext)
  (sRet (eCall (F_is_operation n) (aCons (eVar 0) aNil)))))))))))))))
@[irreducible] def F_is_step (n : Nat) : List PV → M PV := runB (b_is_step n) 6
theorem z_is_step {n : Nat} {p0 p1 p2 : PV} {st : Sto} {Q : PV → Sto → Prop} {E : Exn → Sto → Prop} : Z (F_is_step n [p0, p1, p2] st) Q E = Z (b_is_step n [some p0, some p1, some p2, none, none, none] st) (runQ Q E) E0 := by unfold F_is_step; exact Z_run rfl
def b_is_function (n : Nat) : Rho → M Fl :=
  (sSeq (sIf (tOrM (tNotM (eB (eCall isiM (aCons (eVar 0) (aCons (eC (.ty "tuple")) aNil))))) (eB (eBin neM (eCall lenM (aCons (eVar 0) aNil)) (eC (.int 5))))) (sRet (eC (.bl false))) sNext)
  (sSeq (sAsg (eVar 0) (gT 5 (gsCons (gN 2) (gsCons (gN 3) (gsCons (gN 4) (gsCons (gN 5) (gsCons (gN 6) gsNil)))))))
  (sSeq (sIf (tOrM (tNotM (eB (eCall (F_is_word n) (aCons (eVar 2) aNil)))) (tOrM (eB (eBin (inM false) (eVar 2) (eVar 1))) (tOrM (tNotM (eB (eCall (F_is_kinds n) (aCons (eVar 3) (aCons (eC (.int 64)) aNil))))) (tNotM (eB (eCall (F_is_kinds n) (aCons (eVar 4) (aCons (eC (.int 4)) aNil)))))))) (sRet (eC (.bl false))) sNext)
  (sRet (eAndV (eCall (F_is_whole n) (aCons (eVar 5) (aCons (eCall lenM (aCons (eVar 3) aNil)) (aCons (eC (.int 10000)) aNil)))) (eAndV (eCall isiM (aCons (eVar 6) (aCons (eC (.ty "tuple")) aNil))) (eChain leI leI (eC (.int 1)) (eCall lenM (aCons (eVar 6) aNil)) (eC (.int 60000)))))))))
@[irreducible] def F_is_function (n : Nat) : List PV → M PV := runB (b_is_function n) 7
theorem z_is_function {n : Nat} {p0 p1 : PV} {st : Sto} {Q : PV → Sto → Prop} {E : Exn → Sto → Prop} : Z (F_is_function n [p0, p1] st) Q E = Z (b_is_function n [some p0, some p1, none, none, none, none, none] st) (runQ Q E) E0 := by unfold F_is_function; exact Z_run rfl
def L0_ask_ways (n : Nat) : Rho → M Fl :=
  (sIf (tOrM (tNotM (eB (eCall (F_reads_well n) (aCons (eBin ixM (eVar 2) (eVar 4)) (aCons (eBin ixM (eVar 3) (eVar 4)) aNil))))) (eB (eBin (inM false) (eCall lenM (aCons (eVar 2) aNil)) (eCall (F_ways_on n) (aCons (eBin ixM (eVar 2) (eVar 4)) (aCons (eVar 4) aNil)))))) sBad sNext)
theorem zL0_ask_ways {n : Nat} {ρ : Rho} {st : Sto} {Q : Fl → Sto → Prop} {E : Exn → Sto → Prop} : Z (L0_ask_ways n ρ st) Q E = Z ((sIf (tOrM (tNotM (eB (eCall (F_reads_well n) (aCons (eBin ixM (eVar 2) (eVar 4)) (aCons (eBin ixM (eVar 3) (eVar 4)) aNil))))) (eB (eBin (inM false) (eCall lenM (aCons (eVar 2) aNil)) (eCall (F_ways_on n) (aCons (eBin ixM (eVar 2) (eVar 4)) (aCons (eVar 4) aNil)))))) sBad sNext) ρ st) Q E := by unfold L0_ask_ways; rfl
def b_ask_ways (n : Nat) : Rho → M Fl :=
  (sSeq (sSet 2 (eBin ixM (eVar 1) (eC (.int 4))))
  (sSeq (sSet 3 (eCall (F_states_ahead n) (aCons (eBin ixM (eVar 1) (eC (.int 1))) (aCons (eVar 2) aNil))))
  (sForA (iAny (eCall sortedM (aCons (eCall listA (aCons (eVar 3) aNil)) aNil))) (gN 4) (L0_ask_ways n))))
@[irreducible] def F_ask_ways (n : Nat) : List PV → M PV := runB (b_ask_ways n) 5
theorem z_ask_ways {n : Nat} {p0 p1 : PV} {st : Sto} {Q : PV → Sto → Prop} {E : Exn → Sto → Prop} : Z (F_ask_ways n [p0, p1] st) Q E = Z (b_ask_ways n [some p0, some p1, none, none, none] st) (runQ Q E) E0 := by unfold F_ask_ways; exact Z_run rfl
def L4_right_code (n : Nat) : Rho → M Fl :=
  (sSeq (sSet 4 (eCall (F_step_on_a_ring n) (aCons (eBin ixM (eVar 3) (eC (.int 4))) aNil)))
  (sIf (eB (eBin notN (eVar 4) (eC .non))) sBad sNext))
def L3_right_code (n : Nat) : Rho → M Fl :=
  (sDrop (eCall (F_ask_ways n) (aCons (eVar 2) (aCons (eVar 3) aNil))))
def L2_right_code (n : Nat) : Rho → M Fl :=
  (sIf (tNotM (eB (eCall (F_is_step n) (aCons (eVar 5) (aCons (eVar 3) (aCons (eVar 0) aNil)))))) sBad sNext)
def L1_right_code (n : Nat) : Rho → M Fl :=
  (sForA (iEnumA (eBin ixM (eVar 3) (eC (.int 4)))) (gT 2 (gsCons (gN 4) (gsCons (gN 5) gsNil))) (L2_right_code n))
def L0_right_code (n : Nat) : Rho → M Fl :=
  (sSeq (sIf (tNotM (eB (eCall (F_is_function n) (aCons (eVar 3) (aCons (eVar 1) aNil))))) sBad sNext)
  (sDrop (eMeth "list" appendM (eVar 1) (aCons (eBin ixM (eVar 3) (eC (.int 0))) aNil))))
theorem zL0_right_code {n : Nat} {ρ : Rho} {st : Sto} {Q : Fl → Sto → Prop} {E : Exn → Sto → Prop} : Z (L0_right_code n ρ st) Q E = Z ((sSeq (sIf (tNotM (eB (eCall (F_is_function n) (aCons (eVar 3) (aCons (eVar 1) aNil))))) sBad sNext)   (sDrop (eMeth "list" appendM (eVar 1) (aCons (eBin ixM (eVar 3) (eC (.int 0))) aNil)))) ρ st) Q E := by unfold L0_right_code; rfl
theorem zL1_right_code {n : Nat} {ρ : Rho} {st : Sto} {Q : Fl → Sto → Prop} {E : Exn → Sto → Prop} : Z (L1_right_code n ρ st) Q E = Z ((sForA (iEnumA (eBin ixM (eVar 3) (eC (.int 4)))) (gT 2 (gsCons (gN 4) (gsCons (gN 5) gsNil))) (L2_right_code n)) ρ st) Q E := by unfold L1_right_code; rfl
theorem zL2_right_code {n : Nat} {ρ : Rho} {st : Sto} {Q : Fl → Sto → Prop} {E : Exn → Sto → Prop} : Z (L2_right_code n ρ st) Q E = Z ((sIf (tNotM (eB (eCall (F_is_step n) (aCons (eVar 5) (aCons (eVar 3) (aCons (eVar 0) aNil)))))) sBad sNext) ρ st) Q E := by unfold L2_right_code; rfl
theorem zL3_right_code {n : Nat} {ρ : Rho} {st : Sto} {Q : Fl → Sto → Prop} {E : Exn → Sto → Prop} : Z (L3_right_code n ρ st) Q E = Z ((sDrop (eCall (F_ask_ways n) (aCons (eVar 2) (aCons (eVar 3) aNil)))) ρ st) Q E := by unfold L3_right_code; rfl
theorem zL4_right_code {n : Nat} {ρ : Rho} {st : Sto} {Q : Fl → Sto → Prop} {E : Exn → Sto → Prop} : Z (L4_right_code n ρ st) Q E = Z ((sSeq (sSet 4 (eCall (F_step_on_a_ring n) (aCons (eBin ixM (eVar 3) (eC (.int 4))) aNil)))   (sIf (eB (eBin notN (eVar 4) (eC .non))) sBad sNext)) ρ st) Q E := by unfold L4_right_code; rfl
def b_right_code (n : Nat) : Rho → M Fl :=
  (sSeq (sIf (tOrM (tNotM (eB (eCall isiM (aCons (eVar 0) (aCons (eC (.ty "tuple")) aNil))))) (tOrM (eB (eBin ltI (eCall lenM (aCons (eVar 0) aNil)) (eC (.int 1)))) (eB (eBin gtI (eCall lenM (aCons (eVar 0) aNil)) (eC (.int 6)))))) sBad sNext)
  (sSeq (sSet 1 (eCall mkLstN aNil))
  (sSeq (sForA (iEnumA (eVar 0)) (gT 2 (gsCons (gN 2) (gsCons (gN 3) gsNil))) (L0_right_code n))
  (sSeq (sForA (iEnumA (eVar 0)) (gT 2 (gsCons (gN 2) (gsCons (gN 3) gsNil))) (L1_right_code n))
  (sSeq (sForA (iEnumA (eVar 0)) (gT 2 (gsCons (gN 2) (gsCons (gN 3) gsNil))) (L3_right_code n))
  (sSeq (sForA (iEnumA (eVar 0)) (gT 2 (gsCons (gN 2) (gsCons (gN 3) gsNil))) (L4_right_code n))
  (sRet (eC (.bl true)))))))))
@[irreducible] def F_right_code (n : Nat) : List PV → M PV := runB (b_right_code n) 6
theorem z_right_code {n : Nat} {p0 : PV} {st : Sto} {Q : PV → Sto → Prop} {E : Exn → Sto → Prop} : Z (F_right_code n [p0] st) Q E = Z (b_right_code n [some p0, none, none, none, none, none] st) (runQ Q E) E0 := by unfold F_right_code; exact Z_run rfl
def L0__law_by (n : Nat) : Rho → M Fl :=
  (sSet 4 (eBin fdivV (eVar 4) (eC (.int 100000))))
theorem zL0__law_by {n : Nat} {ρ : Rho} {st : Sto} {Q : Fl → Sto → Prop} {E : Exn → Sto → Prop} : Z (L0__law_by n ρ st) Q E = Z ((sSet 4 (eBin fdivV (eVar 4) (eC (.int 100000)))) ρ st) Q E := by unfold L0__law_by; rfl
def b__law_by (n : Nat) : Rho → M Fl :=
  (sSeq (sSet 3 (eC (.int 0)))
  (sSeq (sIf (eB (eBin gtI (eCall lenM (aCons (eVar 0) aNil)) (eC (.int 0)))) (sSeq (sSet 3 (eBin ixM (eVar 0) (eBin modV (eVar 1) (eCall lenM (aCons (eVar 0) aNil)))))
  (sSeq (sSet 4 (eVar 3))
  (sIf (tAndM (eB (eBin eqM (eBin modV (eBin ixM (eVar 0) (eC (.int 0))) (eC (.int 2))) (eC (.int 1)))) (eB (eBin ltI (eVar 1) (eBin mulV (eC (.int 60)) (eCall lenM (aCons (eVar 0) aNil)))))) (sSeq (sFor (iCall range1 (aCons (eBin fdivV (eVar 1) (eCall lenM (aCons (eVar 0) aNil))) aNil)) (gN 5) (L0__law_by n))
  (sIf (tOrM (eB (eBin ltI (eVar 1) (eCall lenM (aCons (eVar 0) aNil)))) (tOrM (eB (eBin gtI (eVar 4) (eC (.int 0)))) (eB (eBin ltI (eVar 4) (eUn negV (eC (.int 1))))))) (sRet (eBin modV (eVar 4) (eVar 2))) sNext)) sNext))) sNext)
  (sSeq (sSet 6 (eBin modV (eBin mulV (eBin addV (eBin addV (eBin modV (eVar 3) (eC (.int 999983))) (eBin mulV (eC (.int 17)) (eVar 1))) (eC (.int 5))) (eBin addV (eC (.int 48271)) (eBin mulV (eBin mulV (eC (.int 613)) (eVar 1)) (eVar 1)))) (eC (.int 999983))))
  (sRet (eBin modV (eBin modV (eBin mulV (eVar 6) (eBin addV (eC (.int 16807)) (eBin mulV (eC (.int 271)) (eVar 1)))) (eC (.int 1000003))) (eVar 2))))))
@[irreducible] def F__law_by (n : Nat) : List PV → M PV := runB (b__law_by n) 7
theorem z__law_by {n : Nat} {p0 p1 p2 : PV} {st : Sto} {Q : PV → Sto → Prop} {E : Exn → Sto → Prop} : Z (F__law_by n [p0, p1, p2] st) Q E = Z (b__law_by n [some p0, some p1, some p2, none, none, none, none] st) (runQ Q E) E0 := by unfold F__law_by; exact Z_run rfl
def b__law_steps (n : Nat) : Rho → M Fl :=
  (sSeq (sSet 1 (eCall mkLstN (aCons (eCall mkTup (aCons (eC (.str [108, 111, 97, 100])) (aCons (eC (.str [110, 48])) (aCons (eC (.int 0)) aNil)))) (aCons (eCall mkTup (aCons (eC (.str [98, 114, 97, 110, 99, 104])) (aCons (eC (.str [110, 48])) (aCons (eC (.int 4)) aNil)))) (aCons (eCall mkTup (aCons (eC (.str [108, 111, 97, 100])) (aCons (eC (.str [114, 48])) (aCons (eC (.int 1)) aNil)))) (aCons (eCall mkTup (aCons (eC (.str [103, 105, 118, 101])) (aCons (eCall mkTup (aCons (eVar 0) (aCons (eC (.str [114, 48])) aNil))) aNil))) aNil))))))
  (sSeq (sDrop (eMeth "list" extendM (eVar 1) (aCons (eCall mkLst (aCons (eCall mkTup (aCons (eC (.str [115, 117, 98])) (aCons (eC (.str [110, 49])) (aCons (eCall mkTup (aCons (eC (.str [110, 48])) (aCons (eC (.int 1)) aNil))) aNil)))) (aCons (eCall mkTup (aCons (eC (.str [115, 116, 111, 114, 101])) (aCons (eC (.int 0)) (aCons (eC (.str [110, 49])) aNil)))) aNil))) aNil)))
  (sSeq (sDrop (eMeth "list" appendM (eVar 1) (aCons (eCall mkTup (aCons (eC (.str [99, 97, 108, 108])) (aCons (eC (.int 0)) (aCons (eCall mkTup (aCons (eCall mkTup (aCons (eC (.str [110])) (aCons (eC (.int 0)) aNil))) (aCons (eCall mkTup (aCons (eC (.str [114])) (aCons (eC (.int 1)) aNil))) aNil))) (aCons (eCall mkTup (aCons (eCall mkTup (aCons (eC (.str [110])) (aCons (eC (.int 2)) aNil))) (aCons (eCall mkTup (aCons (eC (.str [114])) (aCons (eC (.int 3)) aNil))) aNil))) aNil))))) aNil)))
  (sSeq (sDrop (eMeth "list" extendM (eVar 1) (aCons (eCall mkLst (aCons (eCall mkTup (aCons (eC (.str [108, 111, 97, 100])) (aCons (eC (.str [110, 50])) (aCons (eC (.int 2)) aNil)))) (aCons (eCall mkTup (aCons (eC (.str [97, 100, 100])) (aCons (eC (.str [110, 50])) (aCons (eCall mkTup (aCons (eC (.str [110, 50])) (aCons (eC (.int 1)) aNil))) aNil)))) (aCons (eCall mkTup (aCons (eC (.str [103, 105, 118, 101])) (aCons (eCall mkTup (aCons (eC (.str [110, 50])) (aCons (eCall mkTup (aCons (eC (.str [114])) (aCons (eC (.int 3)) aNil))) aNil))) aNil))) aNil)))) aNil)))
  (sRet (eCall tupleM (aCons (eVar 1) aNil)))))))
@[irreducible] def F__law_steps (n : Nat) : List PV → M PV := runB (b__law_steps n) 2
theorem z__law_steps {n : Nat} {p0 : PV} {st : Sto} {Q : PV → Sto → Prop} {E : Exn → Sto → Prop} : Z (F__law_steps n [p0] st) Q E = Z (b__law_steps n [some p0, none] st) (runQ Q E) E0 := by unfold F__law_steps; exact Z_run rfl
def b_law (n : Nat) : Rho → M Fl :=
  (sSeq (sSet 1 (eBin subV (eCall (F__law_by n) (aCons (eVar 0) (aCons (eC (.int 1)) (aCons (eC (.int 65536)) aNil)))) (eC (.int 32768))))
  (sSeq (sSet 2 (eCall (F__law_by n) (aCons (eVar 0) (aCons (eC (.int 2)) (aCons (eC (.int 41)) aNil)))))
  (sSeq (sIf (eB (eBin eqM (eCall (F__law_by n) (aCons (eVar 0) (aCons (eC (.int 3)) (aCons (eC (.int 8)) aNil)))) (eC (.int 0)))) (sSet 2 (eBin addV (eC (.int 1100)) (eCall (F__law_by n) (aCons (eVar 0) (aCons (eC (.int 2)) (aCons (eC (.int 256)) aNil)))))) sNext)
  (sSeq (sSet 3 (eBin ixM (eCall mkLst (aCons (eCall maxM (aCons (eC (.int 0)) (aCons (eBin addV (eBin subV (eVar 2) (eC (.int 2))) (eCall (F__law_by n) (aCons (eVar 0) (aCons (eC (.int 4)) (aCons (eC (.int 5)) aNil))))) aNil))) (aCons (eBin powV (eC (.int 10)) (eC (.int 6))) aNil))) (eCall (F__law_by n) (aCons (eVar 0) (aCons (eC (.int 5)) (aCons (eC (.int 2)) aNil))))))
  (sSeq (sSet 4 (eCall tupleM (aCons (eLc lcV (iCall range1 (aCons (eCall (F__law_by n) (aCons (eVar 0) (aCons (eC (.int 7)) (aCons (eC (.int 4)) aNil)))) aNil)) (gN 7) tYesM (eCall (F__law_by n) (aCons (eVar 0) (aCons (eBin addV (eC (.int 6)) (eVar 7)) (aCons (eC (.int 9)) aNil)))) [7]) aNil)))
  (sSeq (sSet 5 (eCall mkTup (aCons (eCall mkTup (aCons (eC (.str [100, 101, 101, 112])) (aCons (eC (.str [110, 114])) (aCons (eC (.str [110, 114])) (aCons (eC (.int 4)) (aCons (eCall (F__law_steps n) (aCons (eVar 1) aNil)) aNil)))))) aNil)))
  (sSeq (sIf (eB (eBin notN (eCall (F_right_code n) (aCons (eVar 5) aNil)) (eC (.bl true)))) (sRet (eC (.bl false))) sNext)
  (sSeq (sSet 6 (eCall mkTup (aCons (eC (.str [100, 114, 121])) aNil)))
  (sSeq (sIf (eB (eBin geI (eVar 3) (eVar 2))) (sSet 6 (eCall mkTup (aCons (eC (.str [98, 97, 99, 107])) (aCons (eCall mkTup (aCons (eBin subV (eBin modV (eBin addV (eBin addV (eVar 1) (eVar 2)) (eC (.int 32768))) (eC (.int 65536))) (eC (.int 32768))) (aCons (eVar 4) aNil))) aNil)))) sNext)
  (sRet (eBin eqM (eCall (F_run_code n) (aCons (eVar 5) (aCons (eC (.int 0)) (aCons (eCall mkTup (aCons (eVar 2) (aCons (eVar 4) aNil))) (aCons (eVar 3) aNil))))) (eVar 6))))))))))))
@[irreducible] def F_law (n : Nat) : List PV → M PV := runB (b_law n) 8
theorem z_law {n : Nat} {p0 : PV} {st : Sto} {Q : PV → Sto → Prop} {E : Exn → Sto → Prop} : Z (F_law n [p0] st) Q E = Z (b_law n [some p0, none, none, none, none, none, none, none] st) (runQ Q E) E0 := by unfold F_law; exact Z_run rfl
end K80

set_option maxRecDepth 100000
namespace K80
open PySem L2 MP
def topS (i : Nat) : Stmt := PySem.Challenge.pw_samepaper_k80_deep_calls.main.body.getD i (.Pass ⟨0, 0, 0, 0⟩)
abbrev s_taken_in : Stmt := topS 5
abbrev s_kinds_of : Stmt := topS 6
abbrev s_divided : Stmt := topS 7
abbrev s_done_sum : Stmt := topS 8
abbrev s_put_at : Stmt := topS 9
abbrev s_done_row : Stmt := topS 10
abbrev s_done : Stmt := topS 11
abbrev s_Engine__begin : Stmt := inClass (topS 13) 1
abbrev s_Engine____init__ : Stmt := inClass (topS 13) 0
abbrev s_Engine__value : Stmt := inClass (topS 13) 2
abbrev s_Engine__call : Stmt := inClass (topS 13) 3
abbrev s_Engine__give : Stmt := inClass (topS 13) 4
abbrev s_Engine__lay_in : Stmt := inClass (topS 13) 5
abbrev s_Engine__go_on : Stmt := inClass (topS 13) 6
abbrev s_run_code : Stmt := topS 14
abbrev s_ways_on : Stmt := topS 19
abbrev s_steps_come_to : Stmt := topS 20
abbrev s_things_read : Stmt := topS 21
abbrev s_laid_behind : Stmt := topS 22
abbrev s_reads_well : Stmt := topS 23
abbrev s_states_ahead : Stmt := topS 24
abbrev s_leads_back : Stmt := topS 26
abbrev s_step_on_a_ring : Stmt := topS 25
abbrev s_is_whole : Stmt := topS 29
abbrev s_is_word : Stmt := topS 30
abbrev s_is_kinds : Stmt := topS 31
abbrev s_is_box : Stmt := topS 32
abbrev s_is_operand : Stmt := topS 33
abbrev s_is_cell : Stmt := topS 34
abbrev s_are_laid : Stmt := topS 35
abbrev s_is_operation : Stmt := topS 36
abbrev s_is_call : Stmt := topS 37
abbrev s_is_step : Stmt := topS 38
abbrev s_is_function : Stmt := topS 39
abbrev s_ask_ways : Stmt := topS 40
abbrev s_right_code : Stmt := topS 41
abbrev s__law_by : Stmt := topS 43
abbrev s__law_steps : Stmt := topS 44
abbrev s_law : Stmt := topS 45
structure Adr where
  a_taken_in : Addr
  d_taken_in : FuncData
  a_kinds_of : Addr
  d_kinds_of : FuncData
  a_divided : Addr
  d_divided : FuncData
  a_done_sum : Addr
  d_done_sum : FuncData
  a_put_at : Addr
  d_put_at : FuncData
  a_done_row : Addr
  d_done_row : FuncData
  a_done : Addr
  d_done : FuncData
  a_Engine__begin : Addr
  d_Engine__begin : FuncData
  a_Engine____init__ : Addr
  d_Engine____init__ : FuncData
  a_Engine__value : Addr
  d_Engine__value : FuncData
  a_Engine__call : Addr
  d_Engine__call : FuncData
  a_Engine__give : Addr
  d_Engine__give : FuncData
  a_Engine__lay_in : Addr
  d_Engine__lay_in : FuncData
  a_Engine__go_on : Addr
  d_Engine__go_on : FuncData
  a_run_code : Addr
  d_run_code : FuncData
  a_ways_on : Addr
  d_ways_on : FuncData
  a_steps_come_to : Addr
  d_steps_come_to : FuncData
  a_things_read : Addr
  d_things_read : FuncData
  a_laid_behind : Addr
  d_laid_behind : FuncData
  a_reads_well : Addr
  d_reads_well : FuncData
  a_states_ahead : Addr
  d_states_ahead : FuncData
  a_leads_back : Addr
  d_leads_back : FuncData
  a_step_on_a_ring : Addr
  d_step_on_a_ring : FuncData
  a_is_whole : Addr
  d_is_whole : FuncData
  a_is_word : Addr
  d_is_word : FuncData
  a_is_kinds : Addr
  d_is_kinds : FuncData
  a_is_box : Addr
  d_is_box : FuncData
  a_is_operand : Addr
  d_is_operand : FuncData
  a_is_cell : Addr
  d_is_cell : FuncData
  a_are_laid : Addr
  d_are_laid : FuncData
  a_is_operation : Addr
  d_is_operation : FuncData
  a_is_call : Addr
  d_is_call : FuncData
  a_is_step : Addr
  d_is_step : FuncData
  a_is_function : Addr
  d_is_function : FuncData
  a_ask_ways : Addr
  d_ask_ways : FuncData
  a_right_code : Addr
  d_right_code : FuncData
  a__law_by : Addr
  d__law_by : FuncData
  a__law_steps : Addr
  d__law_steps : FuncData
  a_law : Addr
  d_law : FuncData
  k_Engine : Addr
structure Txt (w : World) (K : PySem.W.Frag) (mg : Str → Option Value) (A : Adr) : Prop where
  f_taken_in : Fun K "taken_in" "taken_in" s_taken_in A.a_taken_in A.d_taken_in
  m_taken_in : mg "taken_in" = some (.ref A.a_taken_in)
  b_taken_in : Binds K A.d_taken_in ["whole"] []
  f_kinds_of : Fun K "kinds_of" "kinds_of" s_kinds_of A.a_kinds_of A.d_kinds_of
  m_kinds_of : mg "kinds_of" = some (.ref A.a_kinds_of)
  b_kinds_of : Binds K A.d_kinds_of ["op"] []
  f_divided : Fun K "divided" "divided" s_divided A.a_divided A.d_divided
  m_divided : mg "divided" = some (.ref A.a_divided)
  b_divided : Binds K A.d_divided ["one", "other"] []
  f_done_sum : Fun K "done_sum" "done_sum" s_done_sum A.a_done_sum A.d_done_sum
  m_done_sum : mg "done_sum" = some (.ref A.a_done_sum)
  b_done_sum : Binds K A.d_done_sum ["op", "one", "other"] []
  f_put_at : Fun K "put_at" "put_at" s_put_at A.a_put_at A.d_put_at
  m_put_at : mg "put_at" = some (.ref A.a_put_at)
  b_put_at : Binds K A.d_put_at ["row", "place", "number"] []
  f_done_row : Fun K "done_row" "done_row" s_done_row A.a_done_row A.d_done_row
  m_done_row : mg "done_row" = some (.ref A.a_done_row)
  b_done_row : Binds K A.d_done_row ["op", "values"] []
  f_done : Fun K "done" "done" s_done A.a_done A.d_done
  m_done : mg "done" = some (.ref A.a_done)
  b_done : Binds K A.d_done ["op", "values"] []
  f_Engine__begin : Fun K "begin" "Engine.begin" s_Engine__begin A.a_Engine__begin A.d_Engine__begin
  mt_Engine__begin : Meth K A.k_Engine "begin" A.a_Engine__begin
  b_Engine__begin : Binds K A.d_Engine__begin ["self", "function", "values"] []
  f_Engine____init__ : Fun K "__init__" "Engine.__init__" s_Engine____init__ A.a_Engine____init__ A.d_Engine____init__
  mt_Engine____init__ : Meth K A.k_Engine "__init__" A.a_Engine____init__
  b_Engine____init__ : Binds K A.d_Engine____init__ ["self", "code", "function", "values", "bound"] []
  f_Engine__value : Fun K "value" "Engine.value" s_Engine__value A.a_Engine__value A.d_Engine__value
  mt_Engine__value : Meth K A.k_Engine "value" A.a_Engine__value
  b_Engine__value : Binds K A.d_Engine__value ["self", "thing"] []
  f_Engine__call : Fun K "call" "Engine.call" s_Engine__call A.a_Engine__call A.d_Engine__call
  mt_Engine__call : Meth K A.k_Engine "call" A.a_Engine__call
  b_Engine__call : Binds K A.d_Engine__call ["self", "step"] []
  f_Engine__give : Fun K "give" "Engine.give" s_Engine__give A.a_Engine__give A.d_Engine__give
  mt_Engine__give : Meth K A.k_Engine "give" A.a_Engine__give
  b_Engine__give : Binds K A.d_Engine__give ["self", "step"] []
  f_Engine__lay_in : Fun K "lay_in" "Engine.lay_in" s_Engine__lay_in A.a_Engine__lay_in A.d_Engine__lay_in
  mt_Engine__lay_in : Meth K A.k_Engine "lay_in" A.a_Engine__lay_in
  b_Engine__lay_in : Binds K A.d_Engine__lay_in ["self", "step"] []
  f_Engine__go_on : Fun K "go_on" "Engine.go_on" s_Engine__go_on A.a_Engine__go_on A.d_Engine__go_on
  mt_Engine__go_on : Meth K A.k_Engine "go_on" A.a_Engine__go_on
  b_Engine__go_on : Binds K A.d_Engine__go_on ["self"] []
  f_run_code : Fun K "run_code" "run_code" s_run_code A.a_run_code A.d_run_code
  m_run_code : mg "run_code" = some (.ref A.a_run_code)
  b_run_code : Binds K A.d_run_code ["code", "function", "values", "bound"] []
  f_ways_on : Fun K "ways_on" "ways_on" s_ways_on A.a_ways_on A.d_ways_on
  m_ways_on : mg "ways_on" = some (.ref A.a_ways_on)
  b_ways_on : Binds K A.d_ways_on ["step", "at"] []
  f_steps_come_to : Fun K "steps_come_to" "steps_come_to" s_steps_come_to A.a_steps_come_to A.d_steps_come_to
  m_steps_come_to : mg "steps_come_to" = some (.ref A.a_steps_come_to)
  b_steps_come_to : Binds K A.d_steps_come_to ["steps"] []
  f_things_read : Fun K "things_read" "things_read" s_things_read A.a_things_read A.d_things_read
  m_things_read : mg "things_read" = some (.ref A.a_things_read)
  b_things_read : Binds K A.d_things_read ["step"] []
  f_laid_behind : Fun K "laid_behind" "laid_behind" s_laid_behind A.a_laid_behind A.d_laid_behind
  m_laid_behind : mg "laid_behind" = some (.ref A.a_laid_behind)
  b_laid_behind : Binds K A.d_laid_behind ["step", "state"] []
  f_reads_well : Fun K "reads_well" "reads_well" s_reads_well A.a_reads_well A.d_reads_well
  m_reads_well : mg "reads_well" = some (.ref A.a_reads_well)
  b_reads_well : Binds K A.d_reads_well ["step", "state"] []
  f_states_ahead : Fun K "states_ahead" "states_ahead" s_states_ahead A.a_states_ahead A.d_states_ahead
  m_states_ahead : mg "states_ahead" = some (.ref A.a_states_ahead)
  b_states_ahead : Binds K A.d_states_ahead ["takes", "steps"] []
  f_leads_back : Fun K "leads_back" "leads_back" s_leads_back A.a_leads_back A.d_leads_back
  m_leads_back : mg "leads_back" = some (.ref A.a_leads_back)
  b_leads_back : Binds K A.d_leads_back ["steps", "first", "there"] []
  f_step_on_a_ring : Fun K "step_on_a_ring" "step_on_a_ring" s_step_on_a_ring A.a_step_on_a_ring A.d_step_on_a_ring
  m_step_on_a_ring : mg "step_on_a_ring" = some (.ref A.a_step_on_a_ring)
  b_step_on_a_ring : Binds K A.d_step_on_a_ring ["steps"] []
  f_is_whole : Fun K "is_whole" "is_whole" s_is_whole A.a_is_whole A.d_is_whole
  m_is_whole : mg "is_whole" = some (.ref A.a_is_whole)
  b_is_whole : Binds K A.d_is_whole ["thing", "least", "most"] []
  f_is_word : Fun K "is_word" "is_word" s_is_word A.a_is_word A.d_is_word
  m_is_word : mg "is_word" = some (.ref A.a_is_word)
  b_is_word : Binds K A.d_is_word ["thing"] []
  f_is_kinds : Fun K "is_kinds" "is_kinds" s_is_kinds A.a_is_kinds A.d_is_kinds
  m_is_kinds : mg "is_kinds" = some (.ref A.a_is_kinds)
  b_is_kinds : Binds K A.d_is_kinds ["thing", "most"] []
  f_is_box : Fun K "is_box" "is_box" s_is_box A.a_is_box A.d_is_box
  m_is_box : mg "is_box" = some (.ref A.a_is_box)
  b_is_box : Binds K A.d_is_box ["thing"] []
  f_is_operand : Fun K "is_operand" "is_operand" s_is_operand A.a_is_operand A.d_is_operand
  m_is_operand : mg "is_operand" = some (.ref A.a_is_operand)
  b_is_operand : Binds K A.d_is_operand ["thing", "kind"] []
  f_is_cell : Fun K "is_cell" "is_cell" s_is_cell A.a_is_cell A.d_is_cell
  m_is_cell : mg "is_cell" = some (.ref A.a_is_cell)
  b_is_cell : Binds K A.d_is_cell ["thing", "kind", "cells"] []
  f_are_laid : Fun K "are_laid" "are_laid" s_are_laid A.a_are_laid A.d_are_laid
  m_are_laid : mg "are_laid" = some (.ref A.a_are_laid)
  b_are_laid : Binds K A.d_are_laid ["things", "kinds", "cells"] []
  f_is_operation : Fun K "is_operation" "is_operation" s_is_operation A.a_is_operation A.d_is_operation
  m_is_operation : mg "is_operation" = some (.ref A.a_is_operation)
  b_is_operation : Binds K A.d_is_operation ["step"] []
  f_is_call : Fun K "is_call" "is_call" s_is_call A.a_is_call A.d_is_call
  m_is_call : mg "is_call" = some (.ref A.a_is_call)
  b_is_call : Binds K A.d_is_call ["step", "cells", "code"] []
  f_is_step : Fun K "is_step" "is_step" s_is_step A.a_is_step A.d_is_step
  m_is_step : mg "is_step" = some (.ref A.a_is_step)
  b_is_step : Binds K A.d_is_step ["step", "function", "code"] []
  f_is_function : Fun K "is_function" "is_function" s_is_function A.a_is_function A.d_is_function
  m_is_function : mg "is_function" = some (.ref A.a_is_function)
  b_is_function : Binds K A.d_is_function ["function", "words"] []
  f_ask_ways : Fun K "ask_ways" "ask_ways" s_ask_ways A.a_ask_ways A.d_ask_ways
  m_ask_ways : mg "ask_ways" = some (.ref A.a_ask_ways)
  b_ask_ways : Binds K A.d_ask_ways ["number", "function"] []
  f_right_code : Fun K "right_code" "right_code" s_right_code A.a_right_code A.d_right_code
  m_right_code : mg "right_code" = some (.ref A.a_right_code)
  b_right_code : Binds K A.d_right_code ["code"] []
  f__law_by : Fun K "_law_by" "_law_by" s__law_by A.a__law_by A.d__law_by
  m__law_by : mg "_law_by" = some (.ref A.a__law_by)
  b__law_by : Binds K A.d__law_by ["_law_script", "_law_k", "_law_many"] []
  f__law_steps : Fun K "_law_steps" "_law_steps" s__law_steps A.a__law_steps A.d__law_steps
  m__law_steps : mg "_law_steps" = some (.ref A.a__law_steps)
  b__law_steps : Binds K A.d__law_steps ["_law_number"] []
  f_law : Fun K "law" "law" s_law A.a_law A.d_law
  m_law : mg "law" = some (.ref A.a_law)
  b_law : Binds K A.d_law ["_law_script"] []
  m_Engine : mg "Engine" = some (.ref A.k_Engine)
  ci_Engine : ClsIn K "Engine" A.k_Engine
  cl_Engine : Cls K A.k_Engine
  mk_Engine : Mk K A.k_Engine A.a_Engine____init__
  na_Engine_at : NoAttr K A.k_Engine "at"
  na_Engine_base : NoAttr K A.k_Engine "base"
  na_Engine_boxes : NoAttr K A.k_Engine "boxes"
  na_Engine_code : NoAttr K A.k_Engine "code"
  na_Engine_left : NoAttr K A.k_Engine "left"
  na_Engine_memory : NoAttr K A.k_Engine "memory"
  na_Engine_now : NoAttr K A.k_Engine "now"
  na_Engine_waiting : NoAttr K A.k_Engine "waiting"
  c_BOXES : TupleAt K mg "BOXES" [.str [110, 48], .str [110, 49], .str [110, 50], .str [110, 51], .str [110, 52], .str [110, 53], .str [110, 54], .str [110, 55], .str [114, 48], .str [114, 49], .str [114, 50], .str [114, 51]]
  c_LEAST : ∃ t, mg "LEAST" = some (.int (-32768) t)
  c_LONGEST : ∃ t, mg "LONGEST" = some (.int 40 t)
  c_OPERATIONS : TabAt w K mg "OPERATIONS" tab_OPERATIONS
  c_TURN : ∃ t, mg "TURN" = some (.int 65536 t)
  z_int : mg "int" = none
  z_len : mg "len" = none
  z_max : mg "max" = none
  z_min : mg "min" = none
  z_tuple : mg "tuple" = none
  z_list : mg "list" = none
  z_isinstance : mg "isinstance" = none
  z_str : mg "str" = none
  z_zip : mg "zip" = none
  z_sorted : mg "sorted" = none
  z_dict : mg "dict" = none
  z_enumerate : mg "enumerate" = none
  z_bool : mg "bool" = none
  z_set : mg "set" = none
  z_range : mg "range" = none
section
variable {P : Program} {w : World} {K : PySem.W.Frag} {mg : Str → Option Value} {base : Heap} {A : Adr}
theorem sc_taken_in : FnScope ["whole"] ["whole"] (defScope s_taken_in) := ⟨by kernel_rfl, by kernel_rfl, by kernel_rfl, by decide +kernel, by kernel_rfl, by decide +kernel, by decide +kernel⟩
set_option maxHeartbeats 4000000 in
theorem ok_taken_in (T : Txt w K mg A) (n : Nat) : FnOk P w K mg base (L2.CX P w) 1 A.a_taken_in A.d_taken_in ["whole"] (spM ⟨w, K⟩ (F_taken_in n) 1) :=
  def_okF ["whole"] ["whole"] (b_taken_in n) (k := 0) (kk := 1) (nn := 1) (g := F_taken_in n) (by kernel_rfl) (by kernel_rfl) (by kernel_rfl) T.f_taken_in sc_taken_in fun cdv Ar outer s H E hr => by
  have hu := hr.units
  have tk : Takes (cxOf (L2.CX P w) P w K mg base ["whole"] "taken_in" (defScope s_taken_in) A.a_taken_in cdv Ar outer s H E) (fun c d _ H => E c d H) := takes_of rfl rfl rfl rfl
  exact (mss_one (ms_ret (me_add (me_mod (me_sub (me_var 0 (hv := Or.inl (by kernel_rfl))) (me_globI' (gl_of (by kernel_rfl)) T.c_LEAST)) (me_globI' (gl_of (by kernel_rfl)) T.c_TURN)) (me_globI' (gl_of (by kernel_rfl)) T.c_LEAST))))
theorem sc_kinds_of : FnScope ["op"] ["op"] (defScope s_kinds_of) := ⟨by kernel_rfl, by kernel_rfl, by kernel_rfl, by decide +kernel, by kernel_rfl, by decide +kernel, by decide +kernel⟩
set_option maxHeartbeats 4000000 in
theorem ok_kinds_of (T : Txt w K mg A) (n : Nat) : FnOk P w K mg base (L2.CX P w) 1 A.a_kinds_of A.d_kinds_of ["op"] (spM ⟨w, K⟩ (F_kinds_of n) 1) :=
  def_okF ["op"] ["op"] (b_kinds_of n) (k := 0) (kk := 1) (nn := 1) (g := F_kinds_of n) (by kernel_rfl) (by kernel_rfl) (by kernel_rfl) T.f_kinds_of sc_kinds_of fun cdv Ar outer s H E hr => by
  have hu := hr.units
  have tk : Takes (cxOf (L2.CX P w) P w K mg base ["op"] "kinds_of" (defScope s_kinds_of) A.a_kinds_of cdv Ar outer s H E) (fun c d _ H => E c d H) := takes_of rfl rfl rfl rfl
  exact (mss_one (ms_ret (me_getTab T.c_OPERATIONS (me_var 0 (hv := Or.inl (by kernel_rfl))))))
theorem sc_divided : FnScope ["one", "other"] ["one", "other"] (defScope s_divided) := ⟨by kernel_rfl, by kernel_rfl, by kernel_rfl, by decide +kernel, by kernel_rfl, by decide +kernel, by decide +kernel⟩
set_option maxHeartbeats 4000000 in
theorem ok_divided (T : Txt w K mg A) (n : Nat) : FnOk P w K mg base (L2.CX P w) 2 A.a_divided A.d_divided ["one", "other"] (spM ⟨w, K⟩ (F_divided n) 2) :=
  def_okF ["one", "other"] ["one", "other"] (b_divided n) (k := 1) (kk := 2) (nn := 2) (g := F_divided n) (by kernel_rfl) (by kernel_rfl) (by kernel_rfl) T.f_divided sc_divided fun cdv Ar outer s H E hr => by
  have hu := hr.units
  have tk : Takes (cxOf (L2.CX P w) P w K mg base ["one", "other"] "divided" (defScope s_divided) A.a_divided cdv Ar outer s H E) (fun c d _ H => E c d H) := takes_of rfl rfl rfl rfl
  exact (mss_cons (ms_if (mt_eq hr.units (me_var 1 (hv := Or.inl (by kernel_rfl))) me_int) (mss_one (ms_ret me_int)) mss_nil)
  (mss_one (ms_ret (me_call (ok_taken_in T n) (hr.mono (by decide)) (gl_of (by kernel_rfl)) T.m_taken_in T.f_taken_in.kp T.b_taken_in tk (ma_cons (me_fdiv (me_var 0 (hv := Or.inl (by kernel_rfl))) (me_var 1 (hv := Or.inl (by kernel_rfl)))) ma_nil) (aLen_cons aLen_nil)))))
theorem sc_done_sum : FnScope ["op", "one", "other"] ["op", "one", "other"] (defScope s_done_sum) := ⟨by kernel_rfl, by kernel_rfl, by kernel_rfl, by decide +kernel, by kernel_rfl, by decide +kernel, by decide +kernel⟩
set_option maxHeartbeats 4000000 in
theorem ok_done_sum (T : Txt w K mg A) (n : Nat) : FnOk P w K mg base (L2.CX P w) 3 A.a_done_sum A.d_done_sum ["op", "one", "other"] (spM ⟨w, K⟩ (F_done_sum n) 3) :=
  def_okF ["op", "one", "other"] ["op", "one", "other"] (b_done_sum n) (k := 2) (kk := 3) (nn := 3) (g := F_done_sum n) (by kernel_rfl) (by kernel_rfl) (by kernel_rfl) T.f_done_sum sc_done_sum fun cdv Ar outer s H E hr => by
  have hu := hr.units
  have tk : Takes (cxOf (L2.CX P w) P w K mg base ["op", "one", "other"] "done_sum" (defScope s_done_sum) A.a_done_sum cdv Ar outer s H E) (fun c d _ H => E c d H) := takes_of rfl rfl rfl rfl
  exact (mss_cons (ms_if (mt_eq hr.units (me_var 0 (hv := Or.inl (by kernel_rfl))) (me_str [97, 100, 100] (by decide +kernel))) (mss_one (ms_ret (me_call (ok_taken_in T n) (hr.mono (by decide)) (gl_of (by kernel_rfl)) T.m_taken_in T.f_taken_in.kp T.b_taken_in tk (ma_cons (me_add (me_var 1 (hv := Or.inl (by kernel_rfl))) (me_var 2 (hv := Or.inl (by kernel_rfl)))) ma_nil) (aLen_cons aLen_nil)))) mss_nil)
  (mss_cons (ms_if (mt_eq hr.units (me_var 0 (hv := Or.inl (by kernel_rfl))) (me_str [115, 117, 98] (by decide +kernel))) (mss_one (ms_ret (me_call (ok_taken_in T n) (hr.mono (by decide)) (gl_of (by kernel_rfl)) T.m_taken_in T.f_taken_in.kp T.b_taken_in tk (ma_cons (me_sub (me_var 1 (hv := Or.inl (by kernel_rfl))) (me_var 2 (hv := Or.inl (by kernel_rfl)))) ma_nil) (aLen_cons aLen_nil)))) mss_nil)
  (mss_cons (ms_if (mt_eq hr.units (me_var 0 (hv := Or.inl (by kernel_rfl))) (me_str [109, 117, 108] (by decide +kernel))) (mss_one (ms_ret (me_call (ok_taken_in T n) (hr.mono (by decide)) (gl_of (by kernel_rfl)) T.m_taken_in T.f_taken_in.kp T.b_taken_in tk (ma_cons (me_mul (me_var 1 (hv := Or.inl (by kernel_rfl))) (me_var 2 (hv := Or.inl (by kernel_rfl)))) ma_nil) (aLen_cons aLen_nil)))) mss_nil)
  (mss_cons (ms_if (mt_eq hr.units (me_var 0 (hv := Or.inl (by kernel_rfl))) (me_str [100, 105, 118] (by decide +kernel))) (mss_one (ms_ret (me_call (ok_divided T n) (hr.mono (by decide)) (gl_of (by kernel_rfl)) T.m_divided T.f_divided.kp T.b_divided tk (ma_cons (me_var 1 (hv := Or.inl (by kernel_rfl))) (ma_cons (me_var 2 (hv := Or.inl (by kernel_rfl))) ma_nil)) (aLen_cons (aLen_cons aLen_nil))))) mss_nil)
  (mss_cons (ms_if (mt_eq hr.units (me_var 0 (hv := Or.inl (by kernel_rfl))) (me_str [114, 101, 115, 116] (by decide +kernel))) (mss_one (ms_ret (me_call (ok_taken_in T n) (hr.mono (by decide)) (gl_of (by kernel_rfl)) T.m_taken_in T.f_taken_in.kp T.b_taken_in tk (ma_cons (me_sub (me_var 1 (hv := Or.inl (by kernel_rfl))) (me_mul (me_var 2 (hv := Or.inl (by kernel_rfl))) (me_call (ok_divided T n) (hr.mono (by decide)) (gl_of (by kernel_rfl)) T.m_divided T.f_divided.kp T.b_divided tk (ma_cons (me_var 1 (hv := Or.inl (by kernel_rfl))) (ma_cons (me_var 2 (hv := Or.inl (by kernel_rfl))) ma_nil)) (aLen_cons (aLen_cons aLen_nil))))) ma_nil) (aLen_cons aLen_nil)))) mss_nil)
  (mss_cons (ms_if (mt_eq hr.units (me_var 0 (hv := Or.inl (by kernel_rfl))) (me_str [108, 101, 115, 115] (by decide +kernel))) (mss_one (ms_ret (me_intOf (gl_of (by kernel_rfl)) T.z_int (ma_cons (me_lt (me_var 1 (hv := Or.inl (by kernel_rfl))) (me_var 2 (hv := Or.inl (by kernel_rfl)))) ma_nil)))) mss_nil)
  (mss_one (ms_ret (me_intOf (gl_of (by kernel_rfl)) T.z_int (ma_cons (me_eq hr.units (me_var 1 (hv := Or.inl (by kernel_rfl))) (me_var 2 (hv := Or.inl (by kernel_rfl)))) ma_nil))))))))))
theorem sc_put_at : FnScope ["row", "place", "number"] ["row", "place", "number"] (defScope s_put_at) := ⟨by kernel_rfl, by kernel_rfl, by kernel_rfl, by decide +kernel, by kernel_rfl, by decide +kernel, by decide +kernel⟩
set_option maxHeartbeats 4000000 in
theorem ok_put_at (T : Txt w K mg A) (n : Nat) : FnOk P w K mg base (L2.CX P w) 1 A.a_put_at A.d_put_at ["row", "place", "number"] (spM ⟨w, K⟩ (F_put_at n) 3) :=
  def_okF ["row", "place", "number"] ["row", "place", "number"] (b_put_at n) (k := 0) (kk := 3) (nn := 3) (g := F_put_at n) (by kernel_rfl) (by kernel_rfl) (by kernel_rfl) T.f_put_at sc_put_at fun cdv Ar outer s H E hr => by
  have hu := hr.units
  have tk : Takes (cxOf (L2.CX P w) P w K mg base ["row", "place", "number"] "put_at" (defScope s_put_at) A.a_put_at cdv Ar outer s H E) (fun c d _ H => E c d H) := takes_of rfl rfl rfl rfl
  exact (mss_cons (ms_if (mt_of (mw_or (mt_lt (me_var 1 (hv := Or.inl (by kernel_rfl))) me_int) (mw_or1 (mt_ge (me_var 1 (hv := Or.inl (by kernel_rfl))) (me_len (gl_of (by kernel_rfl)) T.z_len (ma_cons (me_var 0 (hv := Or.inl (by kernel_rfl))) ma_nil)))))) (mss_one (ms_ret (me_var 0 (hv := Or.inl (by kernel_rfl))))) mss_nil)
  (mss_one (ms_ret (me_add (me_add (me_slice (me_var 0 (hv := Or.inl (by kernel_rfl))) mo_none (mo_some (me_var 1 (hv := Or.inl (by kernel_rfl))))) (me_tup (ma_cons (me_var 2 (hv := Or.inl (by kernel_rfl))) ma_nil))) (me_slice (me_var 0 (hv := Or.inl (by kernel_rfl))) (mo_some (me_add (me_var 1 (hv := Or.inl (by kernel_rfl))) me_int)) mo_none)))))
theorem sc_done_row : FnScope ["op", "values", "inside"] ["op", "values"] (defScope s_done_row) := ⟨by kernel_rfl, by kernel_rfl, by kernel_rfl, by decide +kernel, by kernel_rfl, by decide +kernel, by decide +kernel⟩
set_option maxHeartbeats 4000000 in
theorem ok_done_row (T : Txt w K mg A) (n : Nat) : FnOk P w K mg base (L2.CX P w) 2 A.a_done_row A.d_done_row ["op", "values"] (spM ⟨w, K⟩ (F_done_row n) 2) :=
  def_okF ["op", "values", "inside"] ["op", "values"] (b_done_row n) (k := 1) (kk := 3) (nn := 2) (g := F_done_row n) (by kernel_rfl) (by kernel_rfl) (by kernel_rfl) T.f_done_row sc_done_row fun cdv Ar outer s H E hr => by
  have hu := hr.units
  have tk : Takes (cxOf (L2.CX P w) P w K mg base ["op", "values", "inside"] "done_row" (defScope s_done_row) A.a_done_row cdv Ar outer s H E) (fun c d _ H => E c d H) := takes_of rfl rfl rfl rfl
  exact (mss_cons (ms_if (mt_eq hr.units (me_var 0 (hv := Or.inl (by kernel_rfl))) (me_str [97, 116] (by decide +kernel))) (mss_cons (ms_s (i := 2) (hx := Or.inl (by kernel_rfl)) (hf := Or.inr (by kernel_rfl)) sc_done_row.nd (me_chain op_le (t_cmpI _) op_lt (t_cmpI _) me_int (me_sub_ix hu (me_var 1 (hv := Or.inl (by kernel_rfl))) me_int (fun _ _ => by kernel_rfl)) (me_len (gl_of (by kernel_rfl)) T.z_len (ma_cons (me_sub_ix hu (me_var 1 (hv := Or.inl (by kernel_rfl))) me_int (fun _ _ => by kernel_rfl)) ma_nil))))
  (mss_one (ms_ret (me_ifExp (mt_val (me_var 2 (hv := Or.inl (by kernel_rfl)))) (me_sub_ix hu (me_sub_ix hu (me_var 1 (hv := Or.inl (by kernel_rfl))) me_int (fun _ _ => by kernel_rfl)) (me_sub_ix hu (me_var 1 (hv := Or.inl (by kernel_rfl))) me_int (fun _ _ => by kernel_rfl)) (fun _ _ => by kernel_rfl)) me_int)))) mss_nil)
  (mss_cons (ms_if (mt_eq hr.units (me_var 0 (hv := Or.inl (by kernel_rfl))) (me_str [115, 105, 122, 101] (by decide +kernel))) (mss_one (ms_ret (me_len (gl_of (by kernel_rfl)) T.z_len (ma_cons (me_sub_ix hu (me_var 1 (hv := Or.inl (by kernel_rfl))) me_int (fun _ _ => by kernel_rfl)) ma_nil)))) mss_nil)
  (mss_cons (ms_if (mt_eq hr.units (me_var 0 (hv := Or.inl (by kernel_rfl))) (me_str [112, 117, 116] (by decide +kernel))) (mss_one (ms_ret (me_call (ok_put_at T n) (hr.mono (by decide)) (gl_of (by kernel_rfl)) T.m_put_at T.f_put_at.kp T.b_put_at tk (ma_cons (me_sub_ix hu (me_var 1 (hv := Or.inl (by kernel_rfl))) me_int (fun _ _ => by kernel_rfl)) (ma_cons (me_sub_ix hu (me_var 1 (hv := Or.inl (by kernel_rfl))) me_int (fun _ _ => by kernel_rfl)) (ma_cons (me_sub_ix hu (me_var 1 (hv := Or.inl (by kernel_rfl))) me_int (fun _ _ => by kernel_rfl)) ma_nil))) (aLen_cons (aLen_cons (aLen_cons aLen_nil)))))) mss_nil)
  (mss_cons (ms_if (mt_eq hr.units (me_var 0 (hv := Or.inl (by kernel_rfl))) (me_str [109, 97, 110, 121] (by decide +kernel))) (mss_one (ms_ret (me_mul (me_tup (ma_cons (me_sub_ix hu (me_var 1 (hv := Or.inl (by kernel_rfl))) me_int (fun _ _ => by kernel_rfl)) ma_nil)) (me_max2 rfl (gl_of (by kernel_rfl)) T.z_max (ma_cons me_int (ma_cons (me_min2 rfl (gl_of (by kernel_rfl)) T.z_min (ma_cons (me_globI' (gl_of (by kernel_rfl)) T.c_LONGEST) (ma_cons (me_sub_ix hu (me_var 1 (hv := Or.inl (by kernel_rfl))) me_int (fun _ _ => by kernel_rfl)) ma_nil))) ma_nil)))))) mss_nil)
  (mss_one (ms_ret (me_tupleOf (gl_of (by kernel_rfl)) T.z_tuple (ma_cons (me_var 1 (hv := Or.inl (by kernel_rfl))) ma_nil))))))))
theorem sc_done : FnScope ["op", "values"] ["op", "values"] (defScope s_done) := ⟨by kernel_rfl, by kernel_rfl, by kernel_rfl, by decide +kernel, by kernel_rfl, by decide +kernel, by decide +kernel⟩
set_option maxHeartbeats 4000000 in
theorem ok_done (T : Txt w K mg A) (n : Nat) : FnOk P w K mg base (L2.CX P w) 4 A.a_done A.d_done ["op", "values"] (spM ⟨w, K⟩ (F_done n) 2) :=
  def_okF ["op", "values"] ["op", "values"] (b_done n) (k := 3) (kk := 2) (nn := 2) (g := F_done n) (by kernel_rfl) (by kernel_rfl) (by kernel_rfl) T.f_done sc_done fun cdv Ar outer s H E hr => by
  have hu := hr.units
  have tk : Takes (cxOf (L2.CX P w) P w K mg base ["op", "values"] "done" (defScope s_done) A.a_done cdv Ar outer s H E) (fun c d _ H => E c d H) := takes_of rfl rfl rfl rfl
  exact (mss_cons (ms_if (mt_of (mw_or (mt_eq hr.units (me_var 0 (hv := Or.inl (by kernel_rfl))) (me_str [99, 111, 112, 121] (by decide +kernel))) (mw_or1 (mt_eq hr.units (me_var 0 (hv := Or.inl (by kernel_rfl))) (me_str [107, 101, 101, 112] (by decide +kernel)))))) (mss_one (ms_ret (me_sub_ix hu (me_var 1 (hv := Or.inl (by kernel_rfl))) me_int (fun _ _ => by kernel_rfl)))) mss_nil)
  (mss_cons (ms_if (mt_eq hr.units (me_var 0 (hv := Or.inl (by kernel_rfl))) (me_str [112, 105, 99, 107] (by decide +kernel))) (mss_one (ms_ret (me_ifExp (mt_ne hr.units (me_sub_ix hu (me_var 1 (hv := Or.inl (by kernel_rfl))) me_int (fun _ _ => by kernel_rfl)) me_int) (me_sub_ix hu (me_var 1 (hv := Or.inl (by kernel_rfl))) me_int (fun _ _ => by kernel_rfl)) (me_sub_ix hu (me_var 1 (hv := Or.inl (by kernel_rfl))) me_int (fun _ _ => by kernel_rfl))))) mss_nil)
  (mss_cons (ms_if (mt_in hu (me_var 0 (hv := Or.inl (by kernel_rfl))) (me_tup (ma_cons (me_str [97, 116] (by decide +kernel)) (ma_cons (me_str [115, 105, 122, 101] (by decide +kernel)) (ma_cons (me_str [112, 117, 116] (by decide +kernel)) (ma_cons (me_str [109, 97, 110, 121] (by decide +kernel)) (ma_cons (me_str [109, 97, 107, 101] (by decide +kernel)) ma_nil)))))) (by kernel_rfl)) (mss_one (ms_ret (me_call (ok_done_row T n) (hr.mono (by decide)) (gl_of (by kernel_rfl)) T.m_done_row T.f_done_row.kp T.b_done_row tk (ma_cons (me_var 0 (hv := Or.inl (by kernel_rfl))) (ma_cons (me_var 1 (hv := Or.inl (by kernel_rfl))) ma_nil)) (aLen_cons (aLen_cons aLen_nil))))) mss_nil)
  (mss_one (ms_ret (me_call (ok_done_sum T n) (hr.mono (by decide)) (gl_of (by kernel_rfl)) T.m_done_sum T.f_done_sum.kp T.b_done_sum tk (ma_cons (me_var 0 (hv := Or.inl (by kernel_rfl))) (ma_cons (me_sub_ix hu (me_var 1 (hv := Or.inl (by kernel_rfl))) me_int (fun _ _ => by kernel_rfl)) (ma_cons (me_sub_ix hu (me_var 1 (hv := Or.inl (by kernel_rfl))) me_int (fun _ _ => by kernel_rfl)) ma_nil))) (aLen_cons (aLen_cons (aLen_cons aLen_nil)))))))))
theorem sc_Engine__begin : FnScope ["self", "function", "values"] ["self", "function", "values"] (defScope s_Engine__begin) := ⟨by kernel_rfl, by kernel_rfl, by kernel_rfl, by decide +kernel, by kernel_rfl, by decide +kernel, by decide +kernel⟩
set_option maxHeartbeats 4000000 in
theorem ok_Engine__begin (T : Txt w K mg A) (n : Nat) : FnOk P w K mg base (L2.CX P w) 1 A.a_Engine__begin A.d_Engine__begin ["self", "function", "values"] (spM ⟨w, K⟩ (F_Engine__begin n) 3) :=
  def_okF ["self", "function", "values"] ["self", "function", "values"] (b_Engine__begin n) (k := 0) (kk := 3) (nn := 3) (g := F_Engine__begin n) (by kernel_rfl) (by kernel_rfl) (by kernel_rfl) T.f_Engine__begin sc_Engine__begin fun cdv Ar outer s H E hr => by
  have hu := hr.units
  have tk : Takes (cxOf (L2.CX P w) P w K mg base ["self", "function", "values"] "Engine.begin" (defScope s_Engine__begin) A.a_Engine__begin cdv Ar outer s H E) (fun c d _ H => E c d H) := takes_of rfl rfl rfl rfl
  exact (mss_cons (ms_attr (f := "base") (attr_ok1 T.ci_Engine T.cl_Engine T.na_Engine_base) (me_var 0 (hv := Or.inl (by kernel_rfl))) (me_len (gl_of (by kernel_rfl)) T.z_len (ma_cons (me_attr (f := "memory") (attr_ok1 T.ci_Engine T.cl_Engine T.na_Engine_memory) (me_var 0 (hv := Or.inl (by kernel_rfl)))) ma_nil)))
  (mss_cons (ms_expr (me_extend (me_attr (f := "memory") (attr_ok1 T.ci_Engine T.cl_Engine T.na_Engine_memory) (me_var 0 (hv := Or.inl (by kernel_rfl)))) (ma_cons (me_add (me_var 2 (hv := Or.inl (by kernel_rfl))) (me_mulL (me_lst (ma_cons me_int ma_nil)) (me_sub (me_sub_ix hu (me_sub_ix hu (me_attr (f := "code") (attr_ok1 T.ci_Engine T.cl_Engine T.na_Engine_code) (me_var 0 (hv := Or.inl (by kernel_rfl)))) (me_var 1 (hv := Or.inl (by kernel_rfl))) (fun _ _ => by kernel_rfl)) me_int (fun _ _ => by kernel_rfl)) (me_len (gl_of (by kernel_rfl)) T.z_len (ma_cons (me_var 2 (hv := Or.inl (by kernel_rfl))) ma_nil))))) ma_nil)))
  (mss_cons (ms_attr (f := "now") (attr_ok1 T.ci_Engine T.cl_Engine T.na_Engine_now) (me_var 0 (hv := Or.inl (by kernel_rfl))) (me_var 1 (hv := Or.inl (by kernel_rfl))))
  (mss_one (ms_attr (f := "at") (attr_ok1 T.ci_Engine T.cl_Engine T.na_Engine_at) (me_var 0 (hv := Or.inl (by kernel_rfl))) me_int)))))
theorem sc_Engine____init__ : FnScope ["self", "code", "function", "values", "bound"] ["self", "code", "function", "values", "bound"] (defScope s_Engine____init__) := ⟨by kernel_rfl, by kernel_rfl, by kernel_rfl, by decide +kernel, by kernel_rfl, by decide +kernel, by decide +kernel⟩
set_option maxHeartbeats 4000000 in
theorem ok_Engine____init__ (T : Txt w K mg A) (n : Nat) : FnOk P w K mg base (L2.CX P w) 2 A.a_Engine____init__ A.d_Engine____init__ ["self", "code", "function", "values", "bound"] (spM ⟨w, K⟩ (F_Engine____init__ n) 5) :=
  def_okF ["self", "code", "function", "values", "bound"] ["self", "code", "function", "values", "bound"] (b_Engine____init__ n) (k := 1) (kk := 5) (nn := 5) (g := F_Engine____init__ n) (by kernel_rfl) (by kernel_rfl) (by kernel_rfl) T.f_Engine____init__ sc_Engine____init__ fun cdv Ar outer s H E hr => by
  have hu := hr.units
  have tk : Takes (cxOf (L2.CX P w) P w K mg base ["self", "code", "function", "values", "bound"] "Engine.__init__" (defScope s_Engine____init__) A.a_Engine____init__ cdv Ar outer s H E) (fun c d _ H => E c d H) := takes_of rfl rfl rfl rfl
  exact (mss_cons (ms_attr (f := "code") (attr_ok1 T.ci_Engine T.cl_Engine T.na_Engine_code) (me_var 0 (hv := Or.inl (by kernel_rfl))) (me_var 1 (hv := Or.inl (by kernel_rfl))))
  (mss_cons (ms_attr (f := "boxes") (attr_ok1 T.ci_Engine T.cl_Engine T.na_Engine_boxes) (me_var 0 (hv := Or.inl (by kernel_rfl))) me_dict0)
  (mss_cons (ms_attr (f := "left") (attr_ok1 T.ci_Engine T.cl_Engine T.na_Engine_left) (me_var 0 (hv := Or.inl (by kernel_rfl))) (me_var 4 (hv := Or.inl (by kernel_rfl))))
  (mss_cons (ms_attr (f := "waiting") (attr_ok1 T.ci_Engine T.cl_Engine T.na_Engine_waiting) (me_var 0 (hv := Or.inl (by kernel_rfl))) (me_lstN ma_nil))
  (mss_cons (ms_attr (f := "memory") (attr_ok1 T.ci_Engine T.cl_Engine T.na_Engine_memory) (me_var 0 (hv := Or.inl (by kernel_rfl))) (me_lstN ma_nil))
  (mss_cons (ms_attr (f := "base") (attr_ok1 T.ci_Engine T.cl_Engine T.na_Engine_base) (me_var 0 (hv := Or.inl (by kernel_rfl))) me_int)
  (mss_cons (ms_attr (f := "now") (attr_ok1 T.ci_Engine T.cl_Engine T.na_Engine_now) (me_var 0 (hv := Or.inl (by kernel_rfl))) (me_var 2 (hv := Or.inl (by kernel_rfl))))
  (mss_cons (ms_attr (f := "at") (attr_ok1 T.ci_Engine T.cl_Engine T.na_Engine_at) (me_var 0 (hv := Or.inl (by kernel_rfl))) me_int)
  (mss_one (ms_expr (me_mth (c := "Engine") (m := "begin") T.cl_Engine T.ci_Engine T.mt_Engine__begin (ok_Engine__begin T n) (hr.mono (by decide)) T.b_Engine__begin tk (me_var 0 (hv := Or.inl (by kernel_rfl))) (ma_cons (me_var 2 (hv := Or.inl (by kernel_rfl))) (ma_cons (me_listA rfl (gl_of (by kernel_rfl)) T.z_list (ma_cons (me_var 3 (hv := Or.inl (by kernel_rfl))) ma_nil)) ma_nil)) (aLen_cons (aLen_cons aLen_nil)))))))))))))
theorem sc_Engine__value : FnScope ["self", "thing"] ["self", "thing"] (defScope s_Engine__value) := ⟨by kernel_rfl, by kernel_rfl, by kernel_rfl, by decide +kernel, by kernel_rfl, by decide +kernel, by decide +kernel⟩
set_option maxHeartbeats 4000000 in
theorem ok_Engine__value (T : Txt w K mg A) (n : Nat) : FnOk P w K mg base (L2.CX P w) 1 A.a_Engine__value A.d_Engine__value ["self", "thing"] (spM ⟨w, K⟩ (F_Engine__value n) 2) :=
  def_okF ["self", "thing"] ["self", "thing"] (b_Engine__value n) (k := 0) (kk := 2) (nn := 2) (g := F_Engine__value n) (by kernel_rfl) (by kernel_rfl) (by kernel_rfl) T.f_Engine__value sc_Engine__value fun cdv Ar outer s H E hr => by
  have hu := hr.units
  have tk : Takes (cxOf (L2.CX P w) P w K mg base ["self", "thing"] "Engine.value" (defScope s_Engine__value) A.a_Engine__value cdv Ar outer s H E) (fun c d _ H => E c d H) := takes_of rfl rfl rfl rfl
  exact (mss_cons (ms_if (mt_val (me_isinst (gl_of (by kernel_rfl)) T.z_isinstance (ma_cons (me_var 1 (hv := Or.inl (by kernel_rfl))) (ma_cons (me_ty (gl_of (by kernel_rfl)) T.z_str (by decide +kernel)) ma_nil)))) (mss_one (ms_ret (me_sub_ix hu (me_attr (f := "boxes") (attr_ok1 T.ci_Engine T.cl_Engine T.na_Engine_boxes) (me_var 0 (hv := Or.inl (by kernel_rfl)))) (me_var 1 (hv := Or.inl (by kernel_rfl))) (fun _ _ => by kernel_rfl)))) mss_nil)
  (mss_cons (ms_if (mt_val (me_isinst (gl_of (by kernel_rfl)) T.z_isinstance (ma_cons (me_var 1 (hv := Or.inl (by kernel_rfl))) (ma_cons (me_ty (gl_of (by kernel_rfl)) T.z_tuple (by decide +kernel)) ma_nil)))) (mss_one (ms_ret (me_sub_ix hu (me_attr (f := "memory") (attr_ok1 T.ci_Engine T.cl_Engine T.na_Engine_memory) (me_var 0 (hv := Or.inl (by kernel_rfl)))) (me_add (me_attr (f := "base") (attr_ok1 T.ci_Engine T.cl_Engine T.na_Engine_base) (me_var 0 (hv := Or.inl (by kernel_rfl)))) (me_sub_ix hu (me_var 1 (hv := Or.inl (by kernel_rfl))) me_int (fun _ _ => by kernel_rfl))) (fun _ _ => by kernel_rfl)))) mss_nil)
  (mss_one (ms_ret (me_var 1 (hv := Or.inl (by kernel_rfl)))))))
theorem sc_Engine__call : FnScope ["self", "step", "values", "thing"] ["self", "step"] (defScope s_Engine__call) := ⟨by kernel_rfl, by kernel_rfl, by kernel_rfl, by decide +kernel, by kernel_rfl, by decide +kernel, by decide +kernel⟩
set_option maxHeartbeats 4000000 in
theorem ok_Engine__call (T : Txt w K mg A) (n : Nat) : FnOk P w K mg base (L2.CX P w) 2 A.a_Engine__call A.d_Engine__call ["self", "step"] (spM ⟨w, K⟩ (F_Engine__call n) 2) :=
  def_okF ["self", "step", "values", "thing"] ["self", "step"] (b_Engine__call n) (k := 1) (kk := 4) (nn := 2) (g := F_Engine__call n) (by kernel_rfl) (by kernel_rfl) (by kernel_rfl) T.f_Engine__call sc_Engine__call fun cdv Ar outer s H E hr => by
  have hu := hr.units
  have tk : Takes (cxOf (L2.CX P w) P w K mg base ["self", "step", "values", "thing"] "Engine.call" (defScope s_Engine__call) A.a_Engine__call cdv Ar outer s H E) (fun c d _ H => E c d H) := takes_of rfl rfl rfl rfl
  exact (mss_cons (ms_if (mt_eq hr.units (me_attr (f := "left") (attr_ok1 T.ci_Engine T.cl_Engine T.na_Engine_left) (me_var 0 (hv := Or.inr (Or.inl (by kernel_rfl))))) me_int) (mss_one (ms_ret (me_tup (ma_cons (me_str [100, 114, 121] (by decide +kernel)) ma_nil)))) mss_nil)
  (mss_cons (ms_attr (f := "left") (attr_ok1 T.ci_Engine T.cl_Engine T.na_Engine_left) (me_var 0 (hv := Or.inr (Or.inl (by kernel_rfl)))) (me_sub (me_attr (f := "left") (attr_ok1 T.ci_Engine T.cl_Engine T.na_Engine_left) (me_var 0 (hv := Or.inr (Or.inl (by kernel_rfl))))) me_int))
  (mss_cons (ms_setLcA (i := 2) (own := [("thing", 3)]) rfl sc_Engine__call.nd rfl rfl (sw_true rfl rfl rfl (by decide +kernel)) (mig_any (me_sub_ix hu (me_var 1 (hv := Or.inl (by kernel_rfl))) me_int (fun _ _ => by kernel_rfl))) (blkOk_by (by kernel_rfl)) (tgo_name (by decide)) lcV_end (fun _ _ _ _ _ => (pg_n (i := 3) (hx := Or.inl (by kernel_rfl)) (hf := Or.inr (by kernel_rfl)) sc_Engine__call.nd)) (fun _ _ _ _ _ => mts_nil) (fun _ _ _ _ _ => (me_mth (c := "Engine") (m := "value") T.cl_Engine T.ci_Engine T.mt_Engine__value (ok_Engine__value T n) (hr.mono (by decide)) T.b_Engine__value takes0 (me_var 0 (hv := Or.inr (Or.inl (by kernel_rfl)))) (ma_cons (me_var 3 (hv := Or.inl (by kernel_rfl))) ma_nil) (aLen_cons aLen_nil))))
  (mss_cons (ms_expr (me_append (me_attr (f := "waiting") (attr_ok1 T.ci_Engine T.cl_Engine T.na_Engine_waiting) (me_var 0 (hv := Or.inr (Or.inl (by kernel_rfl))))) (ma_cons (me_tup (ma_cons (me_attr (f := "now") (attr_ok1 T.ci_Engine T.cl_Engine T.na_Engine_now) (me_var 0 (hv := Or.inr (Or.inl (by kernel_rfl))))) (ma_cons (me_attr (f := "at") (attr_ok1 T.ci_Engine T.cl_Engine T.na_Engine_at) (me_var 0 (hv := Or.inr (Or.inl (by kernel_rfl))))) (ma_cons (me_attr (f := "base") (attr_ok1 T.ci_Engine T.cl_Engine T.na_Engine_base) (me_var 0 (hv := Or.inr (Or.inl (by kernel_rfl))))) (ma_cons (me_sub_ix hu (me_var 1 (hv := Or.inl (by kernel_rfl))) me_int (fun _ _ => by kernel_rfl)) ma_nil))))) ma_nil)))
  (mss_cons (ms_expr (me_mth (c := "Engine") (m := "begin") T.cl_Engine T.ci_Engine T.mt_Engine__begin (ok_Engine__begin T n) (hr.mono (by decide)) T.b_Engine__begin tk (me_var 0 (hv := Or.inr (Or.inl (by kernel_rfl)))) (ma_cons (me_sub_ix hu (me_var 1 (hv := Or.inl (by kernel_rfl))) me_int (fun _ _ => by kernel_rfl)) (ma_cons (me_var 2 (hv := Or.inl (by kernel_rfl))) ma_nil)) (aLen_cons (aLen_cons aLen_nil))))
  (mss_one (ms_ret me_non)))))))
theorem sc_Engine__give : FnScope ["self", "step", "values", "cells", "cell", "value", "thing"] ["self", "step"] (defScope s_Engine__give) := ⟨by kernel_rfl, by kernel_rfl, by kernel_rfl, by decide +kernel, by kernel_rfl, by decide +kernel, by decide +kernel⟩
set_option maxHeartbeats 4000000 in
theorem ok_Engine__give (T : Txt w K mg A) (n : Nat) : FnOk P w K mg base (L2.CX P w) 2 A.a_Engine__give A.d_Engine__give ["self", "step"] (spM ⟨w, K⟩ (F_Engine__give n) 2) :=
  def_okF ["self", "step", "values", "cells", "cell", "value", "thing"] ["self", "step"] (b_Engine__give n) (k := 1) (kk := 7) (nn := 2) (g := F_Engine__give n) (by kernel_rfl) (by kernel_rfl) (by kernel_rfl) T.f_Engine__give sc_Engine__give fun cdv Ar outer s H E hr => by
  have hu := hr.units
  have tk : Takes (cxOf (L2.CX P w) P w K mg base ["self", "step", "values", "cells", "cell", "value", "thing"] "Engine.give" (defScope s_Engine__give) A.a_Engine__give cdv Ar outer s H E) (fun c d _ H => E c d H) := takes_of rfl rfl rfl rfl
  exact (mss_cons (ms_setLcA (i := 2) (own := [("thing", 6)]) rfl sc_Engine__give.nd rfl rfl (sw_true rfl rfl rfl (by decide +kernel)) (mig_any (me_sub_ix hu (me_var 1 (hv := Or.inl (by kernel_rfl))) me_int (fun _ _ => by kernel_rfl))) (blkOk_by (by kernel_rfl)) (tgo_name (by decide)) lcV_end (fun _ _ _ _ _ => (pg_n (i := 6) (hx := Or.inl (by kernel_rfl)) (hf := Or.inr (by kernel_rfl)) sc_Engine__give.nd)) (fun _ _ _ _ _ => mts_nil) (fun _ _ _ _ _ => (me_mth (c := "Engine") (m := "value") T.cl_Engine T.ci_Engine T.mt_Engine__value (ok_Engine__value T n) (hr.mono (by decide)) T.b_Engine__value takes0 (me_var 0 (hv := Or.inr (Or.inl (by kernel_rfl)))) (ma_cons (me_var 6 (hv := Or.inl (by kernel_rfl))) ma_nil) (aLen_cons aLen_nil))))
  (mss_cons (ms_if (mt_eq hr.units (me_attr (f := "waiting") (attr_ok1 T.ci_Engine T.cl_Engine T.na_Engine_waiting) (me_var 0 (hv := Or.inr (Or.inl (by kernel_rfl))))) (me_lst ma_nil)) (mss_one (ms_ret (me_tup (ma_cons (me_str [98, 97, 99, 107] (by decide +kernel)) (ma_cons (me_tupleOf (gl_of (by kernel_rfl)) T.z_tuple (ma_cons (me_var 2 (hv := Or.inl (by kernel_rfl))) ma_nil)) ma_nil))))) mss_nil)
  (mss_cons (ms_while n (passes_of rfl) (mt_gt (me_len (gl_of (by kernel_rfl)) T.z_len (ma_cons (me_attr (f := "memory") (attr_ok1 T.ci_Engine T.cl_Engine T.na_Engine_memory) (me_var 0 (hv := Or.inr (Or.inl (by kernel_rfl))))) ma_nil)) (me_attr (f := "base") (attr_ok1 T.ci_Engine T.cl_Engine T.na_Engine_base) (me_var 0 (hv := Or.inr (Or.inl (by kernel_rfl)))))) (mss_one (ms_expr (me_pop (me_attr (f := "memory") (attr_ok1 T.ci_Engine T.cl_Engine T.na_Engine_memory) (me_var 0 (hv := Or.inr (Or.inl (by kernel_rfl)))))))))
  (mss_cons (ms_asg (me_pop (me_attr (f := "waiting") (attr_ok1 T.ci_Engine T.cl_Engine T.na_Engine_waiting) (me_var 0 (hv := Or.inr (Or.inl (by kernel_rfl)))))) (mg_tup rfl (mgs_cons (mg_attr (f := "now") (attr_ok1 T.ci_Engine T.cl_Engine T.na_Engine_now) (me_var 0 (hv := Or.inr (Or.inl (by kernel_rfl))))) (mgs_cons (mg_attr (f := "at") (attr_ok1 T.ci_Engine T.cl_Engine T.na_Engine_at) (me_var 0 (hv := Or.inr (Or.inl (by kernel_rfl))))) (mgs_cons (mg_attr (f := "base") (attr_ok1 T.ci_Engine T.cl_Engine T.na_Engine_base) (me_var 0 (hv := Or.inr (Or.inl (by kernel_rfl))))) (mgs_cons (mg_n (i := 3) (hx := Or.inl (by kernel_rfl)) (hf := Or.inr (by kernel_rfl)) sc_Engine__give.nd) mgs_nil))))))
  (mss_cons (ms_for (passes_of rfl) rfl (mi_zip (gl_of (by kernel_rfl)) T.z_zip (ma_cons (me_var 3 (hv := Or.inl (by kernel_rfl))) (ma_cons (me_var 2 (hv := Or.inl (by kernel_rfl))) ma_nil))) (mg_tup rfl (mgs_cons (mg_n (i := 4) (hx := Or.inl (by kernel_rfl)) (hf := Or.inr (by kernel_rfl)) sc_Engine__give.nd) (mgs_cons (mg_n (i := 5) (hx := Or.inl (by kernel_rfl)) (hf := Or.inr (by kernel_rfl)) sc_Engine__give.nd) mgs_nil))) (mss_one (ms_asg (me_var 5 (hv := Or.inl (by kernel_rfl))) (mg_sub hu (me_attr (f := "memory") (attr_ok1 T.ci_Engine T.cl_Engine T.na_Engine_memory) (me_var 0 (hv := Or.inr (Or.inl (by kernel_rfl))))) (me_add (me_attr (f := "base") (attr_ok1 T.ci_Engine T.cl_Engine T.na_Engine_base) (me_var 0 (hv := Or.inr (Or.inl (by kernel_rfl))))) (me_sub_ix hu (me_var 4 (hv := Or.inl (by kernel_rfl))) me_int (fun _ _ => by kernel_rfl)))))))
  (mss_one (ms_ret me_non)))))))
theorem sc_Engine__lay_in : FnScope ["self", "step", "thing"] ["self", "step"] (defScope s_Engine__lay_in) := ⟨by kernel_rfl, by kernel_rfl, by kernel_rfl, by decide +kernel, by kernel_rfl, by decide +kernel, by decide +kernel⟩
set_option maxHeartbeats 4000000 in
theorem ok_Engine__lay_in (T : Txt w K mg A) (n : Nat) : FnOk P w K mg base (L2.CX P w) 5 A.a_Engine__lay_in A.d_Engine__lay_in ["self", "step"] (spM ⟨w, K⟩ (F_Engine__lay_in n) 2) :=
  def_okF ["self", "step", "thing"] ["self", "step"] (b_Engine__lay_in n) (k := 4) (kk := 3) (nn := 2) (g := F_Engine__lay_in n) (by kernel_rfl) (by kernel_rfl) (by kernel_rfl) T.f_Engine__lay_in sc_Engine__lay_in fun cdv Ar outer s H E hr => by
  have hu := hr.units
  have tk : Takes (cxOf (L2.CX P w) P w K mg base ["self", "step", "thing"] "Engine.lay_in" (defScope s_Engine__lay_in) A.a_Engine__lay_in cdv Ar outer s H E) (fun c d _ H => E c d H) := takes_of rfl rfl rfl rfl
  exact (mss_one (ms_if (mt_eq hr.units (me_sub_ix hu (me_var 1 (hv := Or.inl (by kernel_rfl))) me_int (fun _ _ => by kernel_rfl)) (me_str [108, 111, 97, 100] (by decide +kernel))) (mss_one (ms_asg (me_sub_ix hu (me_attr (f := "memory") (attr_ok1 T.ci_Engine T.cl_Engine T.na_Engine_memory) (me_var 0 (hv := Or.inr (Or.inl (by kernel_rfl))))) (me_add (me_attr (f := "base") (attr_ok1 T.ci_Engine T.cl_Engine T.na_Engine_base) (me_var 0 (hv := Or.inr (Or.inl (by kernel_rfl))))) (me_sub_ix hu (me_var 1 (hv := Or.inl (by kernel_rfl))) me_int (fun _ _ => by kernel_rfl))) (fun _ _ => by kernel_rfl)) (mg_sub hu (me_attr (f := "boxes") (attr_ok1 T.ci_Engine T.cl_Engine T.na_Engine_boxes) (me_var 0 (hv := Or.inr (Or.inl (by kernel_rfl))))) (me_sub_ix hu (me_var 1 (hv := Or.inl (by kernel_rfl))) me_int (fun _ _ => by kernel_rfl))))) (mss_one (ms_if (mt_eq hr.units (me_sub_ix hu (me_var 1 (hv := Or.inl (by kernel_rfl))) me_int (fun _ _ => by kernel_rfl)) (me_str [115, 116, 111, 114, 101] (by decide +kernel))) (mss_one (ms_asg (me_sub_ix hu (me_attr (f := "boxes") (attr_ok1 T.ci_Engine T.cl_Engine T.na_Engine_boxes) (me_var 0 (hv := Or.inr (Or.inl (by kernel_rfl))))) (me_sub_ix hu (me_var 1 (hv := Or.inl (by kernel_rfl))) me_int (fun _ _ => by kernel_rfl)) (fun _ _ => by kernel_rfl)) (mg_sub hu (me_attr (f := "memory") (attr_ok1 T.ci_Engine T.cl_Engine T.na_Engine_memory) (me_var 0 (hv := Or.inr (Or.inl (by kernel_rfl))))) (me_add (me_attr (f := "base") (attr_ok1 T.ci_Engine T.cl_Engine T.na_Engine_base) (me_var 0 (hv := Or.inr (Or.inl (by kernel_rfl))))) (me_sub_ix hu (me_var 1 (hv := Or.inl (by kernel_rfl))) me_int (fun _ _ => by kernel_rfl)))))) (mss_one (ms_asg (me_call (ok_done T n) (hr.mono (by decide)) (gl_of (by kernel_rfl)) T.m_done T.f_done.kp T.b_done tk (ma_cons (me_sub_ix hu (me_var 1 (hv := Or.inl (by kernel_rfl))) me_int (fun _ _ => by kernel_rfl)) (ma_cons (me_tupleOf (gl_of (by kernel_rfl)) T.z_tuple (ma_cons (me_lcA (own := [("thing", 2)]) rfl sc_Engine__lay_in.nd (mig_any (me_sub_ix hu (me_var 1 (hv := Or.inl (by kernel_rfl))) me_int (fun _ _ => by kernel_rfl))) (blkOk_by (by kernel_rfl)) (tgo_name (by decide)) lcV_end (fun _ _ _ _ _ => (pg_n (i := 2) (hx := Or.inl (by kernel_rfl)) (hf := Or.inr (by kernel_rfl)) sc_Engine__lay_in.nd)) (fun _ _ _ _ _ => mts_nil) (fun _ _ _ _ _ => (me_mth (c := "Engine") (m := "value") T.cl_Engine T.ci_Engine T.mt_Engine__value (ok_Engine__value T n) (hr.mono (by decide)) T.b_Engine__value takes0 (me_var 0 (hv := Or.inr (Or.inl (by kernel_rfl)))) (ma_cons (me_var 2 (hv := Or.inl (by kernel_rfl))) ma_nil) (aLen_cons aLen_nil)))) ma_nil)) ma_nil)) (aLen_cons (aLen_cons aLen_nil))) (mg_sub hu (me_attr (f := "boxes") (attr_ok1 T.ci_Engine T.cl_Engine T.na_Engine_boxes) (me_var 0 (hv := Or.inr (Or.inl (by kernel_rfl))))) (me_sub_ix hu (me_var 1 (hv := Or.inl (by kernel_rfl))) me_int (fun _ _ => by kernel_rfl)))))))))
theorem sc_Engine__go_on : FnScope ["self", "step", "word"] ["self"] (defScope s_Engine__go_on) := ⟨by kernel_rfl, by kernel_rfl, by kernel_rfl, by decide +kernel, by kernel_rfl, by decide +kernel, by decide +kernel⟩
set_option maxHeartbeats 4000000 in
theorem ok_Engine__go_on (T : Txt w K mg A) (n : Nat) : FnOk P w K mg base (L2.CX P w) 6 A.a_Engine__go_on A.d_Engine__go_on ["self"] (spM ⟨w, K⟩ (F_Engine__go_on n) 1) :=
  def_okF ["self", "step", "word"] ["self"] (b_Engine__go_on n) (k := 5) (kk := 3) (nn := 1) (g := F_Engine__go_on n) (by kernel_rfl) (by kernel_rfl) (by kernel_rfl) T.f_Engine__go_on sc_Engine__go_on fun cdv Ar outer s H E hr => by
  have hu := hr.units
  have tk : Takes (cxOf (L2.CX P w) P w K mg base ["self", "step", "word"] "Engine.go_on" (defScope s_Engine__go_on) A.a_Engine__go_on cdv Ar outer s H E) (fun c d _ H => E c d H) := takes_of rfl rfl rfl rfl
  exact (mss_cons (ms_s (i := 1) (hx := Or.inl (by kernel_rfl)) (hf := Or.inr (by kernel_rfl)) sc_Engine__go_on.nd (me_sub_ix hu (me_sub_ix hu (me_sub_ix hu (me_attr (f := "code") (attr_ok1 T.ci_Engine T.cl_Engine T.na_Engine_code) (me_var 0 (hv := Or.inl (by kernel_rfl)))) (me_attr (f := "now") (attr_ok1 T.ci_Engine T.cl_Engine T.na_Engine_now) (me_var 0 (hv := Or.inl (by kernel_rfl)))) (fun _ _ => by kernel_rfl)) me_int (fun _ _ => by kernel_rfl)) (me_attr (f := "at") (attr_ok1 T.ci_Engine T.cl_Engine T.na_Engine_at) (me_var 0 (hv := Or.inl (by kernel_rfl)))) (fun _ _ => by kernel_rfl)))
  (mss_cons (ms_attr (f := "at") (attr_ok1 T.ci_Engine T.cl_Engine T.na_Engine_at) (me_var 0 (hv := Or.inl (by kernel_rfl))) (me_add (me_attr (f := "at") (attr_ok1 T.ci_Engine T.cl_Engine T.na_Engine_at) (me_var 0 (hv := Or.inl (by kernel_rfl)))) me_int))
  (mss_cons (ms_s (i := 2) (hx := Or.inl (by kernel_rfl)) (hf := Or.inr (by kernel_rfl)) sc_Engine__go_on.nd (me_sub_ix hu (me_var 1 (hv := Or.inl (by kernel_rfl))) me_int (fun _ _ => by kernel_rfl)))
  (mss_cons (ms_if (mt_eq hr.units (me_var 2 (hv := Or.inl (by kernel_rfl))) (me_str [116, 105, 99, 107] (by decide +kernel))) (mss_cons (ms_if (mt_eq hr.units (me_attr (f := "left") (attr_ok1 T.ci_Engine T.cl_Engine T.na_Engine_left) (me_var 0 (hv := Or.inl (by kernel_rfl)))) me_int) (mss_one (ms_ret (me_tup (ma_cons (me_str [100, 114, 121] (by decide +kernel)) ma_nil)))) mss_nil)
  (mss_one (ms_attr (f := "left") (attr_ok1 T.ci_Engine T.cl_Engine T.na_Engine_left) (me_var 0 (hv := Or.inl (by kernel_rfl))) (me_sub (me_attr (f := "left") (attr_ok1 T.ci_Engine T.cl_Engine T.na_Engine_left) (me_var 0 (hv := Or.inl (by kernel_rfl)))) me_int)))) (mss_one (ms_if (mt_eq hr.units (me_var 2 (hv := Or.inl (by kernel_rfl))) (me_str [110, 101, 101, 100] (by decide +kernel))) (mss_one (ms_if (mt_eq hr.units (me_mth (c := "Engine") (m := "value") T.cl_Engine T.ci_Engine T.mt_Engine__value (ok_Engine__value T n) (hr.mono (by decide)) T.b_Engine__value tk (me_var 0 (hv := Or.inl (by kernel_rfl))) (ma_cons (me_sub_ix hu (me_var 1 (hv := Or.inl (by kernel_rfl))) me_int (fun _ _ => by kernel_rfl)) ma_nil) (aLen_cons aLen_nil)) me_int) (mss_one (ms_ret (me_tup (ma_cons (me_str [102, 97, 117, 108, 116] (by decide +kernel)) (ma_cons (me_sub_ix hu (me_var 1 (hv := Or.inl (by kernel_rfl))) me_int (fun _ _ => by kernel_rfl)) ma_nil))))) mss_nil)) (mss_one (ms_if (mt_eq hr.units (me_var 2 (hv := Or.inl (by kernel_rfl))) (me_str [106, 117, 109, 112] (by decide +kernel))) (mss_one (ms_attr (f := "at") (attr_ok1 T.ci_Engine T.cl_Engine T.na_Engine_at) (me_var 0 (hv := Or.inl (by kernel_rfl))) (me_sub_ix hu (me_var 1 (hv := Or.inl (by kernel_rfl))) me_int (fun _ _ => by kernel_rfl)))) (mss_one (ms_if (mt_eq hr.units (me_var 2 (hv := Or.inl (by kernel_rfl))) (me_str [98, 114, 97, 110, 99, 104] (by decide +kernel))) (mss_one (ms_if (mt_ne hr.units (me_mth (c := "Engine") (m := "value") T.cl_Engine T.ci_Engine T.mt_Engine__value (ok_Engine__value T n) (hr.mono (by decide)) T.b_Engine__value tk (me_var 0 (hv := Or.inl (by kernel_rfl))) (ma_cons (me_sub_ix hu (me_var 1 (hv := Or.inl (by kernel_rfl))) me_int (fun _ _ => by kernel_rfl)) ma_nil) (aLen_cons aLen_nil)) me_int) (mss_one (ms_attr (f := "at") (attr_ok1 T.ci_Engine T.cl_Engine T.na_Engine_at) (me_var 0 (hv := Or.inl (by kernel_rfl))) (me_sub_ix hu (me_var 1 (hv := Or.inl (by kernel_rfl))) me_int (fun _ _ => by kernel_rfl)))) mss_nil)) (mss_one (ms_if (mt_eq hr.units (me_var 2 (hv := Or.inl (by kernel_rfl))) (me_str [99, 97, 108, 108] (by decide +kernel))) (mss_one (ms_ret (me_mth (c := "Engine") (m := "call") T.cl_Engine T.ci_Engine T.mt_Engine__call (ok_Engine__call T n) (hr.mono (by decide)) T.b_Engine__call tk (me_var 0 (hv := Or.inl (by kernel_rfl))) (ma_cons (me_var 1 (hv := Or.inl (by kernel_rfl))) ma_nil) (aLen_cons aLen_nil)))) (mss_one (ms_if (mt_eq hr.units (me_var 2 (hv := Or.inl (by kernel_rfl))) (me_str [103, 105, 118, 101] (by decide +kernel))) (mss_one (ms_ret (me_mth (c := "Engine") (m := "give") T.cl_Engine T.ci_Engine T.mt_Engine__give (ok_Engine__give T n) (hr.mono (by decide)) T.b_Engine__give tk (me_var 0 (hv := Or.inl (by kernel_rfl))) (ma_cons (me_var 1 (hv := Or.inl (by kernel_rfl))) ma_nil) (aLen_cons aLen_nil)))) (mss_one (ms_expr (me_mth (c := "Engine") (m := "lay_in") T.cl_Engine T.ci_Engine T.mt_Engine__lay_in (ok_Engine__lay_in T n) (hr.mono (by decide)) T.b_Engine__lay_in tk (me_var 0 (hv := Or.inl (by kernel_rfl))) (ma_cons (me_var 1 (hv := Or.inl (by kernel_rfl))) ma_nil) (aLen_cons aLen_nil)))))))))))))))
  (mss_one (ms_ret me_non))))))
theorem sc_run_code : FnScope ["code", "function", "values", "bound", "engine", "outcome"] ["code", "function", "values", "bound"] (defScope s_run_code) := ⟨by kernel_rfl, by kernel_rfl, by kernel_rfl, by decide +kernel, by kernel_rfl, by decide +kernel, by decide +kernel⟩
set_option maxHeartbeats 4000000 in
theorem ok_run_code (T : Txt w K mg A) (n : Nat) : FnOk P w K mg base (L2.CX P w) 7 A.a_run_code A.d_run_code ["code", "function", "values", "bound"] (spM ⟨w, K⟩ (F_run_code n) 4) :=
  def_okF ["code", "function", "values", "bound", "engine", "outcome"] ["code", "function", "values", "bound"] (b_run_code n) (k := 6) (kk := 6) (nn := 4) (g := F_run_code n) (by kernel_rfl) (by kernel_rfl) (by kernel_rfl) T.f_run_code sc_run_code fun cdv Ar outer s H E hr => by
  have hu := hr.units
  have tk : Takes (cxOf (L2.CX P w) P w K mg base ["code", "function", "values", "bound", "engine", "outcome"] "run_code" (defScope s_run_code) A.a_run_code cdv Ar outer s H E) (fun c d _ H => E c d H) := takes_of rfl rfl rfl rfl
  exact (mss_cons (ms_s (i := 4) (hx := Or.inl (by kernel_rfl)) (hf := Or.inr (by kernel_rfl)) sc_run_code.nd (me_new (c := "Engine") T.mk_Engine T.ci_Engine (ok_Engine____init__ T n) (hr.mono (by decide)) (gl_of (by kernel_rfl)) T.m_Engine T.b_Engine____init__ passes_no (ma_cons (me_var 0 (hv := Or.inl (by kernel_rfl))) (ma_cons (me_var 1 (hv := Or.inl (by kernel_rfl))) (ma_cons (me_var 2 (hv := Or.inl (by kernel_rfl))) (ma_cons (me_var 3 (hv := Or.inl (by kernel_rfl))) ma_nil)))) (aLen_cons (aLen_cons (aLen_cons (aLen_cons aLen_nil))))))
  (mss_cons (ms_s (i := 5) (hx := Or.inl (by kernel_rfl)) (hf := Or.inr (by kernel_rfl)) sc_run_code.nd me_non)
  (mss_cons (ms_while n (passes_of rfl) (mt_is (me_var 5 (hv := Or.inl (by kernel_rfl))) me_non) (mss_one (ms_s (i := 5) (hx := Or.inl (by kernel_rfl)) (hf := Or.inr (by kernel_rfl)) sc_run_code.nd (me_mth0 (c := "Engine") (m := "go_on") T.cl_Engine T.ci_Engine T.mt_Engine__go_on (ok_Engine__go_on T n) (hr.mono (by decide)) T.b_Engine__go_on tk (me_var 4 (hv := Or.inl (by kernel_rfl)))))))
  (mss_one (ms_ret (me_var 5 (hv := Or.inl (by kernel_rfl))))))))
theorem sc_ways_on : FnScope ["step", "at"] ["step", "at"] (defScope s_ways_on) := ⟨by kernel_rfl, by kernel_rfl, by kernel_rfl, by decide +kernel, by kernel_rfl, by decide +kernel, by decide +kernel⟩
set_option maxHeartbeats 4000000 in
theorem ok_ways_on (T : Txt w K mg A) (n : Nat) : FnOk P w K mg base (L2.CX P w) 1 A.a_ways_on A.d_ways_on ["step", "at"] (spM ⟨w, K⟩ (F_ways_on n) 2) :=
  def_okF ["step", "at"] ["step", "at"] (b_ways_on n) (k := 0) (kk := 2) (nn := 2) (g := F_ways_on n) (by kernel_rfl) (by kernel_rfl) (by kernel_rfl) T.f_ways_on sc_ways_on fun cdv Ar outer s H E hr => by
  have hu := hr.units
  have tk : Takes (cxOf (L2.CX P w) P w K mg base ["step", "at"] "ways_on" (defScope s_ways_on) A.a_ways_on cdv Ar outer s H E) (fun c d _ H => E c d H) := takes_of rfl rfl rfl rfl
  exact (mss_cons (ms_if (mt_eq hr.units (me_sub_ix hu (me_var 0 (hv := Or.inl (by kernel_rfl))) me_int (fun _ _ => by kernel_rfl)) (me_str [103, 105, 118, 101] (by decide +kernel))) (mss_one (ms_ret (me_lst ma_nil))) mss_nil)
  (mss_cons (ms_if (mt_eq hr.units (me_sub_ix hu (me_var 0 (hv := Or.inl (by kernel_rfl))) me_int (fun _ _ => by kernel_rfl)) (me_str [106, 117, 109, 112] (by decide +kernel))) (mss_one (ms_ret (me_lst (ma_cons (me_sub_ix hu (me_var 0 (hv := Or.inl (by kernel_rfl))) me_int (fun _ _ => by kernel_rfl)) ma_nil)))) mss_nil)
  (mss_cons (ms_if (mt_eq hr.units (me_sub_ix hu (me_var 0 (hv := Or.inl (by kernel_rfl))) me_int (fun _ _ => by kernel_rfl)) (me_str [98, 114, 97, 110, 99, 104] (by decide +kernel))) (mss_one (ms_ret (me_lst (ma_cons (me_add (me_var 1 (hv := Or.inl (by kernel_rfl))) me_int) (ma_cons (me_sub_ix hu (me_var 0 (hv := Or.inl (by kernel_rfl))) me_int (fun _ _ => by kernel_rfl)) ma_nil))))) mss_nil)
  (mss_one (ms_ret (me_lst (ma_cons (me_add (me_var 1 (hv := Or.inl (by kernel_rfl))) me_int) ma_nil)))))))
theorem sc_steps_come_to : FnScope ["steps", "seen", "line", "at", "other"] ["steps"] (defScope s_steps_come_to) := ⟨by kernel_rfl, by kernel_rfl, by kernel_rfl, by decide +kernel, by kernel_rfl, by decide +kernel, by decide +kernel⟩
set_option maxHeartbeats 4000000 in
theorem ok_steps_come_to (T : Txt w K mg A) (n : Nat) : FnOk P w K mg base (L2.CX P w) 2 A.a_steps_come_to A.d_steps_come_to ["steps"] (spM ⟨w, K⟩ (F_steps_come_to n) 1) :=
  def_okF ["steps", "seen", "line", "at", "other"] ["steps"] (b_steps_come_to n) (k := 1) (kk := 5) (nn := 1) (g := F_steps_come_to n) (by kernel_rfl) (by kernel_rfl) (by kernel_rfl) T.f_steps_come_to sc_steps_come_to fun cdv Ar outer s H E hr => by
  have hu := hr.units
  have tk : Takes (cxOf (L2.CX P w) P w K mg base ["steps", "seen", "line", "at", "other"] "steps_come_to" (defScope s_steps_come_to) A.a_steps_come_to cdv Ar outer s H E) (fun c d _ H => E c d H) := takes_of rfl rfl rfl rfl
  exact (mss_cons (ms_s (i := 1) (hx := Or.inl (by kernel_rfl)) (hf := Or.inr (by kernel_rfl)) sc_steps_come_to.nd (me_dict (mps_cons me_int me_bl mps_nil)))
  (mss_cons (ms_s (i := 2) (hx := Or.inl (by kernel_rfl)) (hf := Or.inr (by kernel_rfl)) sc_steps_come_to.nd (me_lstN (ma_cons me_int ma_nil)))
  (mss_cons (ms_while n (passes_of rfl) (mt_ne hr.units (me_var 2 (hv := Or.inl (by kernel_rfl))) (me_lst ma_nil)) (mss_cons (ms_s (i := 3) (hx := Or.inl (by kernel_rfl)) (hf := Or.inr (by kernel_rfl)) sc_steps_come_to.nd (me_pop (me_var 2 (hv := Or.inl (by kernel_rfl)))))
  (mss_one (ms_forA (passes_of rfl) rfl (mig_any (me_call (ok_ways_on T n) (hr.mono (by decide)) (gl_of (by kernel_rfl)) T.m_ways_on T.f_ways_on.kp T.b_ways_on tk (ma_cons (me_sub_ix hu (me_var 0 (hv := Or.inl (by kernel_rfl))) (me_var 3 (hv := Or.inl (by kernel_rfl))) (fun _ _ => by kernel_rfl)) (ma_cons (me_var 3 (hv := Or.inl (by kernel_rfl))) ma_nil)) (aLen_cons (aLen_cons aLen_nil)))) (mg_n (i := 4) (hx := Or.inl (by kernel_rfl)) (hf := Or.inr (by kernel_rfl)) sc_steps_come_to.nd) (mss_one (ms_if (mt_of (mw_and (mt_lt (me_var 4 (hv := Or.inl (by kernel_rfl))) (me_len (gl_of (by kernel_rfl)) T.z_len (ma_cons (me_var 0 (hv := Or.inl (by kernel_rfl))) ma_nil))) (mw_and1 (mt_notin hu (me_var 4 (hv := Or.inl (by kernel_rfl))) (me_var 1 (hv := Or.inl (by kernel_rfl))) (by kernel_rfl))))) (mss_cons (ms_asg me_bl (mg_sub hu (me_var 1 (hv := Or.inl (by kernel_rfl))) (me_var 4 (hv := Or.inl (by kernel_rfl)))))
  (mss_one (ms_expr (me_append (me_var 2 (hv := Or.inl (by kernel_rfl))) (ma_cons (me_var 4 (hv := Or.inl (by kernel_rfl))) ma_nil))))) mss_nil))))))
  (mss_one (ms_ret (me_sorted rfl (gl_of (by kernel_rfl)) T.z_sorted (ma_cons (me_listA rfl (gl_of (by kernel_rfl)) T.z_list (ma_cons (me_var 1 (hv := Or.inl (by kernel_rfl))) ma_nil)) ma_nil)))))))
theorem sc_things_read : FnScope ["step", "word", "some"] ["step"] (defScope s_things_read) := ⟨by kernel_rfl, by kernel_rfl, by kernel_rfl, by decide +kernel, by kernel_rfl, by decide +kernel, by decide +kernel⟩
set_option maxHeartbeats 4000000 in
theorem ok_things_read (T : Txt w K mg A) (n : Nat) : FnOk P w K mg base (L2.CX P w) 1 A.a_things_read A.d_things_read ["step"] (spM ⟨w, K⟩ (F_things_read n) 1) :=
  def_okF ["step", "word", "some"] ["step"] (b_things_read n) (k := 0) (kk := 3) (nn := 1) (g := F_things_read n) (by kernel_rfl) (by kernel_rfl) (by kernel_rfl) T.f_things_read sc_things_read fun cdv Ar outer s H E hr => by
  have hu := hr.units
  have tk : Takes (cxOf (L2.CX P w) P w K mg base ["step", "word", "some"] "things_read" (defScope s_things_read) A.a_things_read cdv Ar outer s H E) (fun c d _ H => E c d H) := takes_of rfl rfl rfl rfl
  exact (mss_cons (ms_s (i := 1) (hx := Or.inl (by kernel_rfl)) (hf := Or.inr (by kernel_rfl)) sc_things_read.nd (me_sub_ix hu (me_var 0 (hv := Or.inl (by kernel_rfl))) me_int (fun _ _ => by kernel_rfl)))
  (mss_cons (ms_if (mt_of (mw_or (mt_eq hr.units (me_var 1 (hv := Or.inl (by kernel_rfl))) (me_str [116, 105, 99, 107] (by decide +kernel))) (mw_or1 (mt_eq hr.units (me_var 1 (hv := Or.inl (by kernel_rfl))) (me_str [106, 117, 109, 112] (by decide +kernel)))))) (mss_one (ms_ret (me_lst ma_nil))) mss_nil)
  (mss_cons (ms_if (mt_eq hr.units (me_var 1 (hv := Or.inl (by kernel_rfl))) (me_str [108, 111, 97, 100] (by decide +kernel))) (mss_one (ms_ret (me_lst (ma_cons (me_tup (ma_cons (me_sub_ix hu (me_sub_ix hu (me_var 0 (hv := Or.inl (by kernel_rfl))) me_int (fun _ _ => by kernel_rfl)) me_int (fun _ _ => by kernel_rfl)) (ma_cons (me_sub_ix hu (me_var 0 (hv := Or.inl (by kernel_rfl))) me_int (fun _ _ => by kernel_rfl)) ma_nil))) ma_nil)))) mss_nil)
  (mss_cons (ms_if (mt_of (mw_or (mt_eq hr.units (me_var 1 (hv := Or.inl (by kernel_rfl))) (me_str [98, 114, 97, 110, 99, 104] (by decide +kernel))) (mw_or (mt_eq hr.units (me_var 1 (hv := Or.inl (by kernel_rfl))) (me_str [103, 105, 118, 101] (by decide +kernel))) (mw_or1 (mt_eq hr.units (me_var 1 (hv := Or.inl (by kernel_rfl))) (me_str [99, 97, 108, 108] (by decide +kernel))))))) (mss_cons (ms_s (i := 2) (hx := Or.inl (by kernel_rfl)) (hf := Or.inr (by kernel_rfl)) sc_things_read.nd (me_sub_ix hu (me_var 0 (hv := Or.inl (by kernel_rfl))) me_int (fun _ _ => by kernel_rfl)))
  (mss_cons (ms_if (mt_eq hr.units (me_var 1 (hv := Or.inl (by kernel_rfl))) (me_str [99, 97, 108, 108] (by decide +kernel))) (mss_one (ms_s (i := 2) (hx := Or.inl (by kernel_rfl)) (hf := Or.inr (by kernel_rfl)) sc_things_read.nd (me_sub_ix hu (me_var 0 (hv := Or.inl (by kernel_rfl))) me_int (fun _ _ => by kernel_rfl)))) mss_nil)
  (mss_cons (ms_if (mt_eq hr.units (me_var 1 (hv := Or.inl (by kernel_rfl))) (me_str [98, 114, 97, 110, 99, 104] (by decide +kernel))) (mss_one (ms_s (i := 2) (hx := Or.inl (by kernel_rfl)) (hf := Or.inr (by kernel_rfl)) sc_things_read.nd (me_tup (ma_cons (me_sub_ix hu (me_var 0 (hv := Or.inl (by kernel_rfl))) me_int (fun _ _ => by kernel_rfl)) ma_nil)))) mss_nil)
  (mss_one (ms_ret (me_listA rfl (gl_of (by kernel_rfl)) T.z_list (ma_cons (me_var 2 (hv := Or.inl (by kernel_rfl))) ma_nil))))))) mss_nil)
  (mss_cons (ms_if (mt_of (mw_or (mt_eq hr.units (me_var 1 (hv := Or.inl (by kernel_rfl))) (me_str [115, 116, 111, 114, 101] (by decide +kernel))) (mw_or1 (mt_eq hr.units (me_var 1 (hv := Or.inl (by kernel_rfl))) (me_str [110, 101, 101, 100] (by decide +kernel)))))) (mss_one (ms_ret (me_lst (ma_cons (me_sub_ix hu (me_var 0 (hv := Or.inl (by kernel_rfl))) me_int (fun _ _ => by kernel_rfl)) ma_nil)))) mss_nil)
  (mss_one (ms_ret (me_listA rfl (gl_of (by kernel_rfl)) T.z_list (ma_cons (me_sub_ix hu (me_var 0 (hv := Or.inl (by kernel_rfl))) me_int (fun _ _ => by kernel_rfl)) ma_nil)))))))))
theorem sc_laid_behind : FnScope ["step", "state", "word", "fresh", "thing", "kind", "place"] ["step", "state"] (defScope s_laid_behind) := ⟨by kernel_rfl, by kernel_rfl, by kernel_rfl, by decide +kernel, by kernel_rfl, by decide +kernel, by decide +kernel⟩
set_option maxHeartbeats 4000000 in
theorem ok_laid_behind (T : Txt w K mg A) (n : Nat) : FnOk P w K mg base (L2.CX P w) 1 A.a_laid_behind A.d_laid_behind ["step", "state"] (spM ⟨w, K⟩ (F_laid_behind n) 2) :=
  def_okF ["step", "state", "word", "fresh", "thing", "kind", "place"] ["step", "state"] (b_laid_behind n) (k := 0) (kk := 7) (nn := 2) (g := F_laid_behind n) (by kernel_rfl) (by kernel_rfl) (by kernel_rfl) T.f_laid_behind sc_laid_behind fun cdv Ar outer s H E hr => by
  have hu := hr.units
  have tk : Takes (cxOf (L2.CX P w) P w K mg base ["step", "state", "word", "fresh", "thing", "kind", "place"] "laid_behind" (defScope s_laid_behind) A.a_laid_behind cdv Ar outer s H E) (fun c d _ H => E c d H) := takes_of rfl rfl rfl rfl
  exact (mss_cons (ms_s (i := 2) (hx := Or.inl (by kernel_rfl)) (hf := Or.inr (by kernel_rfl)) sc_laid_behind.nd (me_sub_ix hu (me_var 0 (hv := Or.inl (by kernel_rfl))) me_int (fun _ _ => by kernel_rfl)))
  (mss_cons (ms_s (i := 3) (hx := Or.inl (by kernel_rfl)) (hf := Or.inr (by kernel_rfl)) sc_laid_behind.nd (me_dictOf rfl (gl_of (by kernel_rfl)) T.z_dict (ma_cons (me_var 1 (hv := Or.inl (by kernel_rfl))) ma_nil)))
  (mss_cons (ms_if (mt_eq hr.units (me_var 2 (hv := Or.inl (by kernel_rfl))) (me_str [115, 116, 111, 114, 101] (by decide +kernel))) (mss_one (ms_asg (me_sub_ix hu (me_sub_ix hu (me_var 0 (hv := Or.inl (by kernel_rfl))) me_int (fun _ _ => by kernel_rfl)) me_int (fun _ _ => by kernel_rfl)) (mg_sub hu (me_var 3 (hv := Or.inl (by kernel_rfl))) (me_sub_ix hu (me_var 0 (hv := Or.inl (by kernel_rfl))) me_int (fun _ _ => by kernel_rfl))))) (mss_one (ms_if (mt_eq hr.units (me_var 2 (hv := Or.inl (by kernel_rfl))) (me_str [99, 97, 108, 108] (by decide +kernel))) (mss_cons (ms_s (i := 3) (hx := Or.inl (by kernel_rfl)) (hf := Or.inr (by kernel_rfl)) sc_laid_behind.nd me_dict0)
  (mss_cons (ms_forA (passes_of rfl) rfl (mig_any (me_listA rfl (gl_of (by kernel_rfl)) T.z_list (ma_cons (me_var 1 (hv := Or.inl (by kernel_rfl))) ma_nil))) (mg_n (i := 4) (hx := Or.inl (by kernel_rfl)) (hf := Or.inr (by kernel_rfl)) sc_laid_behind.nd) (mss_one (ms_if (mt_not (mt_val (me_isinst (gl_of (by kernel_rfl)) T.z_isinstance (ma_cons (me_var 4 (hv := Or.inl (by kernel_rfl))) (ma_cons (me_ty (gl_of (by kernel_rfl)) T.z_str (by decide +kernel)) ma_nil))))) (mss_one (ms_asg (me_sub_ix hu (me_var 1 (hv := Or.inl (by kernel_rfl))) (me_var 4 (hv := Or.inl (by kernel_rfl))) (fun _ _ => by kernel_rfl)) (mg_sub hu (me_var 3 (hv := Or.inl (by kernel_rfl))) (me_var 4 (hv := Or.inl (by kernel_rfl)))))) mss_nil)))
  (mss_one (ms_forA (passes_of rfl) rfl (mig_any (me_sub_ix hu (me_var 0 (hv := Or.inl (by kernel_rfl))) me_int (fun _ _ => by kernel_rfl))) (mg_tup rfl (mgs_cons (mg_n (i := 5) (hx := Or.inl (by kernel_rfl)) (hf := Or.inr (by kernel_rfl)) sc_laid_behind.nd) (mgs_cons (mg_n (i := 6) (hx := Or.inl (by kernel_rfl)) (hf := Or.inr (by kernel_rfl)) sc_laid_behind.nd) mgs_nil))) (mss_one (ms_asg (me_var 5 (hv := Or.inl (by kernel_rfl))) (mg_sub hu (me_var 3 (hv := Or.inl (by kernel_rfl))) (me_var 6 (hv := Or.inl (by kernel_rfl)))))))))) (mss_one (ms_if (mt_of (mw_and (mt_ne hr.units (me_var 2 (hv := Or.inl (by kernel_rfl))) (me_str [116, 105, 99, 107] (by decide +kernel))) (mw_and (mt_ne hr.units (me_var 2 (hv := Or.inl (by kernel_rfl))) (me_str [106, 117, 109, 112] (by decide +kernel))) (mw_and (mt_ne hr.units (me_var 2 (hv := Or.inl (by kernel_rfl))) (me_str [98, 114, 97, 110, 99, 104] (by decide +kernel))) (mw_and (mt_ne hr.units (me_var 2 (hv := Or.inl (by kernel_rfl))) (me_str [110, 101, 101, 100] (by decide +kernel))) (mw_and1 (mt_ne hr.units (me_var 2 (hv := Or.inl (by kernel_rfl))) (me_str [103, 105, 118, 101] (by decide +kernel))))))))) (mss_one (ms_asg (me_sub_ix hu (me_sub_ix hu (me_var 0 (hv := Or.inl (by kernel_rfl))) me_int (fun _ _ => by kernel_rfl)) me_int (fun _ _ => by kernel_rfl)) (mg_sub hu (me_var 3 (hv := Or.inl (by kernel_rfl))) (me_sub_ix hu (me_var 0 (hv := Or.inl (by kernel_rfl))) me_int (fun _ _ => by kernel_rfl))))) mss_nil)))))
  (mss_one (ms_ret (me_var 3 (hv := Or.inl (by kernel_rfl))))))))
theorem sc_reads_well : FnScope ["step", "state", "thing"] ["step", "state"] (defScope s_reads_well) := ⟨by kernel_rfl, by kernel_rfl, by kernel_rfl, by decide +kernel, by kernel_rfl, by decide +kernel, by decide +kernel⟩
set_option maxHeartbeats 4000000 in
theorem ok_reads_well (T : Txt w K mg A) (n : Nat) : FnOk P w K mg base (L2.CX P w) 2 A.a_reads_well A.d_reads_well ["step", "state"] (spM ⟨w, K⟩ (F_reads_well n) 2) :=
  def_okF ["step", "state", "thing"] ["step", "state"] (b_reads_well n) (k := 1) (kk := 3) (nn := 2) (g := F_reads_well n) (by kernel_rfl) (by kernel_rfl) (by kernel_rfl) T.f_reads_well sc_reads_well fun cdv Ar outer s H E hr => by
  have hu := hr.units
  have tk : Takes (cxOf (L2.CX P w) P w K mg base ["step", "state", "thing"] "reads_well" (defScope s_reads_well) A.a_reads_well cdv Ar outer s H E) (fun c d _ H => E c d H) := takes_of rfl rfl rfl rfl
  exact (mss_cons (ms_forA (passes_of rfl) rfl (mig_any (me_call (ok_things_read T n) (hr.mono (by decide)) (gl_of (by kernel_rfl)) T.m_things_read T.f_things_read.kp T.b_things_read tk (ma_cons (me_var 0 (hv := Or.inl (by kernel_rfl))) ma_nil) (aLen_cons aLen_nil))) (mg_n (i := 2) (hx := Or.inl (by kernel_rfl)) (hf := Or.inr (by kernel_rfl)) sc_reads_well.nd) (mss_cons (ms_if (mt_of (mw_and (mt_val (me_isinst (gl_of (by kernel_rfl)) T.z_isinstance (ma_cons (me_var 2 (hv := Or.inl (by kernel_rfl))) (ma_cons (me_ty (gl_of (by kernel_rfl)) T.z_str (by decide +kernel)) ma_nil)))) (mw_and1 (mt_notin hu (me_var 2 (hv := Or.inl (by kernel_rfl))) (me_var 1 (hv := Or.inl (by kernel_rfl))) (by kernel_rfl))))) (mss_one (ms_ret me_bl)) mss_nil)
  (mss_one (ms_if (mt_of (mw_and (mt_val (me_isinst (gl_of (by kernel_rfl)) T.z_isinstance (ma_cons (me_var 2 (hv := Or.inl (by kernel_rfl))) (ma_cons (me_ty (gl_of (by kernel_rfl)) T.z_tuple (by decide +kernel)) ma_nil)))) (mw_and1 (mt_ne hr.units (me_get1 hu (me_var 1 (hv := Or.inl (by kernel_rfl))) (me_sub_ix hu (me_var 2 (hv := Or.inl (by kernel_rfl))) me_int (fun _ _ => by kernel_rfl))) (me_sub_ix hu (me_var 2 (hv := Or.inl (by kernel_rfl))) me_int (fun _ _ => by kernel_rfl)))))) (mss_one (ms_ret me_bl)) mss_nil))))
  (mss_one (ms_ret me_bl)))
theorem sc_states_ahead : FnScope ["takes", "steps", "states", "line", "at", "fresh", "other", "both", "thing"] ["takes", "steps"] (defScope s_states_ahead) := ⟨by kernel_rfl, by kernel_rfl, by kernel_rfl, by decide +kernel, by kernel_rfl, by decide +kernel, by decide +kernel⟩
set_option maxHeartbeats 4000000 in
theorem ok_states_ahead (T : Txt w K mg A) (n : Nat) : FnOk P w K mg base (L2.CX P w) 2 A.a_states_ahead A.d_states_ahead ["takes", "steps"] (spM ⟨w, K⟩ (F_states_ahead n) 2) :=
  def_okF ["takes", "steps", "states", "line", "at", "fresh", "other", "both", "thing"] ["takes", "steps"] (b_states_ahead n) (k := 1) (kk := 9) (nn := 2) (g := F_states_ahead n) (by kernel_rfl) (by kernel_rfl) (by kernel_rfl) T.f_states_ahead sc_states_ahead fun cdv Ar outer s H E hr => by
  have hu := hr.units
  have tk : Takes (cxOf (L2.CX P w) P w K mg base ["takes", "steps", "states", "line", "at", "fresh", "other", "both", "thing"] "states_ahead" (defScope s_states_ahead) A.a_states_ahead cdv Ar outer s H E) (fun c d _ H => E c d H) := takes_of rfl rfl rfl rfl
  exact (mss_cons (ms_s (i := 2) (hx := Or.inl (by kernel_rfl)) (hf := Or.inr (by kernel_rfl)) sc_states_ahead.nd (me_dict (mps_cons me_int (me_dictEn rfl (gl_of (by kernel_rfl)) T.z_dict (gl_of (by kernel_rfl)) T.z_enumerate (me_var 0 (hv := Or.inl (by kernel_rfl)))) mps_nil)))
  (mss_cons (ms_s (i := 3) (hx := Or.inl (by kernel_rfl)) (hf := Or.inr (by kernel_rfl)) sc_states_ahead.nd (me_lstN (ma_cons me_int ma_nil)))
  (mss_cons (ms_while n (passes_of rfl) (mt_ne hr.units (me_var 3 (hv := Or.inl (by kernel_rfl))) (me_lst ma_nil)) (mss_cons (ms_s (i := 4) (hx := Or.inl (by kernel_rfl)) (hf := Or.inr (by kernel_rfl)) sc_states_ahead.nd (me_pop (me_var 3 (hv := Or.inl (by kernel_rfl)))))
  (mss_cons (ms_s (i := 5) (hx := Or.inl (by kernel_rfl)) (hf := Or.inr (by kernel_rfl)) sc_states_ahead.nd (me_call (ok_laid_behind T n) (hr.mono (by decide)) (gl_of (by kernel_rfl)) T.m_laid_behind T.f_laid_behind.kp T.b_laid_behind tk (ma_cons (me_sub_ix hu (me_var 1 (hv := Or.inl (by kernel_rfl))) (me_var 4 (hv := Or.inl (by kernel_rfl))) (fun _ _ => by kernel_rfl)) (ma_cons (me_sub_ix hu (me_var 2 (hv := Or.inl (by kernel_rfl))) (me_var 4 (hv := Or.inl (by kernel_rfl))) (fun _ _ => by kernel_rfl)) ma_nil)) (aLen_cons (aLen_cons aLen_nil))))
  (mss_one (ms_forA (passes_of rfl) rfl (mig_any (me_call (ok_ways_on T n) (hr.mono (by decide)) (gl_of (by kernel_rfl)) T.m_ways_on T.f_ways_on.kp T.b_ways_on tk (ma_cons (me_sub_ix hu (me_var 1 (hv := Or.inl (by kernel_rfl))) (me_var 4 (hv := Or.inl (by kernel_rfl))) (fun _ _ => by kernel_rfl)) (ma_cons (me_var 4 (hv := Or.inl (by kernel_rfl))) ma_nil)) (aLen_cons (aLen_cons aLen_nil)))) (mg_n (i := 6) (hx := Or.inl (by kernel_rfl)) (hf := Or.inr (by kernel_rfl)) sc_states_ahead.nd) (mss_one (ms_if (mt_lt (me_var 6 (hv := Or.inl (by kernel_rfl))) (me_len (gl_of (by kernel_rfl)) T.z_len (ma_cons (me_var 1 (hv := Or.inl (by kernel_rfl))) ma_nil))) (mss_cons (ms_s (i := 7) (hx := Or.inl (by kernel_rfl)) (hf := Or.inr (by kernel_rfl)) sc_states_ahead.nd (me_var 5 (hv := Or.inl (by kernel_rfl))))
  (mss_cons (ms_if (mt_in hu (me_var 6 (hv := Or.inl (by kernel_rfl))) (me_var 2 (hv := Or.inl (by kernel_rfl))) (by kernel_rfl)) (mss_cons (ms_s (i := 7) (hx := Or.inl (by kernel_rfl)) (hf := Or.inr (by kernel_rfl)) sc_states_ahead.nd me_dict0)
  (mss_one (ms_forA (passes_of rfl) rfl (mig_any (me_listA rfl (gl_of (by kernel_rfl)) T.z_list (ma_cons (me_var 5 (hv := Or.inl (by kernel_rfl))) ma_nil))) (mg_n (i := 8) (hx := Or.inl (by kernel_rfl)) (hf := Or.inr (by kernel_rfl)) sc_states_ahead.nd) (mss_one (ms_if (mt_eq hr.units (me_get1 hu (me_sub_ix hu (me_var 2 (hv := Or.inl (by kernel_rfl))) (me_var 6 (hv := Or.inl (by kernel_rfl))) (fun _ _ => by kernel_rfl)) (me_var 8 (hv := Or.inl (by kernel_rfl)))) (me_sub_ix hu (me_var 5 (hv := Or.inl (by kernel_rfl))) (me_var 8 (hv := Or.inl (by kernel_rfl))) (fun _ _ => by kernel_rfl))) (mss_one (ms_asg (me_sub_ix hu (me_var 5 (hv := Or.inl (by kernel_rfl))) (me_var 8 (hv := Or.inl (by kernel_rfl))) (fun _ _ => by kernel_rfl)) (mg_sub hu (me_var 7 (hv := Or.inl (by kernel_rfl))) (me_var 8 (hv := Or.inl (by kernel_rfl)))))) mss_nil))))) mss_nil)
  (mss_one (ms_if (mt_of (mw_or (mt_notin hu (me_var 6 (hv := Or.inl (by kernel_rfl))) (me_var 2 (hv := Or.inl (by kernel_rfl))) (by kernel_rfl)) (mw_or1 (mt_lt (me_len (gl_of (by kernel_rfl)) T.z_len (ma_cons (me_var 7 (hv := Or.inl (by kernel_rfl))) ma_nil)) (me_len (gl_of (by kernel_rfl)) T.z_len (ma_cons (me_sub_ix hu (me_var 2 (hv := Or.inl (by kernel_rfl))) (me_var 6 (hv := Or.inl (by kernel_rfl))) (fun _ _ => by kernel_rfl)) ma_nil)))))) (mss_cons (ms_asg (me_var 7 (hv := Or.inl (by kernel_rfl))) (mg_sub hu (me_var 2 (hv := Or.inl (by kernel_rfl))) (me_var 6 (hv := Or.inl (by kernel_rfl)))))
  (mss_one (ms_expr (me_append (me_var 3 (hv := Or.inl (by kernel_rfl))) (ma_cons (me_var 6 (hv := Or.inl (by kernel_rfl))) ma_nil))))) mss_nil)))) mss_nil)))))))
  (mss_one (ms_ret (me_var 2 (hv := Or.inl (by kernel_rfl))))))))
theorem sc_leads_back : FnScope ["steps", "first", "there", "seen", "line", "at", "other"] ["steps", "first", "there"] (defScope s_leads_back) := ⟨by kernel_rfl, by kernel_rfl, by kernel_rfl, by decide +kernel, by kernel_rfl, by decide +kernel, by decide +kernel⟩
set_option maxHeartbeats 4000000 in
theorem ok_leads_back (T : Txt w K mg A) (n : Nat) : FnOk P w K mg base (L2.CX P w) 2 A.a_leads_back A.d_leads_back ["steps", "first", "there"] (spM ⟨w, K⟩ (F_leads_back n) 3) :=
  def_okF ["steps", "first", "there", "seen", "line", "at", "other"] ["steps", "first", "there"] (b_leads_back n) (k := 1) (kk := 7) (nn := 3) (g := F_leads_back n) (by kernel_rfl) (by kernel_rfl) (by kernel_rfl) T.f_leads_back sc_leads_back fun cdv Ar outer s H E hr => by
  have hu := hr.units
  have tk : Takes (cxOf (L2.CX P w) P w K mg base ["steps", "first", "there", "seen", "line", "at", "other"] "leads_back" (defScope s_leads_back) A.a_leads_back cdv Ar outer s H E) (fun c d _ H => E c d H) := takes_of rfl rfl rfl rfl
  exact (mss_cons (ms_s (i := 3) (hx := Or.inl (by kernel_rfl)) (hf := Or.inr (by kernel_rfl)) sc_leads_back.nd me_dict0)
  (mss_cons (ms_s (i := 4) (hx := Or.inl (by kernel_rfl)) (hf := Or.inr (by kernel_rfl)) sc_leads_back.nd (me_lstN (ma_cons (me_var 1 (hv := Or.inl (by kernel_rfl))) ma_nil)))
  (mss_cons (ms_while n (passes_of rfl) (mt_ne hr.units (me_var 4 (hv := Or.inl (by kernel_rfl))) (me_lst ma_nil)) (mss_cons (ms_s (i := 5) (hx := Or.inl (by kernel_rfl)) (hf := Or.inr (by kernel_rfl)) sc_leads_back.nd (me_pop (me_var 4 (hv := Or.inl (by kernel_rfl)))))
  (mss_one (ms_forA (passes_of rfl) rfl (mig_any (me_call (ok_ways_on T n) (hr.mono (by decide)) (gl_of (by kernel_rfl)) T.m_ways_on T.f_ways_on.kp T.b_ways_on tk (ma_cons (me_sub_ix hu (me_var 0 (hv := Or.inl (by kernel_rfl))) (me_var 5 (hv := Or.inl (by kernel_rfl))) (fun _ _ => by kernel_rfl)) (ma_cons (me_var 5 (hv := Or.inl (by kernel_rfl))) ma_nil)) (aLen_cons (aLen_cons aLen_nil)))) (mg_n (i := 6) (hx := Or.inl (by kernel_rfl)) (hf := Or.inr (by kernel_rfl)) sc_leads_back.nd) (mss_cons (ms_if (mt_eq hr.units (me_var 6 (hv := Or.inl (by kernel_rfl))) (me_var 1 (hv := Or.inl (by kernel_rfl)))) (mss_one (ms_ret me_bl)) mss_nil)
  (mss_one (ms_if (mt_of (mw_and (mt_in hu (me_var 6 (hv := Or.inl (by kernel_rfl))) (me_var 2 (hv := Or.inl (by kernel_rfl))) (by kernel_rfl)) (mw_and1 (mt_notin hu (me_var 6 (hv := Or.inl (by kernel_rfl))) (me_var 3 (hv := Or.inl (by kernel_rfl))) (by kernel_rfl))))) (mss_cons (ms_asg me_bl (mg_sub hu (me_var 3 (hv := Or.inl (by kernel_rfl))) (me_var 6 (hv := Or.inl (by kernel_rfl)))))
  (mss_one (ms_expr (me_append (me_var 4 (hv := Or.inl (by kernel_rfl))) (ma_cons (me_var 6 (hv := Or.inl (by kernel_rfl))) ma_nil))))) mss_nil)))))))
  (mss_one (ms_ret me_bl)))))
theorem sc_step_on_a_ring : FnScope ["steps", "left", "fewer", "there", "first", "at", "other"] ["steps"] (defScope s_step_on_a_ring) := ⟨by kernel_rfl, by kernel_rfl, by kernel_rfl, by decide +kernel, by kernel_rfl, by decide +kernel, by decide +kernel⟩
set_option maxHeartbeats 4000000 in
theorem ok_step_on_a_ring (T : Txt w K mg A) (n : Nat) : FnOk P w K mg base (L2.CX P w) 3 A.a_step_on_a_ring A.d_step_on_a_ring ["steps"] (spM ⟨w, K⟩ (F_step_on_a_ring n) 1) :=
  def_okF ["steps", "left", "fewer", "there", "first", "at", "other"] ["steps"] (b_step_on_a_ring n) (k := 2) (kk := 7) (nn := 1) (g := F_step_on_a_ring n) (by kernel_rfl) (by kernel_rfl) (by kernel_rfl) T.f_step_on_a_ring sc_step_on_a_ring fun cdv Ar outer s H E hr => by
  have hu := hr.units
  have tk : Takes (cxOf (L2.CX P w) P w K mg base ["steps", "left", "fewer", "there", "first", "at", "other"] "step_on_a_ring" (defScope s_step_on_a_ring) A.a_step_on_a_ring cdv Ar outer s H E) (fun c d _ H => E c d H) := takes_of rfl rfl rfl rfl
  exact (mss_cons (ms_setLcA (i := 1) (own := [("at", 5)]) rfl sc_step_on_a_ring.nd rfl rfl (sw_true rfl rfl rfl (by decide +kernel)) (mig_any (me_call (ok_steps_come_to T n) (hr.mono (by decide)) (gl_of (by kernel_rfl)) T.m_steps_come_to T.f_steps_come_to.kp T.b_steps_come_to tk (ma_cons (me_var 0 (hv := Or.inr (Or.inl (by kernel_rfl)))) ma_nil) (aLen_cons aLen_nil))) (blkOk_by (by kernel_rfl)) (tgo_name (by decide)) lcV_end (fun _ _ _ _ _ => (pg_n (i := 5) (hx := Or.inl (by kernel_rfl)) (hf := Or.inr (by kernel_rfl)) sc_step_on_a_ring.nd)) (fun _ _ _ _ _ => (mts_one (mt_of (mw_and (mt_ne hr.units (me_sub_ix hu (me_sub_ix hu (me_var 0 (hv := Or.inr (Or.inl (by kernel_rfl)))) (me_var 5 (hv := Or.inl (by kernel_rfl))) (fun _ _ => by kernel_rfl)) me_int (fun _ _ => by kernel_rfl)) (me_str [116, 105, 99, 107] (by decide +kernel))) (mw_and1 (mt_ne hr.units (me_sub_ix hu (me_sub_ix hu (me_var 0 (hv := Or.inr (Or.inl (by kernel_rfl)))) (me_var 5 (hv := Or.inl (by kernel_rfl))) (fun _ _ => by kernel_rfl)) me_int (fun _ _ => by kernel_rfl)) (me_str [99, 97, 108, 108] (by decide +kernel)))))))) (fun _ _ _ _ _ => (me_var 5 (hv := Or.inl (by kernel_rfl)))))
  (mss_cons (ms_s (i := 2) (hx := Or.inl (by kernel_rfl)) (hf := Or.inr (by kernel_rfl)) sc_step_on_a_ring.nd me_non)
  (mss_cons (ms_while n (passes_of rfl) (mt_of (mw_or (mt_is (me_var 2 (hv := Or.inl (by kernel_rfl))) me_non) (mw_or1 (mt_lt (me_len (gl_of (by kernel_rfl)) T.z_len (ma_cons (me_var 2 (hv := Or.inl (by kernel_rfl))) ma_nil)) (me_len (gl_of (by kernel_rfl)) T.z_len (ma_cons (me_var 1 (hv := Or.inl (by kernel_rfl))) ma_nil)))))) (mss_cons (ms_if (mt_isnot (me_var 2 (hv := Or.inl (by kernel_rfl))) me_non) (mss_one (ms_s (i := 1) (hx := Or.inl (by kernel_rfl)) (hf := Or.inr (by kernel_rfl)) sc_step_on_a_ring.nd (me_var 2 (hv := Or.inl (by kernel_rfl))))) mss_nil)
  (mss_cons (ms_s (i := 3) (hx := Or.inr (by kernel_rfl)) (hf := Or.inl (by kernel_rfl)) sc_step_on_a_ring.nd (me_dictOf rfl (gl_of (by kernel_rfl)) T.z_dict (ma_cons (me_lcA (own := [("at", 5)]) rfl sc_step_on_a_ring.nd (mig_any (me_var 1 (hv := Or.inl (by kernel_rfl)))) (blkOk_by (by kernel_rfl)) (tgo_name (by decide)) lcV_end (fun _ _ _ _ _ => (pg_n (i := 5) (hx := Or.inl (by kernel_rfl)) (hf := Or.inr (by kernel_rfl)) sc_step_on_a_ring.nd)) (fun _ _ _ _ _ => mts_nil) (fun _ _ _ _ _ => (me_tup (ma_cons (me_var 5 (hv := Or.inl (by kernel_rfl))) (ma_cons me_bl ma_nil))))) ma_nil)))
  (mss_one (ms_setLcA (i := 2) (own := [("at", 5)]) rfl sc_step_on_a_ring.nd rfl rfl (sw_true rfl rfl rfl (by decide +kernel)) (mig_any (me_var 1 (hv := Or.inl (by kernel_rfl)))) (blkOk_by (by kernel_rfl)) (tgo_name (by decide)) lcV_end (fun _ _ _ _ _ => (pg_n (i := 5) (hx := Or.inl (by kernel_rfl)) (hf := Or.inr (by kernel_rfl)) sc_step_on_a_ring.nd)) (fun _ _ _ _ _ => (mts_one (mt_ne hr.units (me_lcA (own := [("other", 6)]) rfl sc_step_on_a_ring.nd (mig_any (me_call (ok_ways_on T n) (hr.mono (by decide)) (gl_of (by kernel_rfl)) T.m_ways_on T.f_ways_on.kp T.b_ways_on takes0 (ma_cons (me_sub_ix hu (me_var 0 (hv := Or.inr (Or.inl (by kernel_rfl)))) (me_var 5 (hv := Or.inl (by kernel_rfl))) (fun _ _ => by kernel_rfl)) (ma_cons (me_var 5 (hv := Or.inl (by kernel_rfl))) ma_nil)) (aLen_cons (aLen_cons aLen_nil)))) (blkOk_by (by kernel_rfl)) (tgo_name (by decide)) lcV_end (fun _ _ _ _ _ => (pg_n (i := 6) (hx := Or.inl (by kernel_rfl)) (hf := Or.inr (by kernel_rfl)) sc_step_on_a_ring.nd)) (fun _ _ _ _ _ => (mts_one (mt_in hu (me_var 6 (hv := Or.inl (by kernel_rfl))) (me_var 3 (hv := Or.inr (Or.inl (by kernel_rfl)))) (by kernel_rfl)))) (fun _ _ _ _ _ => (me_var 6 (hv := Or.inl (by kernel_rfl))))) (me_lst ma_nil)))) (fun _ _ _ _ _ => (me_var 5 (hv := Or.inl (by kernel_rfl)))))))))
  (mss_cons (ms_forA (passes_of rfl) rfl (mig_any (me_var 1 (hv := Or.inl (by kernel_rfl)))) (mg_n (i := 4) (hx := Or.inl (by kernel_rfl)) (hf := Or.inr (by kernel_rfl)) sc_step_on_a_ring.nd) (mss_one (ms_if (mt_val (me_call (ok_leads_back T n) (hr.mono (by decide)) (gl_of (by kernel_rfl)) T.m_leads_back T.f_leads_back.kp T.b_leads_back tk (ma_cons (me_var 0 (hv := Or.inr (Or.inl (by kernel_rfl)))) (ma_cons (me_var 4 (hv := Or.inl (by kernel_rfl))) (ma_cons (me_var 3 (hv := Or.inr (Or.inl (by kernel_rfl)))) ma_nil))) (aLen_cons (aLen_cons (aLen_cons aLen_nil))))) (mss_one (ms_ret (me_var 4 (hv := Or.inl (by kernel_rfl))))) mss_nil)))
  (mss_one (ms_ret me_non))))))
theorem sc_is_whole : FnScope ["thing", "least", "most"] ["thing", "least", "most"] (defScope s_is_whole) := ⟨by kernel_rfl, by kernel_rfl, by kernel_rfl, by decide +kernel, by kernel_rfl, by decide +kernel, by decide +kernel⟩
set_option maxHeartbeats 4000000 in
theorem ok_is_whole (T : Txt w K mg A) (n : Nat) : FnOk P w K mg base (L2.CX P w) 1 A.a_is_whole A.d_is_whole ["thing", "least", "most"] (spM ⟨w, K⟩ (F_is_whole n) 3) :=
  def_okF ["thing", "least", "most"] ["thing", "least", "most"] (b_is_whole n) (k := 0) (kk := 3) (nn := 3) (g := F_is_whole n) (by kernel_rfl) (by kernel_rfl) (by kernel_rfl) T.f_is_whole sc_is_whole fun cdv Ar outer s H E hr => by
  have hu := hr.units
  have tk : Takes (cxOf (L2.CX P w) P w K mg base ["thing", "least", "most"] "is_whole" (defScope s_is_whole) A.a_is_whole cdv Ar outer s H E) (fun c d _ H => E c d H) := takes_of rfl rfl rfl rfl
  exact (mss_one (ms_ret (me_and (me_isinst (gl_of (by kernel_rfl)) T.z_isinstance (ma_cons (me_var 0 (hv := Or.inl (by kernel_rfl))) (ma_cons (me_ty (gl_of (by kernel_rfl)) T.z_int (by decide +kernel)) ma_nil))) (me_and (me_not (me_isinst (gl_of (by kernel_rfl)) T.z_isinstance (ma_cons (me_var 0 (hv := Or.inl (by kernel_rfl))) (ma_cons (me_ty (gl_of (by kernel_rfl)) T.z_bool (by decide +kernel)) ma_nil)))) (me_one (me_chain op_le (t_cmpI _) op_le (t_cmpI _) (me_var 1 (hv := Or.inl (by kernel_rfl))) (me_var 0 (hv := Or.inl (by kernel_rfl))) (me_var 2 (hv := Or.inl (by kernel_rfl)))))))))
theorem sc_is_word : FnScope ["thing", "sign"] ["thing"] (defScope s_is_word) := ⟨by kernel_rfl, by kernel_rfl, by kernel_rfl, by decide +kernel, by kernel_rfl, by decide +kernel, by decide +kernel⟩
set_option maxHeartbeats 4000000 in
theorem ok_is_word (T : Txt w K mg A) (n : Nat) : FnOk P w K mg base (L2.CX P w) 1 A.a_is_word A.d_is_word ["thing"] (spM ⟨w, K⟩ (F_is_word n) 1) :=
  def_okF ["thing", "sign"] ["thing"] (b_is_word n) (k := 0) (kk := 2) (nn := 1) (g := F_is_word n) (by kernel_rfl) (by kernel_rfl) (by kernel_rfl) T.f_is_word sc_is_word fun cdv Ar outer s H E hr => by
  have hu := hr.units
  have tk : Takes (cxOf (L2.CX P w) P w K mg base ["thing", "sign"] "is_word" (defScope s_is_word) A.a_is_word cdv Ar outer s H E) (fun c d _ H => E c d H) := takes_of rfl rfl rfl rfl
  exact (mss_cons (ms_if (mt_of (mw_or (mt_not (mt_val (me_isinst (gl_of (by kernel_rfl)) T.z_isinstance (ma_cons (me_var 0 (hv := Or.inl (by kernel_rfl))) (ma_cons (me_ty (gl_of (by kernel_rfl)) T.z_str (by decide +kernel)) ma_nil))))) (mw_or (mt_lt (me_len (gl_of (by kernel_rfl)) T.z_len (ma_cons (me_var 0 (hv := Or.inl (by kernel_rfl))) ma_nil)) me_int) (mw_or1 (mt_gt (me_len (gl_of (by kernel_rfl)) T.z_len (ma_cons (me_var 0 (hv := Or.inl (by kernel_rfl))) ma_nil)) me_int))))) (mss_one (ms_ret me_bl)) mss_nil)
  (mss_one (ms_ret (me_eq hr.units (me_lcA (own := [("sign", 1)]) rfl sc_is_word.nd (mig_any (me_var 0 (hv := Or.inl (by kernel_rfl)))) (blkOk_by (by kernel_rfl)) (tgo_name (by decide)) lcV_end (fun _ _ _ _ _ => (pg_n (i := 1) (hx := Or.inl (by kernel_rfl)) (hf := Or.inr (by kernel_rfl)) sc_is_word.nd)) (fun _ _ _ _ _ => (mts_one (mt_notin hu (me_var 1 (hv := Or.inl (by kernel_rfl))) (me_str [97, 98, 99, 100, 101, 102, 103, 104, 105, 106, 107, 108, 109, 110, 111, 112, 113, 114, 115, 116, 117, 118, 119, 120, 121, 122] (by decide +kernel)) (by kernel_rfl)))) (fun _ _ _ _ _ => (me_var 1 (hv := Or.inl (by kernel_rfl))))) (me_lst ma_nil)))))
theorem sc_is_kinds : FnScope ["thing", "most", "sign"] ["thing", "most"] (defScope s_is_kinds) := ⟨by kernel_rfl, by kernel_rfl, by kernel_rfl, by decide +kernel, by kernel_rfl, by decide +kernel, by decide +kernel⟩
set_option maxHeartbeats 4000000 in
theorem ok_is_kinds (T : Txt w K mg A) (n : Nat) : FnOk P w K mg base (L2.CX P w) 1 A.a_is_kinds A.d_is_kinds ["thing", "most"] (spM ⟨w, K⟩ (F_is_kinds n) 2) :=
  def_okF ["thing", "most", "sign"] ["thing", "most"] (b_is_kinds n) (k := 0) (kk := 3) (nn := 2) (g := F_is_kinds n) (by kernel_rfl) (by kernel_rfl) (by kernel_rfl) T.f_is_kinds sc_is_kinds fun cdv Ar outer s H E hr => by
  have hu := hr.units
  have tk : Takes (cxOf (L2.CX P w) P w K mg base ["thing", "most", "sign"] "is_kinds" (defScope s_is_kinds) A.a_is_kinds cdv Ar outer s H E) (fun c d _ H => E c d H) := takes_of rfl rfl rfl rfl
  exact (mss_one (ms_ret (me_and (me_isinst (gl_of (by kernel_rfl)) T.z_isinstance (ma_cons (me_var 0 (hv := Or.inl (by kernel_rfl))) (ma_cons (me_ty (gl_of (by kernel_rfl)) T.z_str (by decide +kernel)) ma_nil))) (me_and (me_le (me_len (gl_of (by kernel_rfl)) T.z_len (ma_cons (me_var 0 (hv := Or.inl (by kernel_rfl))) ma_nil)) (me_var 1 (hv := Or.inl (by kernel_rfl)))) (me_one (me_eq hr.units (me_lcA (own := [("sign", 2)]) rfl sc_is_kinds.nd (mig_any (me_var 0 (hv := Or.inl (by kernel_rfl)))) (blkOk_by (by kernel_rfl)) (tgo_name (by decide)) lcV_end (fun _ _ _ _ _ => (pg_n (i := 2) (hx := Or.inl (by kernel_rfl)) (hf := Or.inr (by kernel_rfl)) sc_is_kinds.nd)) (fun _ _ _ _ _ => (mts_one (mt_notin hu (me_var 2 (hv := Or.inl (by kernel_rfl))) (me_str [110, 114] (by decide +kernel)) (by kernel_rfl)))) (fun _ _ _ _ _ => (me_var 2 (hv := Or.inl (by kernel_rfl))))) (me_lst ma_nil)))))))
theorem sc_is_box : FnScope ["thing"] ["thing"] (defScope s_is_box) := ⟨by kernel_rfl, by kernel_rfl, by kernel_rfl, by decide +kernel, by kernel_rfl, by decide +kernel, by decide +kernel⟩
set_option maxHeartbeats 4000000 in
theorem ok_is_box (T : Txt w K mg A) (n : Nat) : FnOk P w K mg base (L2.CX P w) 1 A.a_is_box A.d_is_box ["thing"] (spM ⟨w, K⟩ (F_is_box n) 1) :=
  def_okF ["thing"] ["thing"] (b_is_box n) (k := 0) (kk := 1) (nn := 1) (g := F_is_box n) (by kernel_rfl) (by kernel_rfl) (by kernel_rfl) T.f_is_box sc_is_box fun cdv Ar outer s H E hr => by
  have hu := hr.units
  have tk : Takes (cxOf (L2.CX P w) P w K mg base ["thing"] "is_box" (defScope s_is_box) A.a_is_box cdv Ar outer s H E) (fun c d _ H => E c d H) := takes_of rfl rfl rfl rfl
  exact (mss_one (ms_ret (me_and (me_isinst (gl_of (by kernel_rfl)) T.z_isinstance (ma_cons (me_var 0 (hv := Or.inl (by kernel_rfl))) (ma_cons (me_ty (gl_of (by kernel_rfl)) T.z_str (by decide +kernel)) ma_nil))) (me_one (me_in hu (me_var 0 (hv := Or.inl (by kernel_rfl))) (me_globT' (gl_of (by kernel_rfl)) T.c_BOXES) (by kernel_rfl))))))
theorem sc_is_operand : FnScope ["thing", "kind"] ["thing", "kind"] (defScope s_is_operand) := ⟨by kernel_rfl, by kernel_rfl, by kernel_rfl, by decide +kernel, by kernel_rfl, by decide +kernel, by decide +kernel⟩
set_option maxHeartbeats 4000000 in
theorem ok_is_operand (T : Txt w K mg A) (n : Nat) : FnOk P w K mg base (L2.CX P w) 2 A.a_is_operand A.d_is_operand ["thing", "kind"] (spM ⟨w, K⟩ (F_is_operand n) 2) :=
  def_okF ["thing", "kind"] ["thing", "kind"] (b_is_operand n) (k := 1) (kk := 2) (nn := 2) (g := F_is_operand n) (by kernel_rfl) (by kernel_rfl) (by kernel_rfl) T.f_is_operand sc_is_operand fun cdv Ar outer s H E hr => by
  have hu := hr.units
  have tk : Takes (cxOf (L2.CX P w) P w K mg base ["thing", "kind"] "is_operand" (defScope s_is_operand) A.a_is_operand cdv Ar outer s H E) (fun c d _ H => E c d H) := takes_of rfl rfl rfl rfl
  exact (mss_cons (ms_if (mt_of (mw_and (mt_eq hr.units (me_var 1 (hv := Or.inl (by kernel_rfl))) (me_str [110] (by decide +kernel))) (mw_and1 (mt_val (me_call (ok_is_whole T n) (hr.mono (by decide)) (gl_of (by kernel_rfl)) T.m_is_whole T.f_is_whole.kp T.b_is_whole tk (ma_cons (me_var 0 (hv := Or.inl (by kernel_rfl))) (ma_cons (me_neg me_int) (ma_cons me_int ma_nil))) (aLen_cons (aLen_cons (aLen_cons aLen_nil)))))))) (mss_one (ms_ret me_bl)) mss_nil)
  (mss_one (ms_ret (me_and (me_call (ok_is_box T n) (hr.mono (by decide)) (gl_of (by kernel_rfl)) T.m_is_box T.f_is_box.kp T.b_is_box tk (ma_cons (me_var 0 (hv := Or.inl (by kernel_rfl))) ma_nil) (aLen_cons aLen_nil)) (me_one (me_eq hr.units (me_sub_ix hu (me_var 0 (hv := Or.inl (by kernel_rfl))) me_int (fun _ _ => by kernel_rfl)) (me_var 1 (hv := Or.inl (by kernel_rfl)))))))))
theorem sc_is_cell : FnScope ["thing", "kind", "cells"] ["thing", "kind", "cells"] (defScope s_is_cell) := ⟨by kernel_rfl, by kernel_rfl, by kernel_rfl, by decide +kernel, by kernel_rfl, by decide +kernel, by decide +kernel⟩
set_option maxHeartbeats 4000000 in
theorem ok_is_cell (T : Txt w K mg A) (n : Nat) : FnOk P w K mg base (L2.CX P w) 2 A.a_is_cell A.d_is_cell ["thing", "kind", "cells"] (spM ⟨w, K⟩ (F_is_cell n) 3) :=
  def_okF ["thing", "kind", "cells"] ["thing", "kind", "cells"] (b_is_cell n) (k := 1) (kk := 3) (nn := 3) (g := F_is_cell n) (by kernel_rfl) (by kernel_rfl) (by kernel_rfl) T.f_is_cell sc_is_cell fun cdv Ar outer s H E hr => by
  have hu := hr.units
  have tk : Takes (cxOf (L2.CX P w) P w K mg base ["thing", "kind", "cells"] "is_cell" (defScope s_is_cell) A.a_is_cell cdv Ar outer s H E) (fun c d _ H => E c d H) := takes_of rfl rfl rfl rfl
  exact (mss_cons (ms_if (mt_of (mw_or (mt_not (mt_val (me_isinst (gl_of (by kernel_rfl)) T.z_isinstance (ma_cons (me_var 0 (hv := Or.inl (by kernel_rfl))) (ma_cons (me_ty (gl_of (by kernel_rfl)) T.z_tuple (by decide +kernel)) ma_nil))))) (mw_or1 (mt_ne hr.units (me_len (gl_of (by kernel_rfl)) T.z_len (ma_cons (me_var 0 (hv := Or.inl (by kernel_rfl))) ma_nil)) me_int)))) (mss_one (ms_ret me_bl)) mss_nil)
  (mss_one (ms_ret (me_and (me_isinst (gl_of (by kernel_rfl)) T.z_isinstance (ma_cons (me_sub_ix hu (me_var 0 (hv := Or.inl (by kernel_rfl))) me_int (fun _ _ => by kernel_rfl)) (ma_cons (me_ty (gl_of (by kernel_rfl)) T.z_str (by decide +kernel)) ma_nil))) (me_and (me_eq hr.units (me_sub_ix hu (me_var 0 (hv := Or.inl (by kernel_rfl))) me_int (fun _ _ => by kernel_rfl)) (me_var 1 (hv := Or.inl (by kernel_rfl)))) (me_one (me_call (ok_is_whole T n) (hr.mono (by decide)) (gl_of (by kernel_rfl)) T.m_is_whole T.f_is_whole.kp T.b_is_whole tk (ma_cons (me_sub_ix hu (me_var 0 (hv := Or.inl (by kernel_rfl))) me_int (fun _ _ => by kernel_rfl)) (ma_cons me_int (ma_cons (me_sub (me_var 2 (hv := Or.inl (by kernel_rfl))) me_int) ma_nil))) (aLen_cons (aLen_cons (aLen_cons aLen_nil))))))))))
theorem sc_are_laid : FnScope ["things", "kinds", "cells", "thing", "kind"] ["things", "kinds", "cells"] (defScope s_are_laid) := ⟨by kernel_rfl, by kernel_rfl, by kernel_rfl, by decide +kernel, by kernel_rfl, by decide +kernel, by decide +kernel⟩
set_option maxHeartbeats 4000000 in
theorem ok_are_laid (T : Txt w K mg A) (n : Nat) : FnOk P w K mg base (L2.CX P w) 3 A.a_are_laid A.d_are_laid ["things", "kinds", "cells"] (spM ⟨w, K⟩ (F_are_laid n) 3) :=
  def_okF ["things", "kinds", "cells", "thing", "kind"] ["things", "kinds", "cells"] (b_are_laid n) (k := 2) (kk := 5) (nn := 3) (g := F_are_laid n) (by kernel_rfl) (by kernel_rfl) (by kernel_rfl) T.f_are_laid sc_are_laid fun cdv Ar outer s H E hr => by
  have hu := hr.units
  have tk : Takes (cxOf (L2.CX P w) P w K mg base ["things", "kinds", "cells", "thing", "kind"] "are_laid" (defScope s_are_laid) A.a_are_laid cdv Ar outer s H E) (fun c d _ H => E c d H) := takes_of rfl rfl rfl rfl
  exact (mss_cons (ms_if (mt_of (mw_or (mt_not (mt_val (me_isinst (gl_of (by kernel_rfl)) T.z_isinstance (ma_cons (me_var 0 (hv := Or.inl (by kernel_rfl))) (ma_cons (me_ty (gl_of (by kernel_rfl)) T.z_tuple (by decide +kernel)) ma_nil))))) (mw_or1 (mt_ne hr.units (me_len (gl_of (by kernel_rfl)) T.z_len (ma_cons (me_var 0 (hv := Or.inl (by kernel_rfl))) ma_nil)) (me_len (gl_of (by kernel_rfl)) T.z_len (ma_cons (me_var 1 (hv := Or.inl (by kernel_rfl))) ma_nil)))))) (mss_one (ms_ret me_bl)) mss_nil)
  (mss_cons (ms_for (passes_of rfl) rfl (mi_zip (gl_of (by kernel_rfl)) T.z_zip (ma_cons (me_var 0 (hv := Or.inl (by kernel_rfl))) (ma_cons (me_var 1 (hv := Or.inl (by kernel_rfl))) ma_nil))) (mg_tup rfl (mgs_cons (mg_n (i := 3) (hx := Or.inl (by kernel_rfl)) (hf := Or.inr (by kernel_rfl)) sc_are_laid.nd) (mgs_cons (mg_n (i := 4) (hx := Or.inl (by kernel_rfl)) (hf := Or.inr (by kernel_rfl)) sc_are_laid.nd) mgs_nil))) (mss_one (ms_if (mt_of (mw_and (mt_not (mt_val (me_call (ok_is_operand T n) (hr.mono (by decide)) (gl_of (by kernel_rfl)) T.m_is_operand T.f_is_operand.kp T.b_is_operand tk (ma_cons (me_var 3 (hv := Or.inl (by kernel_rfl))) (ma_cons (me_var 4 (hv := Or.inl (by kernel_rfl))) ma_nil)) (aLen_cons (aLen_cons aLen_nil))))) (mw_and1 (mt_not (mt_val (me_call (ok_is_cell T n) (hr.mono (by decide)) (gl_of (by kernel_rfl)) T.m_is_cell T.f_is_cell.kp T.b_is_cell tk (ma_cons (me_var 3 (hv := Or.inl (by kernel_rfl))) (ma_cons (me_var 4 (hv := Or.inl (by kernel_rfl))) (ma_cons (me_var 2 (hv := Or.inl (by kernel_rfl))) ma_nil))) (aLen_cons (aLen_cons (aLen_cons aLen_nil))))))))) (mss_one (ms_ret me_bl)) mss_nil)))
  (mss_one (ms_ret me_bl))))
theorem sc_is_operation : FnScope ["step", "told", "kinds", "thing", "kind"] ["step"] (defScope s_is_operation) := ⟨by kernel_rfl, by kernel_rfl, by kernel_rfl, by decide +kernel, by kernel_rfl, by decide +kernel, by decide +kernel⟩
set_option maxHeartbeats 4000000 in
theorem ok_is_operation (T : Txt w K mg A) (n : Nat) : FnOk P w K mg base (L2.CX P w) 3 A.a_is_operation A.d_is_operation ["step"] (spM ⟨w, K⟩ (F_is_operation n) 1) :=
  def_okF ["step", "told", "kinds", "thing", "kind"] ["step"] (b_is_operation n) (k := 2) (kk := 5) (nn := 1) (g := F_is_operation n) (by kernel_rfl) (by kernel_rfl) (by kernel_rfl) T.f_is_operation sc_is_operation fun cdv Ar outer s H E hr => by
  have hu := hr.units
  have tk : Takes (cxOf (L2.CX P w) P w K mg base ["step", "told", "kinds", "thing", "kind"] "is_operation" (defScope s_is_operation) A.a_is_operation cdv Ar outer s H E) (fun c d _ H => E c d H) := takes_of rfl rfl rfl rfl
  exact (mss_cons (ms_if (mt_of (mw_or (mt_ne hr.units (me_len (gl_of (by kernel_rfl)) T.z_len (ma_cons (me_var 0 (hv := Or.inl (by kernel_rfl))) ma_nil)) me_int) (mw_or (mt_is (me_call (ok_kinds_of T n) (hr.mono (by decide)) (gl_of (by kernel_rfl)) T.m_kinds_of T.f_kinds_of.kp T.b_kinds_of tk (ma_cons (me_sub_ix hu (me_var 0 (hv := Or.inl (by kernel_rfl))) me_int (fun _ _ => by kernel_rfl)) ma_nil) (aLen_cons aLen_nil)) me_non) (mw_or1 (mt_not (mt_val (me_isinst (gl_of (by kernel_rfl)) T.z_isinstance (ma_cons (me_sub_ix hu (me_var 0 (hv := Or.inl (by kernel_rfl))) me_int (fun _ _ => by kernel_rfl)) (ma_cons (me_ty (gl_of (by kernel_rfl)) T.z_tuple (by decide +kernel)) ma_nil))))))))) (mss_one (ms_ret me_bl)) mss_nil)
  (mss_cons (ms_asg (me_call (ok_kinds_of T n) (hr.mono (by decide)) (gl_of (by kernel_rfl)) T.m_kinds_of T.f_kinds_of.kp T.b_kinds_of tk (ma_cons (me_sub_ix hu (me_var 0 (hv := Or.inl (by kernel_rfl))) me_int (fun _ _ => by kernel_rfl)) ma_nil) (aLen_cons aLen_nil)) (mg_tup rfl (mgs_cons (mg_n (i := 1) (hx := Or.inl (by kernel_rfl)) (hf := Or.inr (by kernel_rfl)) sc_is_operation.nd) (mgs_cons (mg_n (i := 2) (hx := Or.inl (by kernel_rfl)) (hf := Or.inr (by kernel_rfl)) sc_is_operation.nd) mgs_nil))))
  (mss_cons (ms_if (mt_is (me_var 2 (hv := Or.inl (by kernel_rfl))) me_non) (mss_cons (ms_s (i := 2) (hx := Or.inl (by kernel_rfl)) (hf := Or.inr (by kernel_rfl)) sc_is_operation.nd (me_mulS (me_str [110] (by decide +kernel)) (me_len (gl_of (by kernel_rfl)) T.z_len (ma_cons (me_sub_ix hu (me_var 0 (hv := Or.inl (by kernel_rfl))) me_int (fun _ _ => by kernel_rfl)) ma_nil))))
  (mss_one (ms_if (mt_gt (me_len (gl_of (by kernel_rfl)) T.z_len (ma_cons (me_var 2 (hv := Or.inl (by kernel_rfl))) ma_nil)) me_int) (mss_one (ms_ret me_bl)) mss_nil))) mss_nil)
  (mss_cons (ms_if (mt_of (mw_or (mt_not (mt_val (me_call (ok_is_box T n) (hr.mono (by decide)) (gl_of (by kernel_rfl)) T.m_is_box T.f_is_box.kp T.b_is_box tk (ma_cons (me_sub_ix hu (me_var 0 (hv := Or.inl (by kernel_rfl))) me_int (fun _ _ => by kernel_rfl)) ma_nil) (aLen_cons aLen_nil)))) (mw_or (mt_ne hr.units (me_sub_ix hu (me_sub_ix hu (me_var 0 (hv := Or.inl (by kernel_rfl))) me_int (fun _ _ => by kernel_rfl)) me_int (fun _ _ => by kernel_rfl)) (me_var 1 (hv := Or.inl (by kernel_rfl)))) (mw_or1 (mt_ne hr.units (me_len (gl_of (by kernel_rfl)) T.z_len (ma_cons (me_sub_ix hu (me_var 0 (hv := Or.inl (by kernel_rfl))) me_int (fun _ _ => by kernel_rfl)) ma_nil)) (me_len (gl_of (by kernel_rfl)) T.z_len (ma_cons (me_var 2 (hv := Or.inl (by kernel_rfl))) ma_nil))))))) (mss_one (ms_ret me_bl)) mss_nil)
  (mss_one (ms_ret (me_eq hr.units (me_lc (own := [("thing", 3), ("kind", 4)]) rfl sc_is_operation.nd (mi_zip (gl_of (by kernel_rfl)) T.z_zip (ma_cons (me_sub_ix hu (me_var 0 (hv := Or.inl (by kernel_rfl))) me_int (fun _ _ => by kernel_rfl)) (ma_cons (me_var 2 (hv := Or.inl (by kernel_rfl))) ma_nil))) (blkOk_by (by kernel_rfl)) (tgo_tup (tgos_cons (tgo_name (by decide)) (tgos_cons (tgo_name (by decide)) tgos_nil))) lcV_end (fun _ _ _ _ _ => (pg_tup rfl (pgs_cons (pg_n (i := 3) (hx := Or.inl (by kernel_rfl)) (hf := Or.inr (by kernel_rfl)) sc_is_operation.nd) (pgs_cons (pg_n (i := 4) (hx := Or.inl (by kernel_rfl)) (hf := Or.inr (by kernel_rfl)) sc_is_operation.nd) pgs_nil)))) (fun _ _ _ _ _ => (mts_one (mt_not (mt_val (me_call (ok_is_operand T n) (hr.mono (by decide)) (gl_of (by kernel_rfl)) T.m_is_operand T.f_is_operand.kp T.b_is_operand takes0 (ma_cons (me_var 3 (hv := Or.inl (by kernel_rfl))) (ma_cons (me_var 4 (hv := Or.inl (by kernel_rfl))) ma_nil)) (aLen_cons (aLen_cons aLen_nil))))))) (fun _ _ _ _ _ => (me_var 3 (hv := Or.inl (by kernel_rfl))))) (me_lst ma_nil))))))))
theorem sc_is_call : FnScope ["step", "cells", "code", "other", "thing", "kind", "place"] ["step", "cells", "code"] (defScope s_is_call) := ⟨by kernel_rfl, by kernel_rfl, by kernel_rfl, by decide +kernel, by kernel_rfl, by decide +kernel, by decide +kernel⟩
set_option maxHeartbeats 4000000 in
theorem ok_is_call (T : Txt w K mg A) (n : Nat) : FnOk P w K mg base (L2.CX P w) 4 A.a_is_call A.d_is_call ["step", "cells", "code"] (spM ⟨w, K⟩ (F_is_call n) 3) :=
  def_okF ["step", "cells", "code", "other", "thing", "kind", "place"] ["step", "cells", "code"] (b_is_call n) (k := 3) (kk := 7) (nn := 3) (g := F_is_call n) (by kernel_rfl) (by kernel_rfl) (by kernel_rfl) T.f_is_call sc_is_call fun cdv Ar outer s H E hr => by
  have hu := hr.units
  have tk : Takes (cxOf (L2.CX P w) P w K mg base ["step", "cells", "code", "other", "thing", "kind", "place"] "is_call" (defScope s_is_call) A.a_is_call cdv Ar outer s H E) (fun c d _ H => E c d H) := takes_of rfl rfl rfl rfl
  exact (mss_cons (ms_if (mt_of (mw_or (mt_ne hr.units (me_len (gl_of (by kernel_rfl)) T.z_len (ma_cons (me_var 0 (hv := Or.inl (by kernel_rfl))) ma_nil)) me_int) (mw_or1 (mt_not (mt_val (me_call (ok_is_whole T n) (hr.mono (by decide)) (gl_of (by kernel_rfl)) T.m_is_whole T.f_is_whole.kp T.b_is_whole tk (ma_cons (me_sub_ix hu (me_var 0 (hv := Or.inl (by kernel_rfl))) me_int (fun _ _ => by kernel_rfl)) (ma_cons me_int (ma_cons (me_sub (me_len (gl_of (by kernel_rfl)) T.z_len (ma_cons (me_var 2 (hv := Or.inl (by kernel_rfl))) ma_nil)) me_int) ma_nil))) (aLen_cons (aLen_cons (aLen_cons aLen_nil))))))))) (mss_one (ms_ret me_bl)) mss_nil)
  (mss_cons (ms_s (i := 3) (hx := Or.inl (by kernel_rfl)) (hf := Or.inr (by kernel_rfl)) sc_is_call.nd (me_sub_ix hu (me_var 2 (hv := Or.inl (by kernel_rfl))) (me_sub_ix hu (me_var 0 (hv := Or.inl (by kernel_rfl))) me_int (fun _ _ => by kernel_rfl)) (fun _ _ => by kernel_rfl)))
  (mss_cons (ms_if (mt_of (mw_or (mt_not (mt_val (me_call (ok_are_laid T n) (hr.mono (by decide)) (gl_of (by kernel_rfl)) T.m_are_laid T.f_are_laid.kp T.b_are_laid tk (ma_cons (me_sub_ix hu (me_var 0 (hv := Or.inl (by kernel_rfl))) me_int (fun _ _ => by kernel_rfl)) (ma_cons (me_sub_ix hu (me_var 3 (hv := Or.inl (by kernel_rfl))) me_int (fun _ _ => by kernel_rfl)) (ma_cons (me_var 1 (hv := Or.inr (Or.inl (by kernel_rfl)))) ma_nil))) (aLen_cons (aLen_cons (aLen_cons aLen_nil)))))) (mw_or (mt_not (mt_val (me_isinst (gl_of (by kernel_rfl)) T.z_isinstance (ma_cons (me_sub_ix hu (me_var 0 (hv := Or.inl (by kernel_rfl))) me_int (fun _ _ => by kernel_rfl)) (ma_cons (me_ty (gl_of (by kernel_rfl)) T.z_tuple (by decide +kernel)) ma_nil))))) (mw_or1 (mt_ne hr.units (me_len (gl_of (by kernel_rfl)) T.z_len (ma_cons (me_sub_ix hu (me_var 0 (hv := Or.inl (by kernel_rfl))) me_int (fun _ _ => by kernel_rfl)) ma_nil)) (me_len (gl_of (by kernel_rfl)) T.z_len (ma_cons (me_sub_ix hu (me_var 3 (hv := Or.inl (by kernel_rfl))) me_int (fun _ _ => by kernel_rfl)) ma_nil))))))) (mss_one (ms_ret me_bl)) mss_nil)
  (mss_cons (ms_if (mt_ne hr.units (me_lc (own := [("thing", 4), ("kind", 5)]) rfl sc_is_call.nd (mi_zip (gl_of (by kernel_rfl)) T.z_zip (ma_cons (me_sub_ix hu (me_var 0 (hv := Or.inl (by kernel_rfl))) me_int (fun _ _ => by kernel_rfl)) (ma_cons (me_sub_ix hu (me_var 3 (hv := Or.inl (by kernel_rfl))) me_int (fun _ _ => by kernel_rfl)) ma_nil))) (blkOk_by (by kernel_rfl)) (tgo_tup (tgos_cons (tgo_name (by decide)) (tgos_cons (tgo_name (by decide)) tgos_nil))) lcV_end (fun _ _ _ _ _ => (pg_tup rfl (pgs_cons (pg_n (i := 4) (hx := Or.inl (by kernel_rfl)) (hf := Or.inr (by kernel_rfl)) sc_is_call.nd) (pgs_cons (pg_n (i := 5) (hx := Or.inl (by kernel_rfl)) (hf := Or.inr (by kernel_rfl)) sc_is_call.nd) pgs_nil)))) (fun _ _ _ _ _ => (mts_one (mt_not (mt_val (me_call (ok_is_cell T n) (hr.mono (by decide)) (gl_of (by kernel_rfl)) T.m_is_cell T.f_is_cell.kp T.b_is_cell takes0 (ma_cons (me_var 4 (hv := Or.inl (by kernel_rfl))) (ma_cons (me_var 5 (hv := Or.inl (by kernel_rfl))) (ma_cons (me_var 1 (hv := Or.inr (Or.inl (by kernel_rfl)))) ma_nil))) (aLen_cons (aLen_cons (aLen_cons aLen_nil)))))))) (fun _ _ _ _ _ => (me_var 4 (hv := Or.inl (by kernel_rfl))))) (me_lst ma_nil)) (mss_one (ms_ret me_bl)) mss_nil)
  (mss_one (ms_ret (me_eq hr.units (me_lenSet rfl (gl_of (by kernel_rfl)) T.z_len (gl_of (by kernel_rfl)) T.z_set (me_lcA (own := [("kind", 5), ("place", 6)]) rfl sc_is_call.nd (mig_any (me_sub_ix hu (me_var 0 (hv := Or.inl (by kernel_rfl))) me_int (fun _ _ => by kernel_rfl))) (blkOk_by (by kernel_rfl)) (tgo_tup (tgos_cons (tgo_name (by decide)) (tgos_cons (tgo_name (by decide)) tgos_nil))) lcV_end (fun _ _ _ _ _ => (pg_tup rfl (pgs_cons (pg_n (i := 5) (hx := Or.inl (by kernel_rfl)) (hf := Or.inr (by kernel_rfl)) sc_is_call.nd) (pgs_cons (pg_n (i := 6) (hx := Or.inl (by kernel_rfl)) (hf := Or.inr (by kernel_rfl)) sc_is_call.nd) pgs_nil)))) (fun _ _ _ _ _ => mts_nil) (fun _ _ _ _ _ => (me_var 6 (hv := Or.inl (by kernel_rfl)))))) (me_len (gl_of (by kernel_rfl)) T.z_len (ma_cons (me_sub_ix hu (me_var 0 (hv := Or.inl (by kernel_rfl))) me_int (fun _ _ => by kernel_rfl)) ma_nil)))))))))
theorem sc_is_step : FnScope ["step", "function", "code", "word", "cells", "last"] ["step", "function", "code"] (defScope s_is_step) := ⟨by kernel_rfl, by kernel_rfl, by kernel_rfl, by decide +kernel, by kernel_rfl, by decide +kernel, by decide +kernel⟩
set_option maxHeartbeats 4000000 in
theorem ok_is_step (T : Txt w K mg A) (n : Nat) : FnOk P w K mg base (L2.CX P w) 5 A.a_is_step A.d_is_step ["step", "function", "code"] (spM ⟨w, K⟩ (F_is_step n) 3) :=
  def_okF ["step", "function", "code", "word", "cells", "last"] ["step", "function", "code"] (b_is_step n) (k := 4) (kk := 6) (nn := 3) (g := F_is_step n) (by kernel_rfl) (by kernel_rfl) (by kernel_rfl) T.f_is_step sc_is_step fun cdv Ar outer s H E hr => by
  have hu := hr.units
  have tk : Takes (cxOf (L2.CX P w) P w K mg base ["step", "function", "code", "word", "cells", "last"] "is_step" (defScope s_is_step) A.a_is_step cdv Ar outer s H E) (fun c d _ H => E c d H) := takes_of rfl rfl rfl rfl
  exact (mss_cons (ms_if (mt_of (mw_or (mt_not (mt_val (me_isinst (gl_of (by kernel_rfl)) T.z_isinstance (ma_cons (me_var 0 (hv := Or.inl (by kernel_rfl))) (ma_cons (me_ty (gl_of (by kernel_rfl)) T.z_tuple (by decide +kernel)) ma_nil))))) (mw_or (mt_lt (me_len (gl_of (by kernel_rfl)) T.z_len (ma_cons (me_var 0 (hv := Or.inl (by kernel_rfl))) ma_nil)) me_int) (mw_or1 (mt_not (mt_val (me_isinst (gl_of (by kernel_rfl)) T.z_isinstance (ma_cons (me_sub_ix hu (me_var 0 (hv := Or.inl (by kernel_rfl))) me_int (fun _ _ => by kernel_rfl)) (ma_cons (me_ty (gl_of (by kernel_rfl)) T.z_str (by decide +kernel)) ma_nil))))))))) (mss_one (ms_ret me_bl)) mss_nil)
  (mss_cons (ms_s (i := 3) (hx := Or.inl (by kernel_rfl)) (hf := Or.inr (by kernel_rfl)) sc_is_step.nd (me_sub_ix hu (me_var 0 (hv := Or.inl (by kernel_rfl))) me_int (fun _ _ => by kernel_rfl)))
  (mss_cons (ms_s (i := 4) (hx := Or.inl (by kernel_rfl)) (hf := Or.inr (by kernel_rfl)) sc_is_step.nd (me_sub_ix hu (me_var 1 (hv := Or.inl (by kernel_rfl))) me_int (fun _ _ => by kernel_rfl)))
  (mss_cons (ms_s (i := 5) (hx := Or.inl (by kernel_rfl)) (hf := Or.inr (by kernel_rfl)) sc_is_step.nd (me_sub (me_len (gl_of (by kernel_rfl)) T.z_len (ma_cons (me_sub_ix hu (me_var 1 (hv := Or.inl (by kernel_rfl))) me_int (fun _ _ => by kernel_rfl)) ma_nil)) me_int))
  (mss_cons (ms_if (mt_eq hr.units (me_var 3 (hv := Or.inl (by kernel_rfl))) (me_str [116, 105, 99, 107] (by decide +kernel))) (mss_one (ms_ret (me_eq hr.units (me_len (gl_of (by kernel_rfl)) T.z_len (ma_cons (me_var 0 (hv := Or.inl (by kernel_rfl))) ma_nil)) me_int))) mss_nil)
  (mss_cons (ms_if (mt_eq hr.units (me_var 3 (hv := Or.inl (by kernel_rfl))) (me_str [103, 105, 118, 101] (by decide +kernel))) (mss_one (ms_ret (me_and (me_eq hr.units (me_len (gl_of (by kernel_rfl)) T.z_len (ma_cons (me_var 0 (hv := Or.inl (by kernel_rfl))) ma_nil)) me_int) (me_one (me_call (ok_are_laid T n) (hr.mono (by decide)) (gl_of (by kernel_rfl)) T.m_are_laid T.f_are_laid.kp T.b_are_laid tk (ma_cons (me_sub_ix hu (me_var 0 (hv := Or.inl (by kernel_rfl))) me_int (fun _ _ => by kernel_rfl)) (ma_cons (me_sub_ix hu (me_var 1 (hv := Or.inl (by kernel_rfl))) me_int (fun _ _ => by kernel_rfl)) (ma_cons (me_var 4 (hv := Or.inl (by kernel_rfl))) ma_nil))) (aLen_cons (aLen_cons (aLen_cons aLen_nil)))))))) mss_nil)
  (mss_cons (ms_if (mt_eq hr.units (me_var 3 (hv := Or.inl (by kernel_rfl))) (me_str [106, 117, 109, 112] (by decide +kernel))) (mss_one (ms_ret (me_and (me_eq hr.units (me_len (gl_of (by kernel_rfl)) T.z_len (ma_cons (me_var 0 (hv := Or.inl (by kernel_rfl))) ma_nil)) me_int) (me_one (me_call (ok_is_whole T n) (hr.mono (by decide)) (gl_of (by kernel_rfl)) T.m_is_whole T.f_is_whole.kp T.b_is_whole tk (ma_cons (me_sub_ix hu (me_var 0 (hv := Or.inl (by kernel_rfl))) me_int (fun _ _ => by kernel_rfl)) (ma_cons me_int (ma_cons (me_var 5 (hv := Or.inl (by kernel_rfl))) ma_nil))) (aLen_cons (aLen_cons (aLen_cons aLen_nil)))))))) mss_nil)
  (mss_cons (ms_if (mt_eq hr.units (me_var 3 (hv := Or.inl (by kernel_rfl))) (me_str [98, 114, 97, 110, 99, 104] (by decide +kernel))) (mss_one (ms_ret (me_and (me_eq hr.units (me_len (gl_of (by kernel_rfl)) T.z_len (ma_cons (me_var 0 (hv := Or.inl (by kernel_rfl))) ma_nil)) me_int) (me_and (me_call (ok_is_operand T n) (hr.mono (by decide)) (gl_of (by kernel_rfl)) T.m_is_operand T.f_is_operand.kp T.b_is_operand tk (ma_cons (me_sub_ix hu (me_var 0 (hv := Or.inl (by kernel_rfl))) me_int (fun _ _ => by kernel_rfl)) (ma_cons (me_str [110] (by decide +kernel)) ma_nil)) (aLen_cons (aLen_cons aLen_nil))) (me_one (me_call (ok_is_whole T n) (hr.mono (by decide)) (gl_of (by kernel_rfl)) T.m_is_whole T.f_is_whole.kp T.b_is_whole tk (ma_cons (me_sub_ix hu (me_var 0 (hv := Or.inl (by kernel_rfl))) me_int (fun _ _ => by kernel_rfl)) (ma_cons me_int (ma_cons (me_var 5 (hv := Or.inl (by kernel_rfl))) ma_nil))) (aLen_cons (aLen_cons (aLen_cons aLen_nil))))))))) mss_nil)
  (mss_cons (ms_if (mt_eq hr.units (me_var 3 (hv := Or.inl (by kernel_rfl))) (me_str [110, 101, 101, 100] (by decide +kernel))) (mss_one (ms_ret (me_and (me_eq hr.units (me_len (gl_of (by kernel_rfl)) T.z_len (ma_cons (me_var 0 (hv := Or.inl (by kernel_rfl))) ma_nil)) me_int) (me_and (me_call (ok_is_word T n) (hr.mono (by decide)) (gl_of (by kernel_rfl)) T.m_is_word T.f_is_word.kp T.b_is_word tk (ma_cons (me_sub_ix hu (me_var 0 (hv := Or.inl (by kernel_rfl))) me_int (fun _ _ => by kernel_rfl)) ma_nil) (aLen_cons aLen_nil)) (me_one (me_call (ok_is_operand T n) (hr.mono (by decide)) (gl_of (by kernel_rfl)) T.m_is_operand T.f_is_operand.kp T.b_is_operand tk (ma_cons (me_sub_ix hu (me_var 0 (hv := Or.inl (by kernel_rfl))) me_int (fun _ _ => by kernel_rfl)) (ma_cons (me_str [110] (by decide +kernel)) ma_nil)) (aLen_cons (aLen_cons aLen_nil)))))))) mss_nil)
  (mss_cons (ms_if (mt_eq hr.units (me_var 3 (hv := Or.inl (by kernel_rfl))) (me_str [108, 111, 97, 100] (by decide +kernel))) (mss_one (ms_ret (me_and (me_eq hr.units (me_len (gl_of (by kernel_rfl)) T.z_len (ma_cons (me_var 0 (hv := Or.inl (by kernel_rfl))) ma_nil)) me_int) (me_and (me_call (ok_is_box T n) (hr.mono (by decide)) (gl_of (by kernel_rfl)) T.m_is_box T.f_is_box.kp T.b_is_box tk (ma_cons (me_sub_ix hu (me_var 0 (hv := Or.inl (by kernel_rfl))) me_int (fun _ _ => by kernel_rfl)) ma_nil) (aLen_cons aLen_nil)) (me_one (me_call (ok_is_whole T n) (hr.mono (by decide)) (gl_of (by kernel_rfl)) T.m_is_whole T.f_is_whole.kp T.b_is_whole tk (ma_cons (me_sub_ix hu (me_var 0 (hv := Or.inl (by kernel_rfl))) me_int (fun _ _ => by kernel_rfl)) (ma_cons me_int (ma_cons (me_sub (me_var 4 (hv := Or.inl (by kernel_rfl))) me_int) ma_nil))) (aLen_cons (aLen_cons (aLen_cons aLen_nil))))))))) mss_nil)
  (mss_cons (ms_if (mt_eq hr.units (me_var 3 (hv := Or.inl (by kernel_rfl))) (me_str [115, 116, 111, 114, 101] (by decide +kernel))) (mss_one (ms_ret (me_and (me_eq hr.units (me_len (gl_of (by kernel_rfl)) T.z_len (ma_cons (me_var 0 (hv := Or.inl (by kernel_rfl))) ma_nil)) me_int) (me_and (me_call (ok_is_whole T n) (hr.mono (by decide)) (gl_of (by kernel_rfl)) T.m_is_whole T.f_is_whole.kp T.b_is_whole tk (ma_cons (me_sub_ix hu (me_var 0 (hv := Or.inl (by kernel_rfl))) me_int (fun _ _ => by kernel_rfl)) (ma_cons me_int (ma_cons (me_sub (me_var 4 (hv := Or.inl (by kernel_rfl))) me_int) ma_nil))) (aLen_cons (aLen_cons (aLen_cons aLen_nil)))) (me_one (me_call (ok_is_box T n) (hr.mono (by decide)) (gl_of (by kernel_rfl)) T.m_is_box T.f_is_box.kp T.b_is_box tk (ma_cons (me_sub_ix hu (me_var 0 (hv := Or.inl (by kernel_rfl))) me_int (fun _ _ => by kernel_rfl)) ma_nil) (aLen_cons aLen_nil))))))) mss_nil)
  (mss_cons (ms_if (mt_eq hr.units (me_var 3 (hv := Or.inl (by kernel_rfl))) (me_str [99, 97, 108, 108] (by decide +kernel))) (mss_one (ms_ret (me_call (ok_is_call T n) (hr.mono (by decide)) (gl_of (by kernel_rfl)) T.m_is_call T.f_is_call.kp T.b_is_call tk (ma_cons (me_var 0 (hv := Or.inl (by kernel_rfl))) (ma_cons (me_var 4 (hv := Or.inl (by kernel_rfl))) (ma_cons (me_var 2 (hv := Or.inl (by kernel_rfl))) ma_nil))) (aLen_cons (aLen_cons (aLen_cons aLen_nil)))))) mss_nil)
  (mss_one (ms_ret (me_call (ok_is_operation T n) (hr.mono (by decide)) (gl_of (by kernel_rfl)) T.m_is_operation T.f_is_operation.kp T.b_is_operation tk (ma_cons (me_var 0 (hv := Or.inl (by kernel_rfl))) ma_nil) (aLen_cons aLen_nil))))))))))))))))
theorem sc_is_function : FnScope ["function", "words", "word", "takes", "results", "cells", "steps"] ["function", "words"] (defScope s_is_function) := ⟨by kernel_rfl, by kernel_rfl, by kernel_rfl, by decide +kernel, by kernel_rfl, by decide +kernel, by decide +kernel⟩
set_option maxHeartbeats 4000000 in
theorem ok_is_function (T : Txt w K mg A) (n : Nat) : FnOk P w K mg base (L2.CX P w) 2 A.a_is_function A.d_is_function ["function", "words"] (spM ⟨w, K⟩ (F_is_function n) 2) :=
  def_okF ["function", "words", "word", "takes", "results", "cells", "steps"] ["function", "words"] (b_is_function n) (k := 1) (kk := 7) (nn := 2) (g := F_is_function n) (by kernel_rfl) (by kernel_rfl) (by kernel_rfl) T.f_is_function sc_is_function fun cdv Ar outer s H E hr => by
  have hu := hr.units
  have tk : Takes (cxOf (L2.CX P w) P w K mg base ["function", "words", "word", "takes", "results", "cells", "steps"] "is_function" (defScope s_is_function) A.a_is_function cdv Ar outer s H E) (fun c d _ H => E c d H) := takes_of rfl rfl rfl rfl
  exact (mss_cons (ms_if (mt_of (mw_or (mt_not (mt_val (me_isinst (gl_of (by kernel_rfl)) T.z_isinstance (ma_cons (me_var 0 (hv := Or.inl (by kernel_rfl))) (ma_cons (me_ty (gl_of (by kernel_rfl)) T.z_tuple (by decide +kernel)) ma_nil))))) (mw_or1 (mt_ne hr.units (me_len (gl_of (by kernel_rfl)) T.z_len (ma_cons (me_var 0 (hv := Or.inl (by kernel_rfl))) ma_nil)) me_int)))) (mss_one (ms_ret me_bl)) mss_nil)
  (mss_cons (ms_asg (me_var 0 (hv := Or.inl (by kernel_rfl))) (mg_tup rfl (mgs_cons (mg_n (i := 2) (hx := Or.inl (by kernel_rfl)) (hf := Or.inr (by kernel_rfl)) sc_is_function.nd) (mgs_cons (mg_n (i := 3) (hx := Or.inl (by kernel_rfl)) (hf := Or.inr (by kernel_rfl)) sc_is_function.nd) (mgs_cons (mg_n (i := 4) (hx := Or.inl (by kernel_rfl)) (hf := Or.inr (by kernel_rfl)) sc_is_function.nd) (mgs_cons (mg_n (i := 5) (hx := Or.inl (by kernel_rfl)) (hf := Or.inr (by kernel_rfl)) sc_is_function.nd) (mgs_cons (mg_n (i := 6) (hx := Or.inl (by kernel_rfl)) (hf := Or.inr (by kernel_rfl)) sc_is_function.nd) mgs_nil)))))))
  (mss_cons (ms_if (mt_of (mw_or (mt_not (mt_val (me_call (ok_is_word T n) (hr.mono (by decide)) (gl_of (by kernel_rfl)) T.m_is_word T.f_is_word.kp T.b_is_word tk (ma_cons (me_var 2 (hv := Or.inl (by kernel_rfl))) ma_nil) (aLen_cons aLen_nil)))) (mw_or (mt_in hu (me_var 2 (hv := Or.inl (by kernel_rfl))) (me_var 1 (hv := Or.inl (by kernel_rfl))) (by kernel_rfl)) (mw_or (mt_not (mt_val (me_call (ok_is_kinds T n) (hr.mono (by decide)) (gl_of (by kernel_rfl)) T.m_is_kinds T.f_is_kinds.kp T.b_is_kinds tk (ma_cons (me_var 3 (hv := Or.inl (by kernel_rfl))) (ma_cons me_int ma_nil)) (aLen_cons (aLen_cons aLen_nil))))) (mw_or1 (mt_not (mt_val (me_call (ok_is_kinds T n) (hr.mono (by decide)) (gl_of (by kernel_rfl)) T.m_is_kinds T.f_is_kinds.kp T.b_is_kinds tk (ma_cons (me_var 4 (hv := Or.inl (by kernel_rfl))) (ma_cons me_int ma_nil)) (aLen_cons (aLen_cons aLen_nil)))))))))) (mss_one (ms_ret me_bl)) mss_nil)
  (mss_one (ms_ret (me_and (me_call (ok_is_whole T n) (hr.mono (by decide)) (gl_of (by kernel_rfl)) T.m_is_whole T.f_is_whole.kp T.b_is_whole tk (ma_cons (me_var 5 (hv := Or.inl (by kernel_rfl))) (ma_cons (me_len (gl_of (by kernel_rfl)) T.z_len (ma_cons (me_var 3 (hv := Or.inl (by kernel_rfl))) ma_nil)) (ma_cons me_int ma_nil))) (aLen_cons (aLen_cons (aLen_cons aLen_nil)))) (me_and (me_isinst (gl_of (by kernel_rfl)) T.z_isinstance (ma_cons (me_var 6 (hv := Or.inl (by kernel_rfl))) (ma_cons (me_ty (gl_of (by kernel_rfl)) T.z_tuple (by decide +kernel)) ma_nil))) (me_one (me_chain op_le (t_cmpI _) op_le (t_cmpI _) me_int (me_len (gl_of (by kernel_rfl)) T.z_len (ma_cons (me_var 6 (hv := Or.inl (by kernel_rfl))) ma_nil)) me_int)))))))))
theorem sc_ask_ways : FnScope ["number", "function", "steps", "states", "at"] ["number", "function"] (defScope s_ask_ways) := ⟨by kernel_rfl, by kernel_rfl, by kernel_rfl, by decide +kernel, by kernel_rfl, by decide +kernel, by decide +kernel⟩
set_option maxHeartbeats 4000000 in
theorem ok_ask_ways (T : Txt w K mg A) (n : Nat) : FnOk P w K mg base (L2.CX P w) 3 A.a_ask_ways A.d_ask_ways ["number", "function"] (spM ⟨w, K⟩ (F_ask_ways n) 2) :=
  def_okF ["number", "function", "steps", "states", "at"] ["number", "function"] (b_ask_ways n) (k := 2) (kk := 5) (nn := 2) (g := F_ask_ways n) (by kernel_rfl) (by kernel_rfl) (by kernel_rfl) T.f_ask_ways sc_ask_ways fun cdv Ar outer s H E hr => by
  have hu := hr.units
  have tk : Takes (cxOf (L2.CX P w) P w K mg base ["number", "function", "steps", "states", "at"] "ask_ways" (defScope s_ask_ways) A.a_ask_ways cdv Ar outer s H E) (fun c d _ H => E c d H) := takes_of rfl rfl rfl rfl
  exact (mss_cons (ms_s (i := 2) (hx := Or.inl (by kernel_rfl)) (hf := Or.inr (by kernel_rfl)) sc_ask_ways.nd (me_sub_ix hu (me_var 1 (hv := Or.inl (by kernel_rfl))) me_int (fun _ _ => by kernel_rfl)))
  (mss_cons (ms_s (i := 3) (hx := Or.inl (by kernel_rfl)) (hf := Or.inr (by kernel_rfl)) sc_ask_ways.nd (me_call (ok_states_ahead T n) (hr.mono (by decide)) (gl_of (by kernel_rfl)) T.m_states_ahead T.f_states_ahead.kp T.b_states_ahead tk (ma_cons (me_sub_ix hu (me_var 1 (hv := Or.inl (by kernel_rfl))) me_int (fun _ _ => by kernel_rfl)) (ma_cons (me_var 2 (hv := Or.inl (by kernel_rfl))) ma_nil)) (aLen_cons (aLen_cons aLen_nil))))
  (mss_one (ms_forA (passes_of rfl) rfl (mig_any (me_sorted rfl (gl_of (by kernel_rfl)) T.z_sorted (ma_cons (me_listA rfl (gl_of (by kernel_rfl)) T.z_list (ma_cons (me_var 3 (hv := Or.inl (by kernel_rfl))) ma_nil)) ma_nil))) (mg_n (i := 4) (hx := Or.inl (by kernel_rfl)) (hf := Or.inr (by kernel_rfl)) sc_ask_ways.nd) (mss_one (ms_if (mt_of (mw_or (mt_not (mt_val (me_call (ok_reads_well T n) (hr.mono (by decide)) (gl_of (by kernel_rfl)) T.m_reads_well T.f_reads_well.kp T.b_reads_well tk (ma_cons (me_sub_ix hu (me_var 2 (hv := Or.inl (by kernel_rfl))) (me_var 4 (hv := Or.inl (by kernel_rfl))) (fun _ _ => by kernel_rfl)) (ma_cons (me_sub_ix hu (me_var 3 (hv := Or.inl (by kernel_rfl))) (me_var 4 (hv := Or.inl (by kernel_rfl))) (fun _ _ => by kernel_rfl)) ma_nil)) (aLen_cons (aLen_cons aLen_nil))))) (mw_or1 (mt_in hu (me_len (gl_of (by kernel_rfl)) T.z_len (ma_cons (me_var 2 (hv := Or.inl (by kernel_rfl))) ma_nil)) (me_call (ok_ways_on T n) (hr.mono (by decide)) (gl_of (by kernel_rfl)) T.m_ways_on T.f_ways_on.kp T.b_ways_on tk (ma_cons (me_sub_ix hu (me_var 2 (hv := Or.inl (by kernel_rfl))) (me_var 4 (hv := Or.inl (by kernel_rfl))) (fun _ _ => by kernel_rfl)) (ma_cons (me_var 4 (hv := Or.inl (by kernel_rfl))) ma_nil)) (aLen_cons (aLen_cons aLen_nil))) (by kernel_rfl))))) (mss_one ms_bad) mss_nil))))))
theorem sc_right_code : FnScope ["code", "words", "number", "function", "at", "step"] ["code"] (defScope s_right_code) := ⟨by kernel_rfl, by kernel_rfl, by kernel_rfl, by decide +kernel, by kernel_rfl, by decide +kernel, by decide +kernel⟩
set_option maxHeartbeats 4000000 in
theorem ok_right_code (T : Txt w K mg A) (n : Nat) : FnOk P w K mg base (L2.CX P w) 6 A.a_right_code A.d_right_code ["code"] (spM ⟨w, K⟩ (F_right_code n) 1) :=
  def_okF ["code", "words", "number", "function", "at", "step"] ["code"] (b_right_code n) (k := 5) (kk := 6) (nn := 1) (g := F_right_code n) (by kernel_rfl) (by kernel_rfl) (by kernel_rfl) T.f_right_code sc_right_code fun cdv Ar outer s H E hr => by
  have hu := hr.units
  have tk : Takes (cxOf (L2.CX P w) P w K mg base ["code", "words", "number", "function", "at", "step"] "right_code" (defScope s_right_code) A.a_right_code cdv Ar outer s H E) (fun c d _ H => E c d H) := takes_of rfl rfl rfl rfl
  exact (mss_cons (ms_if (mt_of (mw_or (mt_not (mt_val (me_isinst (gl_of (by kernel_rfl)) T.z_isinstance (ma_cons (me_var 0 (hv := Or.inl (by kernel_rfl))) (ma_cons (me_ty (gl_of (by kernel_rfl)) T.z_tuple (by decide +kernel)) ma_nil))))) (mw_or (mt_lt (me_len (gl_of (by kernel_rfl)) T.z_len (ma_cons (me_var 0 (hv := Or.inl (by kernel_rfl))) ma_nil)) me_int) (mw_or1 (mt_gt (me_len (gl_of (by kernel_rfl)) T.z_len (ma_cons (me_var 0 (hv := Or.inl (by kernel_rfl))) ma_nil)) me_int))))) (mss_one ms_bad) mss_nil)
  (mss_cons (ms_s (i := 1) (hx := Or.inl (by kernel_rfl)) (hf := Or.inr (by kernel_rfl)) sc_right_code.nd (me_lstN ma_nil))
  (mss_cons (ms_forA (passes_of rfl) rfl (mig_enum (gl_of (by kernel_rfl)) T.z_enumerate (me_var 0 (hv := Or.inl (by kernel_rfl)))) (mg_tup rfl (mgs_cons (mg_n (i := 2) (hx := Or.inl (by kernel_rfl)) (hf := Or.inr (by kernel_rfl)) sc_right_code.nd) (mgs_cons (mg_n (i := 3) (hx := Or.inl (by kernel_rfl)) (hf := Or.inr (by kernel_rfl)) sc_right_code.nd) mgs_nil))) (mss_cons (ms_if (mt_not (mt_val (me_call (ok_is_function T n) (hr.mono (by decide)) (gl_of (by kernel_rfl)) T.m_is_function T.f_is_function.kp T.b_is_function tk (ma_cons (me_var 3 (hv := Or.inl (by kernel_rfl))) (ma_cons (me_var 1 (hv := Or.inl (by kernel_rfl))) ma_nil)) (aLen_cons (aLen_cons aLen_nil))))) (mss_one ms_bad) mss_nil)
  (mss_one (ms_expr (me_append (me_var 1 (hv := Or.inl (by kernel_rfl))) (ma_cons (me_sub_ix hu (me_var 3 (hv := Or.inl (by kernel_rfl))) me_int (fun _ _ => by kernel_rfl)) ma_nil))))))
  (mss_cons (ms_forA (passes_of rfl) rfl (mig_enum (gl_of (by kernel_rfl)) T.z_enumerate (me_var 0 (hv := Or.inl (by kernel_rfl)))) (mg_tup rfl (mgs_cons (mg_n (i := 2) (hx := Or.inl (by kernel_rfl)) (hf := Or.inr (by kernel_rfl)) sc_right_code.nd) (mgs_cons (mg_n (i := 3) (hx := Or.inl (by kernel_rfl)) (hf := Or.inr (by kernel_rfl)) sc_right_code.nd) mgs_nil))) (mss_one (ms_forA (passes_of rfl) rfl (mig_enum (gl_of (by kernel_rfl)) T.z_enumerate (me_sub_ix hu (me_var 3 (hv := Or.inl (by kernel_rfl))) me_int (fun _ _ => by kernel_rfl))) (mg_tup rfl (mgs_cons (mg_n (i := 4) (hx := Or.inl (by kernel_rfl)) (hf := Or.inr (by kernel_rfl)) sc_right_code.nd) (mgs_cons (mg_n (i := 5) (hx := Or.inl (by kernel_rfl)) (hf := Or.inr (by kernel_rfl)) sc_right_code.nd) mgs_nil))) (mss_one (ms_if (mt_not (mt_val (me_call (ok_is_step T n) (hr.mono (by decide)) (gl_of (by kernel_rfl)) T.m_is_step T.f_is_step.kp T.b_is_step tk (ma_cons (me_var 5 (hv := Or.inl (by kernel_rfl))) (ma_cons (me_var 3 (hv := Or.inl (by kernel_rfl))) (ma_cons (me_var 0 (hv := Or.inl (by kernel_rfl))) ma_nil))) (aLen_cons (aLen_cons (aLen_cons aLen_nil)))))) (mss_one ms_bad) mss_nil)))))
  (mss_cons (ms_forA (passes_of rfl) rfl (mig_enum (gl_of (by kernel_rfl)) T.z_enumerate (me_var 0 (hv := Or.inl (by kernel_rfl)))) (mg_tup rfl (mgs_cons (mg_n (i := 2) (hx := Or.inl (by kernel_rfl)) (hf := Or.inr (by kernel_rfl)) sc_right_code.nd) (mgs_cons (mg_n (i := 3) (hx := Or.inl (by kernel_rfl)) (hf := Or.inr (by kernel_rfl)) sc_right_code.nd) mgs_nil))) (mss_one (ms_expr (me_call (ok_ask_ways T n) (hr.mono (by decide)) (gl_of (by kernel_rfl)) T.m_ask_ways T.f_ask_ways.kp T.b_ask_ways tk (ma_cons (me_var 2 (hv := Or.inl (by kernel_rfl))) (ma_cons (me_var 3 (hv := Or.inl (by kernel_rfl))) ma_nil)) (aLen_cons (aLen_cons aLen_nil))))))
  (mss_cons (ms_forA (passes_of rfl) rfl (mig_enum (gl_of (by kernel_rfl)) T.z_enumerate (me_var 0 (hv := Or.inl (by kernel_rfl)))) (mg_tup rfl (mgs_cons (mg_n (i := 2) (hx := Or.inl (by kernel_rfl)) (hf := Or.inr (by kernel_rfl)) sc_right_code.nd) (mgs_cons (mg_n (i := 3) (hx := Or.inl (by kernel_rfl)) (hf := Or.inr (by kernel_rfl)) sc_right_code.nd) mgs_nil))) (mss_cons (ms_s (i := 4) (hx := Or.inl (by kernel_rfl)) (hf := Or.inr (by kernel_rfl)) sc_right_code.nd (me_call (ok_step_on_a_ring T n) (hr.mono (by decide)) (gl_of (by kernel_rfl)) T.m_step_on_a_ring T.f_step_on_a_ring.kp T.b_step_on_a_ring tk (ma_cons (me_sub_ix hu (me_var 3 (hv := Or.inl (by kernel_rfl))) me_int (fun _ _ => by kernel_rfl)) ma_nil) (aLen_cons aLen_nil)))
  (mss_one (ms_if (mt_isnot (me_var 4 (hv := Or.inl (by kernel_rfl))) me_non) (mss_one ms_bad) mss_nil))))
  (mss_one (ms_ret me_bl))))))))
theorem sc__law_by : FnScope ["_law_script", "_law_k", "_law_many", "_law_own", "_law_cell", "_law_j", "_law_mixed"] ["_law_script", "_law_k", "_law_many"] (defScope s__law_by) := ⟨by kernel_rfl, by kernel_rfl, by kernel_rfl, by decide +kernel, by kernel_rfl, by decide +kernel, by decide +kernel⟩
set_option maxHeartbeats 4000000 in
theorem ok__law_by (T : Txt w K mg A) (n : Nat) : FnOk P w K mg base (L2.CX P w) 1 A.a__law_by A.d__law_by ["_law_script", "_law_k", "_law_many"] (spM ⟨w, K⟩ (F__law_by n) 3) :=
  def_okF ["_law_script", "_law_k", "_law_many", "_law_own", "_law_cell", "_law_j", "_law_mixed"] ["_law_script", "_law_k", "_law_many"] (b__law_by n) (k := 0) (kk := 7) (nn := 3) (g := F__law_by n) (by kernel_rfl) (by kernel_rfl) (by kernel_rfl) T.f__law_by sc__law_by fun cdv Ar outer s H E hr => by
  have hu := hr.units
  have tk : Takes (cxOf (L2.CX P w) P w K mg base ["_law_script", "_law_k", "_law_many", "_law_own", "_law_cell", "_law_j", "_law_mixed"] "_law_by" (defScope s__law_by) A.a__law_by cdv Ar outer s H E) (fun c d _ H => E c d H) := takes_of rfl rfl rfl rfl
  exact (mss_cons (ms_s (i := 3) (hx := Or.inl (by kernel_rfl)) (hf := Or.inr (by kernel_rfl)) sc__law_by.nd me_int)
  (mss_cons (ms_if (mt_gt (me_len (gl_of (by kernel_rfl)) T.z_len (ma_cons (me_var 0 (hv := Or.inl (by kernel_rfl))) ma_nil)) me_int) (mss_cons (ms_s (i := 3) (hx := Or.inl (by kernel_rfl)) (hf := Or.inr (by kernel_rfl)) sc__law_by.nd (me_sub_ix hu (me_var 0 (hv := Or.inl (by kernel_rfl))) (me_mod (me_var 1 (hv := Or.inl (by kernel_rfl))) (me_len (gl_of (by kernel_rfl)) T.z_len (ma_cons (me_var 0 (hv := Or.inl (by kernel_rfl))) ma_nil))) (fun _ _ => by kernel_rfl)))
  (mss_cons (ms_s (i := 4) (hx := Or.inl (by kernel_rfl)) (hf := Or.inr (by kernel_rfl)) sc__law_by.nd (me_var 3 (hv := Or.inl (by kernel_rfl))))
  (mss_one (ms_if (mt_of (mw_and (mt_eq hr.units (me_mod (me_sub_ix hu (me_var 0 (hv := Or.inl (by kernel_rfl))) me_int (fun _ _ => by kernel_rfl)) me_int) me_int) (mw_and1 (mt_lt (me_var 1 (hv := Or.inl (by kernel_rfl))) (me_mul me_int (me_len (gl_of (by kernel_rfl)) T.z_len (ma_cons (me_var 0 (hv := Or.inl (by kernel_rfl))) ma_nil))))))) (mss_cons (ms_for (passes_of rfl) rfl (mi_range1 (gl_of (by kernel_rfl)) T.z_range (ma_cons (me_fdiv (me_var 1 (hv := Or.inl (by kernel_rfl))) (me_len (gl_of (by kernel_rfl)) T.z_len (ma_cons (me_var 0 (hv := Or.inl (by kernel_rfl))) ma_nil))) ma_nil)) (mg_n (i := 5) (hx := Or.inl (by kernel_rfl)) (hf := Or.inr (by kernel_rfl)) sc__law_by.nd) (mss_one (ms_s (i := 4) (hx := Or.inl (by kernel_rfl)) (hf := Or.inr (by kernel_rfl)) sc__law_by.nd (me_fdiv (me_var 4 (hv := Or.inl (by kernel_rfl))) me_int))))
  (mss_one (ms_if (mt_of (mw_or (mt_lt (me_var 1 (hv := Or.inl (by kernel_rfl))) (me_len (gl_of (by kernel_rfl)) T.z_len (ma_cons (me_var 0 (hv := Or.inl (by kernel_rfl))) ma_nil))) (mw_or (mt_gt (me_var 4 (hv := Or.inl (by kernel_rfl))) me_int) (mw_or1 (mt_lt (me_var 4 (hv := Or.inl (by kernel_rfl))) (me_neg me_int)))))) (mss_one (ms_ret (me_mod (me_var 4 (hv := Or.inl (by kernel_rfl))) (me_var 2 (hv := Or.inl (by kernel_rfl)))))) mss_nil))) mss_nil)))) mss_nil)
  (mss_cons (ms_s (i := 6) (hx := Or.inl (by kernel_rfl)) (hf := Or.inr (by kernel_rfl)) sc__law_by.nd (me_mod (me_mul (me_add (me_add (me_mod (me_var 3 (hv := Or.inl (by kernel_rfl))) me_int) (me_mul me_int (me_var 1 (hv := Or.inl (by kernel_rfl))))) me_int) (me_add me_int (me_mul (me_mul me_int (me_var 1 (hv := Or.inl (by kernel_rfl)))) (me_var 1 (hv := Or.inl (by kernel_rfl)))))) me_int))
  (mss_one (ms_ret (me_mod (me_mod (me_mul (me_var 6 (hv := Or.inl (by kernel_rfl))) (me_add me_int (me_mul me_int (me_var 1 (hv := Or.inl (by kernel_rfl)))))) me_int) (me_var 2 (hv := Or.inl (by kernel_rfl)))))))))
theorem sc__law_steps : FnScope ["_law_number", "_law_steps_here"] ["_law_number"] (defScope s__law_steps) := ⟨by kernel_rfl, by kernel_rfl, by kernel_rfl, by decide +kernel, by kernel_rfl, by decide +kernel, by decide +kernel⟩
set_option maxHeartbeats 4000000 in
theorem ok__law_steps (T : Txt w K mg A) (n : Nat) : FnOk P w K mg base (L2.CX P w) 1 A.a__law_steps A.d__law_steps ["_law_number"] (spM ⟨w, K⟩ (F__law_steps n) 1) :=
  def_okF ["_law_number", "_law_steps_here"] ["_law_number"] (b__law_steps n) (k := 0) (kk := 2) (nn := 1) (g := F__law_steps n) (by kernel_rfl) (by kernel_rfl) (by kernel_rfl) T.f__law_steps sc__law_steps fun cdv Ar outer s H E hr => by
  have hu := hr.units
  have tk : Takes (cxOf (L2.CX P w) P w K mg base ["_law_number", "_law_steps_here"] "_law_steps" (defScope s__law_steps) A.a__law_steps cdv Ar outer s H E) (fun c d _ H => E c d H) := takes_of rfl rfl rfl rfl
  exact (mss_cons (ms_s (i := 1) (hx := Or.inl (by kernel_rfl)) (hf := Or.inr (by kernel_rfl)) sc__law_steps.nd (me_lstN (ma_cons (me_tup (ma_cons (me_str [108, 111, 97, 100] (by decide +kernel)) (ma_cons (me_str [110, 48] (by decide +kernel)) (ma_cons me_int ma_nil)))) (ma_cons (me_tup (ma_cons (me_str [98, 114, 97, 110, 99, 104] (by decide +kernel)) (ma_cons (me_str [110, 48] (by decide +kernel)) (ma_cons me_int ma_nil)))) (ma_cons (me_tup (ma_cons (me_str [108, 111, 97, 100] (by decide +kernel)) (ma_cons (me_str [114, 48] (by decide +kernel)) (ma_cons me_int ma_nil)))) (ma_cons (me_tup (ma_cons (me_str [103, 105, 118, 101] (by decide +kernel)) (ma_cons (me_tup (ma_cons (me_var 0 (hv := Or.inl (by kernel_rfl))) (ma_cons (me_str [114, 48] (by decide +kernel)) ma_nil))) ma_nil))) ma_nil))))))
  (mss_cons (ms_expr (me_extend (me_var 1 (hv := Or.inl (by kernel_rfl))) (ma_cons (me_lst (ma_cons (me_tup (ma_cons (me_str [115, 117, 98] (by decide +kernel)) (ma_cons (me_str [110, 49] (by decide +kernel)) (ma_cons (me_tup (ma_cons (me_str [110, 48] (by decide +kernel)) (ma_cons me_int ma_nil))) ma_nil)))) (ma_cons (me_tup (ma_cons (me_str [115, 116, 111, 114, 101] (by decide +kernel)) (ma_cons me_int (ma_cons (me_str [110, 49] (by decide +kernel)) ma_nil)))) ma_nil))) ma_nil)))
  (mss_cons (ms_expr (me_append (me_var 1 (hv := Or.inl (by kernel_rfl))) (ma_cons (me_tup (ma_cons (me_str [99, 97, 108, 108] (by decide +kernel)) (ma_cons me_int (ma_cons (me_tup (ma_cons (me_tup (ma_cons (me_str [110] (by decide +kernel)) (ma_cons me_int ma_nil))) (ma_cons (me_tup (ma_cons (me_str [114] (by decide +kernel)) (ma_cons me_int ma_nil))) ma_nil))) (ma_cons (me_tup (ma_cons (me_tup (ma_cons (me_str [110] (by decide +kernel)) (ma_cons me_int ma_nil))) (ma_cons (me_tup (ma_cons (me_str [114] (by decide +kernel)) (ma_cons me_int ma_nil))) ma_nil))) ma_nil))))) ma_nil)))
  (mss_cons (ms_expr (me_extend (me_var 1 (hv := Or.inl (by kernel_rfl))) (ma_cons (me_lst (ma_cons (me_tup (ma_cons (me_str [108, 111, 97, 100] (by decide +kernel)) (ma_cons (me_str [110, 50] (by decide +kernel)) (ma_cons me_int ma_nil)))) (ma_cons (me_tup (ma_cons (me_str [97, 100, 100] (by decide +kernel)) (ma_cons (me_str [110, 50] (by decide +kernel)) (ma_cons (me_tup (ma_cons (me_str [110, 50] (by decide +kernel)) (ma_cons me_int ma_nil))) ma_nil)))) (ma_cons (me_tup (ma_cons (me_str [103, 105, 118, 101] (by decide +kernel)) (ma_cons (me_tup (ma_cons (me_str [110, 50] (by decide +kernel)) (ma_cons (me_tup (ma_cons (me_str [114] (by decide +kernel)) (ma_cons me_int ma_nil))) ma_nil))) ma_nil))) ma_nil)))) ma_nil)))
  (mss_one (ms_ret (me_tupleOf (gl_of (by kernel_rfl)) T.z_tuple (ma_cons (me_var 1 (hv := Or.inl (by kernel_rfl))) ma_nil))))))))
theorem sc_law : FnScope ["_law_script", "_law_number", "_law_calls", "_law_bound", "_law_row", "_law_code", "_law_due", "_law_j"] ["_law_script"] (defScope s_law) := ⟨by kernel_rfl, by kernel_rfl, by kernel_rfl, by decide +kernel, by kernel_rfl, by decide +kernel, by decide +kernel⟩
set_option maxHeartbeats 4000000 in
theorem ok_law (T : Txt w K mg A) (n : Nat) : FnOk P w K mg base (L2.CX P w) 8 A.a_law A.d_law ["_law_script"] (spM ⟨w, K⟩ (F_law n) 1) :=
  def_okF ["_law_script", "_law_number", "_law_calls", "_law_bound", "_law_row", "_law_code", "_law_due", "_law_j"] ["_law_script"] (b_law n) (k := 7) (kk := 8) (nn := 1) (g := F_law n) (by kernel_rfl) (by kernel_rfl) (by kernel_rfl) T.f_law sc_law fun cdv Ar outer s H E hr => by
  have hu := hr.units
  have tk : Takes (cxOf (L2.CX P w) P w K mg base ["_law_script", "_law_number", "_law_calls", "_law_bound", "_law_row", "_law_code", "_law_due", "_law_j"] "law" (defScope s_law) A.a_law cdv Ar outer s H E) (fun c d _ H => E c d H) := takes_of rfl rfl rfl rfl
  exact (mss_cons (ms_s (i := 1) (hx := Or.inl (by kernel_rfl)) (hf := Or.inr (by kernel_rfl)) sc_law.nd (me_sub (me_call (ok__law_by T n) (hr.mono (by decide)) (gl_of (by kernel_rfl)) T.m__law_by T.f__law_by.kp T.b__law_by tk (ma_cons (me_var 0 (hv := Or.inr (Or.inl (by kernel_rfl)))) (ma_cons me_int (ma_cons me_int ma_nil))) (aLen_cons (aLen_cons (aLen_cons aLen_nil)))) me_int))
  (mss_cons (ms_s (i := 2) (hx := Or.inl (by kernel_rfl)) (hf := Or.inr (by kernel_rfl)) sc_law.nd (me_call (ok__law_by T n) (hr.mono (by decide)) (gl_of (by kernel_rfl)) T.m__law_by T.f__law_by.kp T.b__law_by tk (ma_cons (me_var 0 (hv := Or.inr (Or.inl (by kernel_rfl)))) (ma_cons me_int (ma_cons me_int ma_nil))) (aLen_cons (aLen_cons (aLen_cons aLen_nil)))))
  (mss_cons (ms_if (mt_eq hr.units (me_call (ok__law_by T n) (hr.mono (by decide)) (gl_of (by kernel_rfl)) T.m__law_by T.f__law_by.kp T.b__law_by tk (ma_cons (me_var 0 (hv := Or.inr (Or.inl (by kernel_rfl)))) (ma_cons me_int (ma_cons me_int ma_nil))) (aLen_cons (aLen_cons (aLen_cons aLen_nil)))) me_int) (mss_one (ms_s (i := 2) (hx := Or.inl (by kernel_rfl)) (hf := Or.inr (by kernel_rfl)) sc_law.nd (me_add me_int (me_call (ok__law_by T n) (hr.mono (by decide)) (gl_of (by kernel_rfl)) T.m__law_by T.f__law_by.kp T.b__law_by tk (ma_cons (me_var 0 (hv := Or.inr (Or.inl (by kernel_rfl)))) (ma_cons me_int (ma_cons me_int ma_nil))) (aLen_cons (aLen_cons (aLen_cons aLen_nil))))))) mss_nil)
  (mss_cons (ms_s (i := 3) (hx := Or.inl (by kernel_rfl)) (hf := Or.inr (by kernel_rfl)) sc_law.nd (me_sub_ix hu (me_lst (ma_cons (me_max2 rfl (gl_of (by kernel_rfl)) T.z_max (ma_cons me_int (ma_cons (me_add (me_sub (me_var 2 (hv := Or.inl (by kernel_rfl))) me_int) (me_call (ok__law_by T n) (hr.mono (by decide)) (gl_of (by kernel_rfl)) T.m__law_by T.f__law_by.kp T.b__law_by tk (ma_cons (me_var 0 (hv := Or.inr (Or.inl (by kernel_rfl)))) (ma_cons me_int (ma_cons me_int ma_nil))) (aLen_cons (aLen_cons (aLen_cons aLen_nil))))) ma_nil))) (ma_cons (me_pow me_int me_int) ma_nil))) (me_call (ok__law_by T n) (hr.mono (by decide)) (gl_of (by kernel_rfl)) T.m__law_by T.f__law_by.kp T.b__law_by tk (ma_cons (me_var 0 (hv := Or.inr (Or.inl (by kernel_rfl)))) (ma_cons me_int (ma_cons me_int ma_nil))) (aLen_cons (aLen_cons (aLen_cons aLen_nil)))) (fun _ _ => by kernel_rfl)))
  (mss_cons (ms_s (i := 4) (hx := Or.inl (by kernel_rfl)) (hf := Or.inr (by kernel_rfl)) sc_law.nd (me_tupleOf (gl_of (by kernel_rfl)) T.z_tuple (ma_cons (me_lc (own := [("_law_j", 7)]) rfl sc_law.nd (mi_range1 (gl_of (by kernel_rfl)) T.z_range (ma_cons (me_call (ok__law_by T n) (hr.mono (by decide)) (gl_of (by kernel_rfl)) T.m__law_by T.f__law_by.kp T.b__law_by tk (ma_cons (me_var 0 (hv := Or.inr (Or.inl (by kernel_rfl)))) (ma_cons me_int (ma_cons me_int ma_nil))) (aLen_cons (aLen_cons (aLen_cons aLen_nil)))) ma_nil)) (blkOk_by (by kernel_rfl)) (tgo_name (by decide)) lcV_end (fun _ _ _ _ _ => (pg_n (i := 7) (hx := Or.inl (by kernel_rfl)) (hf := Or.inr (by kernel_rfl)) sc_law.nd)) (fun _ _ _ _ _ => mts_nil) (fun _ _ _ _ _ => (me_call (ok__law_by T n) (hr.mono (by decide)) (gl_of (by kernel_rfl)) T.m__law_by T.f__law_by.kp T.b__law_by takes0 (ma_cons (me_var 0 (hv := Or.inr (Or.inl (by kernel_rfl)))) (ma_cons (me_add me_int (me_var 7 (hv := Or.inl (by kernel_rfl)))) (ma_cons me_int ma_nil))) (aLen_cons (aLen_cons (aLen_cons aLen_nil)))))) ma_nil)))
  (mss_cons (ms_s (i := 5) (hx := Or.inl (by kernel_rfl)) (hf := Or.inr (by kernel_rfl)) sc_law.nd (me_tup (ma_cons (me_tup (ma_cons (me_str [100, 101, 101, 112] (by decide +kernel)) (ma_cons (me_str [110, 114] (by decide +kernel)) (ma_cons (me_str [110, 114] (by decide +kernel)) (ma_cons me_int (ma_cons (me_call (ok__law_steps T n) (hr.mono (by decide)) (gl_of (by kernel_rfl)) T.m__law_steps T.f__law_steps.kp T.b__law_steps tk (ma_cons (me_var 1 (hv := Or.inl (by kernel_rfl))) ma_nil) (aLen_cons aLen_nil)) ma_nil)))))) ma_nil)))
  (mss_cons (ms_if (mt_isnot (me_call (ok_right_code T n) (hr.mono (by decide)) (gl_of (by kernel_rfl)) T.m_right_code T.f_right_code.kp T.b_right_code tk (ma_cons (me_var 5 (hv := Or.inl (by kernel_rfl))) ma_nil) (aLen_cons aLen_nil)) me_bl) (mss_one (ms_ret me_bl)) mss_nil)
  (mss_cons (ms_s (i := 6) (hx := Or.inl (by kernel_rfl)) (hf := Or.inr (by kernel_rfl)) sc_law.nd (me_tup (ma_cons (me_str [100, 114, 121] (by decide +kernel)) ma_nil)))
  (mss_cons (ms_if (mt_ge (me_var 3 (hv := Or.inl (by kernel_rfl))) (me_var 2 (hv := Or.inl (by kernel_rfl)))) (mss_one (ms_s (i := 6) (hx := Or.inl (by kernel_rfl)) (hf := Or.inr (by kernel_rfl)) sc_law.nd (me_tup (ma_cons (me_str [98, 97, 99, 107] (by decide +kernel)) (ma_cons (me_tup (ma_cons (me_sub (me_mod (me_add (me_add (me_var 1 (hv := Or.inl (by kernel_rfl))) (me_var 2 (hv := Or.inl (by kernel_rfl)))) me_int) me_int) me_int) (ma_cons (me_var 4 (hv := Or.inl (by kernel_rfl))) ma_nil))) ma_nil))))) mss_nil)
  (mss_one (ms_ret (me_eq hr.units (me_call (ok_run_code T n) (hr.mono (by decide)) (gl_of (by kernel_rfl)) T.m_run_code T.f_run_code.kp T.b_run_code tk (ma_cons (me_var 5 (hv := Or.inl (by kernel_rfl))) (ma_cons me_int (ma_cons (me_tup (ma_cons (me_var 2 (hv := Or.inl (by kernel_rfl))) (ma_cons (me_var 4 (hv := Or.inl (by kernel_rfl))) ma_nil))) (ma_cons (me_var 3 (hv := Or.inl (by kernel_rfl))) ma_nil)))) (aLen_cons (aLen_cons (aLen_cons (aLen_cons aLen_nil))))) (me_var 6 (hv := Or.inl (by kernel_rfl)))))))))))))))
end
set_option maxHeartbeats 8000000 in
theorem all_mk {l : PySem.W.OpenLaw} {w : World} {K : PySem.W.Frag} {h : Heap} {mg : Str → Option Value} {fa f_taken_in f_kinds_of f_divided f_done_sum f_put_at f_done_row f_done f_Engine__begin f_Engine____init__ f_Engine__value f_Engine__call f_Engine__give f_Engine__lay_in f_Engine__go_on f_run_code f_ways_on f_steps_come_to f_things_read f_laid_behind f_reads_well f_states_ahead f_leads_back f_step_on_a_ring f_is_whole f_is_word f_is_kinds f_is_box f_is_operand f_is_cell f_are_laid f_is_operation f_is_call f_is_step f_is_function f_ask_ways f_right_code f__law_by f__law_steps f_law cc_Engine : Addr} (X : K.In h) (G : h.Ns mainGlobals mg) (hfa : mg "law" = some (.ref fa))
    {od_taken_in an_taken_in od_kinds_of an_kinds_of od_divided an_divided od_done_sum an_done_sum od_put_at an_put_at od_done_row an_done_row od_done an_done od_Engine__begin an_Engine__begin od_Engine____init__ an_Engine____init__ od_Engine__value an_Engine__value od_Engine__call an_Engine__call od_Engine__give an_Engine__give od_Engine__lay_in an_Engine__lay_in od_Engine__go_on an_Engine__go_on od_run_code an_run_code od_ways_on an_ways_on od_steps_come_to an_steps_come_to od_things_read an_things_read od_laid_behind an_laid_behind od_reads_well an_reads_well od_states_ahead an_states_ahead od_leads_back an_leads_back od_step_on_a_ring an_step_on_a_ring od_is_whole an_is_whole od_is_word an_is_word od_is_kinds an_is_kinds od_is_box an_is_box od_is_operand an_is_operand od_is_cell an_is_cell od_are_laid an_are_laid od_is_operation an_is_operation od_is_call an_is_call od_is_step an_is_step od_is_function an_is_function od_ask_ways an_ask_ways od_right_code an_right_code od__law_by an__law_by od__law_steps an__law_steps od_law an_law : Option Addr} {sl_taken_in sl_kinds_of sl_divided sl_done_sum sl_put_at sl_done_row sl_done sl_Engine__begin sl_Engine____init__ sl_Engine__value sl_Engine__call sl_Engine__give sl_Engine__lay_in sl_Engine__go_on sl_run_code sl_ways_on sl_steps_come_to sl_things_read sl_laid_behind sl_reads_well sl_states_ahead sl_leads_back sl_step_on_a_ring sl_is_whole sl_is_word sl_is_kinds sl_is_box sl_is_operand sl_is_cell sl_are_laid sl_is_operation sl_is_call sl_is_step sl_is_function sl_ask_ways sl_right_code sl__law_by sl__law_steps sl_law : Array (Option Value)} {oc_taken_in kV_taken_in dc_taken_in pm_taken_in cd_taken_in ct_taken_in oc_kinds_of kV_kinds_of dc_kinds_of pm_kinds_of cd_kinds_of ct_kinds_of oc_divided kV_divided dc_divided pm_divided cd_divided ct_divided oc_done_sum kV_done_sum dc_done_sum pm_done_sum cd_done_sum ct_done_sum oc_put_at kV_put_at dc_put_at pm_put_at cd_put_at ct_put_at oc_done_row kV_done_row dc_done_row pm_done_row cd_done_row ct_done_row oc_done kV_done dc_done pm_done cd_done ct_done oc_Engine__begin kV_Engine__begin dc_Engine__begin pm_Engine__begin cd_Engine__begin ct_Engine__begin oc_Engine____init__ kV_Engine____init__ dc_Engine____init__ pm_Engine____init__ cd_Engine____init__ ct_Engine____init__ oc_Engine__value kV_Engine__value dc_Engine__value pm_Engine__value cd_Engine__value ct_Engine__value oc_Engine__call kV_Engine__call dc_Engine__call pm_Engine__call cd_Engine__call ct_Engine__call oc_Engine__give kV_Engine__give dc_Engine__give pm_Engine__give cd_Engine__give ct_Engine__give oc_Engine__lay_in kV_Engine__lay_in dc_Engine__lay_in pm_Engine__lay_in cd_Engine__lay_in ct_Engine__lay_in oc_Engine__go_on kV_Engine__go_on dc_Engine__go_on pm_Engine__go_on cd_Engine__go_on ct_Engine__go_on oc_run_code kV_run_code dc_run_code pm_run_code cd_run_code ct_run_code oc_ways_on kV_ways_on dc_ways_on pm_ways_on cd_ways_on ct_ways_on oc_steps_come_to kV_steps_come_to dc_steps_come_to pm_steps_come_to cd_steps_come_to ct_steps_come_to oc_things_read kV_things_read dc_things_read pm_things_read cd_things_read ct_things_read oc_laid_behind kV_laid_behind dc_laid_behind pm_laid_behind cd_laid_behind ct_laid_behind oc_reads_well kV_reads_well dc_reads_well pm_reads_well cd_reads_well ct_reads_well oc_states_ahead kV_states_ahead dc_states_ahead pm_states_ahead cd_states_ahead ct_states_ahead oc_leads_back kV_leads_back dc_leads_back pm_leads_back cd_leads_back ct_leads_back oc_step_on_a_ring kV_step_on_a_ring dc_step_on_a_ring pm_step_on_a_ring cd_step_on_a_ring ct_step_on_a_ring oc_is_whole kV_is_whole dc_is_whole pm_is_whole cd_is_whole ct_is_whole oc_is_word kV_is_word dc_is_word pm_is_word cd_is_word ct_is_word oc_is_kinds kV_is_kinds dc_is_kinds pm_is_kinds cd_is_kinds ct_is_kinds oc_is_box kV_is_box dc_is_box pm_is_box cd_is_box ct_is_box oc_is_operand kV_is_operand dc_is_operand pm_is_operand cd_is_operand ct_is_operand oc_is_cell kV_is_cell dc_is_cell pm_is_cell cd_is_cell ct_is_cell oc_are_laid kV_are_laid dc_are_laid pm_are_laid cd_are_laid ct_are_laid oc_is_operation kV_is_operation dc_is_operation pm_is_operation cd_is_operation ct_is_operation oc_is_call kV_is_call dc_is_call pm_is_call cd_is_call ct_is_call oc_is_step kV_is_step dc_is_step pm_is_step cd_is_step ct_is_step oc_is_function kV_is_function dc_is_function pm_is_function cd_is_function ct_is_function oc_ask_ways kV_ask_ways dc_ask_ways pm_ask_ways cd_ask_ways ct_ask_ways oc_right_code kV_right_code dc_right_code pm_right_code cd_right_code ct_right_code oc__law_by kV__law_by dc__law_by pm__law_by cd__law_by ct__law_by oc__law_steps kV__law_steps dc__law_steps pm__law_steps cd__law_steps ct__law_steps oc_law kV_law dc_law pm_law cd_law ct_law : Value}
    {t_LEAST t_LONGEST t_TURN : Tok}
    {ad_OPERATIONS : Addr} {es_OPERATIONS : Array DictEntry} {n_OPERATIONS : Nat}
    {ad_BOXES : Addr} {its_BOXES : Array Value} {n_BOXES : Nat}
    (a_Engine : PySem.W.nsIn K mainGlobals "Engine" = some (some (.ref cc_Engine)))
    (a_taken_in : PySem.W.nsIn K mainGlobals "taken_in" = some (some (.ref f_taken_in))) (l_taken_in : K.lookup f_taken_in = some ⟨oc_taken_in, od_taken_in, .func (PySem.W.fnOf "taken_in" "taken_in" (defArgs s_taken_in) (defBody s_taken_in) (defScope s_taken_in) .none kV_taken_in dc_taken_in pm_taken_in an_taken_in cd_taken_in ct_taken_in), sl_taken_in⟩) (c_taken_in : PySem.W.codeIn K cd_taken_in "taken_in" = true) (k_taken_in : PySem.W.keepIn K (.ref f_taken_in) = true)
    (a_kinds_of : PySem.W.nsIn K mainGlobals "kinds_of" = some (some (.ref f_kinds_of))) (l_kinds_of : K.lookup f_kinds_of = some ⟨oc_kinds_of, od_kinds_of, .func (PySem.W.fnOf "kinds_of" "kinds_of" (defArgs s_kinds_of) (defBody s_kinds_of) (defScope s_kinds_of) .none kV_kinds_of dc_kinds_of pm_kinds_of an_kinds_of cd_kinds_of ct_kinds_of), sl_kinds_of⟩) (c_kinds_of : PySem.W.codeIn K cd_kinds_of "kinds_of" = true) (k_kinds_of : PySem.W.keepIn K (.ref f_kinds_of) = true)
    (a_divided : PySem.W.nsIn K mainGlobals "divided" = some (some (.ref f_divided))) (l_divided : K.lookup f_divided = some ⟨oc_divided, od_divided, .func (PySem.W.fnOf "divided" "divided" (defArgs s_divided) (defBody s_divided) (defScope s_divided) .none kV_divided dc_divided pm_divided an_divided cd_divided ct_divided), sl_divided⟩) (c_divided : PySem.W.codeIn K cd_divided "divided" = true) (k_divided : PySem.W.keepIn K (.ref f_divided) = true)
    (a_done_sum : PySem.W.nsIn K mainGlobals "done_sum" = some (some (.ref f_done_sum))) (l_done_sum : K.lookup f_done_sum = some ⟨oc_done_sum, od_done_sum, .func (PySem.W.fnOf "done_sum" "done_sum" (defArgs s_done_sum) (defBody s_done_sum) (defScope s_done_sum) .none kV_done_sum dc_done_sum pm_done_sum an_done_sum cd_done_sum ct_done_sum), sl_done_sum⟩) (c_done_sum : PySem.W.codeIn K cd_done_sum "done_sum" = true) (k_done_sum : PySem.W.keepIn K (.ref f_done_sum) = true)
    (a_put_at : PySem.W.nsIn K mainGlobals "put_at" = some (some (.ref f_put_at))) (l_put_at : K.lookup f_put_at = some ⟨oc_put_at, od_put_at, .func (PySem.W.fnOf "put_at" "put_at" (defArgs s_put_at) (defBody s_put_at) (defScope s_put_at) .none kV_put_at dc_put_at pm_put_at an_put_at cd_put_at ct_put_at), sl_put_at⟩) (c_put_at : PySem.W.codeIn K cd_put_at "put_at" = true) (k_put_at : PySem.W.keepIn K (.ref f_put_at) = true)
    (a_done_row : PySem.W.nsIn K mainGlobals "done_row" = some (some (.ref f_done_row))) (l_done_row : K.lookup f_done_row = some ⟨oc_done_row, od_done_row, .func (PySem.W.fnOf "done_row" "done_row" (defArgs s_done_row) (defBody s_done_row) (defScope s_done_row) .none kV_done_row dc_done_row pm_done_row an_done_row cd_done_row ct_done_row), sl_done_row⟩) (c_done_row : PySem.W.codeIn K cd_done_row "done_row" = true) (k_done_row : PySem.W.keepIn K (.ref f_done_row) = true)
    (a_done : PySem.W.nsIn K mainGlobals "done" = some (some (.ref f_done))) (l_done : K.lookup f_done = some ⟨oc_done, od_done, .func (PySem.W.fnOf "done" "done" (defArgs s_done) (defBody s_done) (defScope s_done) .none kV_done dc_done pm_done an_done cd_done ct_done), sl_done⟩) (c_done : PySem.W.codeIn K cd_done "done" = true) (k_done : PySem.W.keepIn K (.ref f_done) = true)
    (a_Engine__begin : PySem.W.findIn K (.ref cc_Engine) "begin" = some (some (.ref f_Engine__begin))) (i_Engine__begin : PySem.W.isFn K (.ref f_Engine__begin) = true) (l_Engine__begin : K.lookup f_Engine__begin = some ⟨oc_Engine__begin, od_Engine__begin, .func (PySem.W.fnOf "begin" "Engine.begin" (defArgs s_Engine__begin) (defBody s_Engine__begin) (defScope s_Engine__begin) .none kV_Engine__begin dc_Engine__begin pm_Engine__begin an_Engine__begin cd_Engine__begin ct_Engine__begin), sl_Engine__begin⟩) (c_Engine__begin : PySem.W.codeIn K cd_Engine__begin "Engine.begin" = true) (k_Engine__begin : PySem.W.keepIn K (.ref f_Engine__begin) = true)
    (a_Engine____init__ : PySem.W.findIn K (.ref cc_Engine) "__init__" = some (some (.ref f_Engine____init__))) (i_Engine____init__ : PySem.W.isFn K (.ref f_Engine____init__) = true) (l_Engine____init__ : K.lookup f_Engine____init__ = some ⟨oc_Engine____init__, od_Engine____init__, .func (PySem.W.fnOf "__init__" "Engine.__init__" (defArgs s_Engine____init__) (defBody s_Engine____init__) (defScope s_Engine____init__) .none kV_Engine____init__ dc_Engine____init__ pm_Engine____init__ an_Engine____init__ cd_Engine____init__ ct_Engine____init__), sl_Engine____init__⟩) (c_Engine____init__ : PySem.W.codeIn K cd_Engine____init__ "Engine.__init__" = true) (k_Engine____init__ : PySem.W.keepIn K (.ref f_Engine____init__) = true)
    (a_Engine__value : PySem.W.findIn K (.ref cc_Engine) "value" = some (some (.ref f_Engine__value))) (i_Engine__value : PySem.W.isFn K (.ref f_Engine__value) = true) (l_Engine__value : K.lookup f_Engine__value = some ⟨oc_Engine__value, od_Engine__value, .func (PySem.W.fnOf "value" "Engine.value" (defArgs s_Engine__value) (defBody s_Engine__value) (defScope s_Engine__value) .none kV_Engine__value dc_Engine__value pm_Engine__value an_Engine__value cd_Engine__value ct_Engine__value), sl_Engine__value⟩) (c_Engine__value : PySem.W.codeIn K cd_Engine__value "Engine.value" = true) (k_Engine__value : PySem.W.keepIn K (.ref f_Engine__value) = true)
    (a_Engine__call : PySem.W.findIn K (.ref cc_Engine) "call" = some (some (.ref f_Engine__call))) (i_Engine__call : PySem.W.isFn K (.ref f_Engine__call) = true) (l_Engine__call : K.lookup f_Engine__call = some ⟨oc_Engine__call, od_Engine__call, .func (PySem.W.fnOf "call" "Engine.call" (defArgs s_Engine__call) (defBody s_Engine__call) (defScope s_Engine__call) .none kV_Engine__call dc_Engine__call pm_Engine__call an_Engine__call cd_Engine__call ct_Engine__call), sl_Engine__call⟩) (c_Engine__call : PySem.W.codeIn K cd_Engine__call "Engine.call" = true) (k_Engine__call : PySem.W.keepIn K (.ref f_Engine__call) = true)
    (a_Engine__give : PySem.W.findIn K (.ref cc_Engine) "give" = some (some (.ref f_Engine__give))) (i_Engine__give : PySem.W.isFn K (.ref f_Engine__give) = true) (l_Engine__give : K.lookup f_Engine__give = some ⟨oc_Engine__give, od_Engine__give, .func (PySem.W.fnOf "give" "Engine.give" (defArgs s_Engine__give) (defBody s_Engine__give) (defScope s_Engine__give) .none kV_Engine__give dc_Engine__give pm_Engine__give an_Engine__give cd_Engine__give ct_Engine__give), sl_Engine__give⟩) (c_Engine__give : PySem.W.codeIn K cd_Engine__give "Engine.give" = true) (k_Engine__give : PySem.W.keepIn K (.ref f_Engine__give) = true)
    (a_Engine__lay_in : PySem.W.findIn K (.ref cc_Engine) "lay_in" = some (some (.ref f_Engine__lay_in))) (i_Engine__lay_in : PySem.W.isFn K (.ref f_Engine__lay_in) = true) (l_Engine__lay_in : K.lookup f_Engine__lay_in = some ⟨oc_Engine__lay_in, od_Engine__lay_in, .func (PySem.W.fnOf "lay_in" "Engine.lay_in" (defArgs s_Engine__lay_in) (defBody s_Engine__lay_in) (defScope s_Engine__lay_in) .none kV_Engine__lay_in dc_Engine__lay_in pm_Engine__lay_in an_Engine__lay_in cd_Engine__lay_in ct_Engine__lay_in), sl_Engine__lay_in⟩) (c_Engine__lay_in : PySem.W.codeIn K cd_Engine__lay_in "Engine.lay_in" = true) (k_Engine__lay_in : PySem.W.keepIn K (.ref f_Engine__lay_in) = true)
    (a_Engine__go_on : PySem.W.findIn K (.ref cc_Engine) "go_on" = some (some (.ref f_Engine__go_on))) (i_Engine__go_on : PySem.W.isFn K (.ref f_Engine__go_on) = true) (l_Engine__go_on : K.lookup f_Engine__go_on = some ⟨oc_Engine__go_on, od_Engine__go_on, .func (PySem.W.fnOf "go_on" "Engine.go_on" (defArgs s_Engine__go_on) (defBody s_Engine__go_on) (defScope s_Engine__go_on) .none kV_Engine__go_on dc_Engine__go_on pm_Engine__go_on an_Engine__go_on cd_Engine__go_on ct_Engine__go_on), sl_Engine__go_on⟩) (c_Engine__go_on : PySem.W.codeIn K cd_Engine__go_on "Engine.go_on" = true) (k_Engine__go_on : PySem.W.keepIn K (.ref f_Engine__go_on) = true)
    (a_run_code : PySem.W.nsIn K mainGlobals "run_code" = some (some (.ref f_run_code))) (l_run_code : K.lookup f_run_code = some ⟨oc_run_code, od_run_code, .func (PySem.W.fnOf "run_code" "run_code" (defArgs s_run_code) (defBody s_run_code) (defScope s_run_code) .none kV_run_code dc_run_code pm_run_code an_run_code cd_run_code ct_run_code), sl_run_code⟩) (c_run_code : PySem.W.codeIn K cd_run_code "run_code" = true) (k_run_code : PySem.W.keepIn K (.ref f_run_code) = true)
    (a_ways_on : PySem.W.nsIn K mainGlobals "ways_on" = some (some (.ref f_ways_on))) (l_ways_on : K.lookup f_ways_on = some ⟨oc_ways_on, od_ways_on, .func (PySem.W.fnOf "ways_on" "ways_on" (defArgs s_ways_on) (defBody s_ways_on) (defScope s_ways_on) .none kV_ways_on dc_ways_on pm_ways_on an_ways_on cd_ways_on ct_ways_on), sl_ways_on⟩) (c_ways_on : PySem.W.codeIn K cd_ways_on "ways_on" = true) (k_ways_on : PySem.W.keepIn K (.ref f_ways_on) = true)
    (a_steps_come_to : PySem.W.nsIn K mainGlobals "steps_come_to" = some (some (.ref f_steps_come_to))) (l_steps_come_to : K.lookup f_steps_come_to = some ⟨oc_steps_come_to, od_steps_come_to, .func (PySem.W.fnOf "steps_come_to" "steps_come_to" (defArgs s_steps_come_to) (defBody s_steps_come_to) (defScope s_steps_come_to) .none kV_steps_come_to dc_steps_come_to pm_steps_come_to an_steps_come_to cd_steps_come_to ct_steps_come_to), sl_steps_come_to⟩) (c_steps_come_to : PySem.W.codeIn K cd_steps_come_to "steps_come_to" = true) (k_steps_come_to : PySem.W.keepIn K (.ref f_steps_come_to) = true)
    (a_things_read : PySem.W.nsIn K mainGlobals "things_read" = some (some (.ref f_things_read))) (l_things_read : K.lookup f_things_read = some ⟨oc_things_read, od_things_read, .func (PySem.W.fnOf "things_read" "things_read" (defArgs s_things_read) (defBody s_things_read) (defScope s_things_read) .none kV_things_read dc_things_read pm_things_read an_things_read cd_things_read ct_things_read), sl_things_read⟩) (c_things_read : PySem.W.codeIn K cd_things_read "things_read" = true) (k_things_read : PySem.W.keepIn K (.ref f_things_read) = true)
    (a_laid_behind : PySem.W.nsIn K mainGlobals "laid_behind" = some (some (.ref f_laid_behind))) (l_laid_behind : K.lookup f_laid_behind = some ⟨oc_laid_behind, od_laid_behind, .func (PySem.W.fnOf "laid_behind" "laid_behind" (defArgs s_laid_behind) (defBody s_laid_behind) (defScope s_laid_behind) .none kV_laid_behind dc_laid_behind pm_laid_behind an_laid_behind cd_laid_behind ct_laid_behind), sl_laid_behind⟩) (c_laid_behind : PySem.W.codeIn K cd_laid_behind "laid_behind" = true) (k_laid_behind : PySem.W.keepIn K (.ref f_laid_behind) = true)
    (a_reads_well : PySem.W.nsIn K mainGlobals "reads_well" = some (some (.ref f_reads_well))) (l_reads_well : K.lookup f_reads_well = some ⟨oc_reads_well, od_reads_well, .func (PySem.W.fnOf "reads_well" "reads_well" (defArgs s_reads_well) (defBody s_reads_well) (defScope s_reads_well) .none kV_reads_well dc_reads_well pm_reads_well an_reads_well cd_reads_well ct_reads_well), sl_reads_well⟩) (c_reads_well : PySem.W.codeIn K cd_reads_well "reads_well" = true) (k_reads_well : PySem.W.keepIn K (.ref f_reads_well) = true)
    (a_states_ahead : PySem.W.nsIn K mainGlobals "states_ahead" = some (some (.ref f_states_ahead))) (l_states_ahead : K.lookup f_states_ahead = some ⟨oc_states_ahead, od_states_ahead, .func (PySem.W.fnOf "states_ahead" "states_ahead" (defArgs s_states_ahead) (defBody s_states_ahead) (defScope s_states_ahead) .none kV_states_ahead dc_states_ahead pm_states_ahead an_states_ahead cd_states_ahead ct_states_ahead), sl_states_ahead⟩) (c_states_ahead : PySem.W.codeIn K cd_states_ahead "states_ahead" = true) (k_states_ahead : PySem.W.keepIn K (.ref f_states_ahead) = true)
    (a_leads_back : PySem.W.nsIn K mainGlobals "leads_back" = some (some (.ref f_leads_back))) (l_leads_back : K.lookup f_leads_back = some ⟨oc_leads_back, od_leads_back, .func (PySem.W.fnOf "leads_back" "leads_back" (defArgs s_leads_back) (defBody s_leads_back) (defScope s_leads_back) .none kV_leads_back dc_leads_back pm_leads_back an_leads_back cd_leads_back ct_leads_back), sl_leads_back⟩) (c_leads_back : PySem.W.codeIn K cd_leads_back "leads_back" = true) (k_leads_back : PySem.W.keepIn K (.ref f_leads_back) = true)
    (a_step_on_a_ring : PySem.W.nsIn K mainGlobals "step_on_a_ring" = some (some (.ref f_step_on_a_ring))) (l_step_on_a_ring : K.lookup f_step_on_a_ring = some ⟨oc_step_on_a_ring, od_step_on_a_ring, .func (PySem.W.fnOf "step_on_a_ring" "step_on_a_ring" (defArgs s_step_on_a_ring) (defBody s_step_on_a_ring) (defScope s_step_on_a_ring) .none kV_step_on_a_ring dc_step_on_a_ring pm_step_on_a_ring an_step_on_a_ring cd_step_on_a_ring ct_step_on_a_ring), sl_step_on_a_ring⟩) (c_step_on_a_ring : PySem.W.codeIn K cd_step_on_a_ring "step_on_a_ring" = true) (k_step_on_a_ring : PySem.W.keepIn K (.ref f_step_on_a_ring) = true)
    (a_is_whole : PySem.W.nsIn K mainGlobals "is_whole" = some (some (.ref f_is_whole))) (l_is_whole : K.lookup f_is_whole = some ⟨oc_is_whole, od_is_whole, .func (PySem.W.fnOf "is_whole" "is_whole" (defArgs s_is_whole) (defBody s_is_whole) (defScope s_is_whole) .none kV_is_whole dc_is_whole pm_is_whole an_is_whole cd_is_whole ct_is_whole), sl_is_whole⟩) (c_is_whole : PySem.W.codeIn K cd_is_whole "is_whole" = true) (k_is_whole : PySem.W.keepIn K (.ref f_is_whole) = true)
    (a_is_word : PySem.W.nsIn K mainGlobals "is_word" = some (some (.ref f_is_word))) (l_is_word : K.lookup f_is_word = some ⟨oc_is_word, od_is_word, .func (PySem.W.fnOf "is_word" "is_word" (defArgs s_is_word) (defBody s_is_word) (defScope s_is_word) .none kV_is_word dc_is_word pm_is_word an_is_word cd_is_word ct_is_word), sl_is_word⟩) (c_is_word : PySem.W.codeIn K cd_is_word "is_word" = true) (k_is_word : PySem.W.keepIn K (.ref f_is_word) = true)
    (a_is_kinds : PySem.W.nsIn K mainGlobals "is_kinds" = some (some (.ref f_is_kinds))) (l_is_kinds : K.lookup f_is_kinds = some ⟨oc_is_kinds, od_is_kinds, .func (PySem.W.fnOf "is_kinds" "is_kinds" (defArgs s_is_kinds) (defBody s_is_kinds) (defScope s_is_kinds) .none kV_is_kinds dc_is_kinds pm_is_kinds an_is_kinds cd_is_kinds ct_is_kinds), sl_is_kinds⟩) (c_is_kinds : PySem.W.codeIn K cd_is_kinds "is_kinds" = true) (k_is_kinds : PySem.W.keepIn K (.ref f_is_kinds) = true)
    (a_is_box : PySem.W.nsIn K mainGlobals "is_box" = some (some (.ref f_is_box))) (l_is_box : K.lookup f_is_box = some ⟨oc_is_box, od_is_box, .func (PySem.W.fnOf "is_box" "is_box" (defArgs s_is_box) (defBody s_is_box) (defScope s_is_box) .none kV_is_box dc_is_box pm_is_box an_is_box cd_is_box ct_is_box), sl_is_box⟩) (c_is_box : PySem.W.codeIn K cd_is_box "is_box" = true) (k_is_box : PySem.W.keepIn K (.ref f_is_box) = true)
    (a_is_operand : PySem.W.nsIn K mainGlobals "is_operand" = some (some (.ref f_is_operand))) (l_is_operand : K.lookup f_is_operand = some ⟨oc_is_operand, od_is_operand, .func (PySem.W.fnOf "is_operand" "is_operand" (defArgs s_is_operand) (defBody s_is_operand) (defScope s_is_operand) .none kV_is_operand dc_is_operand pm_is_operand an_is_operand cd_is_operand ct_is_operand), sl_is_operand⟩) (c_is_operand : PySem.W.codeIn K cd_is_operand "is_operand" = true) (k_is_operand : PySem.W.keepIn K (.ref f_is_operand) = true)
    (a_is_cell : PySem.W.nsIn K mainGlobals "is_cell" = some (some (.ref f_is_cell))) (l_is_cell : K.lookup f_is_cell = some ⟨oc_is_cell, od_is_cell, .func (PySem.W.fnOf "is_cell" "is_cell" (defArgs s_is_cell) (defBody s_is_cell) (defScope s_is_cell) .none kV_is_cell dc_is_cell pm_is_cell an_is_cell cd_is_cell ct_is_cell), sl_is_cell⟩) (c_is_cell : PySem.W.codeIn K cd_is_cell "is_cell" = true) (k_is_cell : PySem.W.keepIn K (.ref f_is_cell) = true)
    (a_are_laid : PySem.W.nsIn K mainGlobals "are_laid" = some (some (.ref f_are_laid))) (l_are_laid : K.lookup f_are_laid = some ⟨oc_are_laid, od_are_laid, .func (PySem.W.fnOf "are_laid" "are_laid" (defArgs s_are_laid) (defBody s_are_laid) (defScope s_are_laid) .none kV_are_laid dc_are_laid pm_are_laid an_are_laid cd_are_laid ct_are_laid), sl_are_laid⟩) (c_are_laid : PySem.W.codeIn K cd_are_laid "are_laid" = true) (k_are_laid : PySem.W.keepIn K (.ref f_are_laid) = true)
    (a_is_operation : PySem.W.nsIn K mainGlobals "is_operation" = some (some (.ref f_is_operation))) (l_is_operation : K.lookup f_is_operation = some ⟨oc_is_operation, od_is_operation, .func (PySem.W.fnOf "is_operation" "is_operation" (defArgs s_is_operation) (defBody s_is_operation) (defScope s_is_operation) .none kV_is_operation dc_is_operation pm_is_operation an_is_operation cd_is_operation ct_is_operation), sl_is_operation⟩) (c_is_operation : PySem.W.codeIn K cd_is_operation "is_operation" = true) (k_is_operation : PySem.W.keepIn K (.ref f_is_operation) = true)
    (a_is_call : PySem.W.nsIn K mainGlobals "is_call" = some (some (.ref f_is_call))) (l_is_call : K.lookup f_is_call = some ⟨oc_is_call, od_is_call, .func (PySem.W.fnOf "is_call" "is_call" (defArgs s_is_call) (defBody s_is_call) (defScope s_is_call) .none kV_is_call dc_is_call pm_is_call an_is_call cd_is_call ct_is_call), sl_is_call⟩) (c_is_call : PySem.W.codeIn K cd_is_call "is_call" = true) (k_is_call : PySem.W.keepIn K (.ref f_is_call) = true)
    (a_is_step : PySem.W.nsIn K mainGlobals "is_step" = some (some (.ref f_is_step))) (l_is_step : K.lookup f_is_step = some ⟨oc_is_step, od_is_step, .func (PySem.W.fnOf "is_step" "is_step" (defArgs s_is_step) (defBody s_is_step) (defScope s_is_step) .none kV_is_step dc_is_step pm_is_step an_is_step cd_is_step ct_is_step), sl_is_step⟩) (c_is_step : PySem.W.codeIn K cd_is_step "is_step" = true) (k_is_step : PySem.W.keepIn K (.ref f_is_step) = true)
    (a_is_function : PySem.W.nsIn K mainGlobals "is_function" = some (some (.ref f_is_function))) (l_is_function : K.lookup f_is_function = some ⟨oc_is_function, od_is_function, .func (PySem.W.fnOf "is_function" "is_function" (defArgs s_is_function) (defBody s_is_function) (defScope s_is_function) .none kV_is_function dc_is_function pm_is_function an_is_function cd_is_function ct_is_function), sl_is_function⟩) (c_is_function : PySem.W.codeIn K cd_is_function "is_function" = true) (k_is_function : PySem.W.keepIn K (.ref f_is_function) = true)
    (a_ask_ways : PySem.W.nsIn K mainGlobals "ask_ways" = some (some (.ref f_ask_ways))) (l_ask_ways : K.lookup f_ask_ways = some ⟨oc_ask_ways, od_ask_ways, .func (PySem.W.fnOf "ask_ways" "ask_ways" (defArgs s_ask_ways) (defBody s_ask_ways) (defScope s_ask_ways) .none kV_ask_ways dc_ask_ways pm_ask_ways an_ask_ways cd_ask_ways ct_ask_ways), sl_ask_ways⟩) (c_ask_ways : PySem.W.codeIn K cd_ask_ways "ask_ways" = true) (k_ask_ways : PySem.W.keepIn K (.ref f_ask_ways) = true)
    (a_right_code : PySem.W.nsIn K mainGlobals "right_code" = some (some (.ref f_right_code))) (l_right_code : K.lookup f_right_code = some ⟨oc_right_code, od_right_code, .func (PySem.W.fnOf "right_code" "right_code" (defArgs s_right_code) (defBody s_right_code) (defScope s_right_code) .none kV_right_code dc_right_code pm_right_code an_right_code cd_right_code ct_right_code), sl_right_code⟩) (c_right_code : PySem.W.codeIn K cd_right_code "right_code" = true) (k_right_code : PySem.W.keepIn K (.ref f_right_code) = true)
    (a__law_by : PySem.W.nsIn K mainGlobals "_law_by" = some (some (.ref f__law_by))) (l__law_by : K.lookup f__law_by = some ⟨oc__law_by, od__law_by, .func (PySem.W.fnOf "_law_by" "_law_by" (defArgs s__law_by) (defBody s__law_by) (defScope s__law_by) .none kV__law_by dc__law_by pm__law_by an__law_by cd__law_by ct__law_by), sl__law_by⟩) (c__law_by : PySem.W.codeIn K cd__law_by "_law_by" = true) (k__law_by : PySem.W.keepIn K (.ref f__law_by) = true)
    (a__law_steps : PySem.W.nsIn K mainGlobals "_law_steps" = some (some (.ref f__law_steps))) (l__law_steps : K.lookup f__law_steps = some ⟨oc__law_steps, od__law_steps, .func (PySem.W.fnOf "_law_steps" "_law_steps" (defArgs s__law_steps) (defBody s__law_steps) (defScope s__law_steps) .none kV__law_steps dc__law_steps pm__law_steps an__law_steps cd__law_steps ct__law_steps), sl__law_steps⟩) (c__law_steps : PySem.W.codeIn K cd__law_steps "_law_steps" = true) (k__law_steps : PySem.W.keepIn K (.ref f__law_steps) = true)
    (a_law : PySem.W.nsIn K mainGlobals "law" = some (some (.ref f_law))) (l_law : K.lookup f_law = some ⟨oc_law, od_law, .func (PySem.W.fnOf "law" "law" (defArgs s_law) (defBody s_law) (defScope s_law) .none kV_law dc_law pm_law an_law cd_law ct_law), sl_law⟩) (c_law : PySem.W.codeIn K cd_law "law" = true) (k_law : PySem.W.keepIn K (.ref f_law) = true)
    (pg_Engine : PySem.W.plainGet K cc_Engine Str.empty = true) (hd_Engine : PySem.W.hasDictIn K cc_Engine = true) (po_Engine : PySem.W.plainOver K cc_Engine = true) (sa_Engine : PySem.W.findIn K (.ref cc_Engine) "__setattr__" = some (some (.builtin "object.__setattr__"))) (mk_Engine : PySem.W.makesIn K cc_Engine = true) (kc_Engine : PySem.W.keepIn K (.ref cc_Engine) = true) (na_Engine_at : PySem.W.findIn K (.ref cc_Engine) "at" = some none) (na_Engine_base : PySem.W.findIn K (.ref cc_Engine) "base" = some none) (na_Engine_boxes : PySem.W.findIn K (.ref cc_Engine) "boxes" = some none) (na_Engine_code : PySem.W.findIn K (.ref cc_Engine) "code" = some none) (na_Engine_left : PySem.W.findIn K (.ref cc_Engine) "left" = some none) (na_Engine_memory : PySem.W.findIn K (.ref cc_Engine) "memory" = some none) (na_Engine_now : PySem.W.findIn K (.ref cc_Engine) "now" = some none) (na_Engine_waiting : PySem.W.findIn K (.ref cc_Engine) "waiting" = some none)
    (z_int : PySem.W.nsIn K mainGlobals "int" = some none)
    (z_len : PySem.W.nsIn K mainGlobals "len" = some none)
    (z_max : PySem.W.nsIn K mainGlobals "max" = some none)
    (z_min : PySem.W.nsIn K mainGlobals "min" = some none)
    (z_tuple : PySem.W.nsIn K mainGlobals "tuple" = some none)
    (z_list : PySem.W.nsIn K mainGlobals "list" = some none)
    (z_isinstance : PySem.W.nsIn K mainGlobals "isinstance" = some none)
    (z_str : PySem.W.nsIn K mainGlobals "str" = some none)
    (z_zip : PySem.W.nsIn K mainGlobals "zip" = some none)
    (z_sorted : PySem.W.nsIn K mainGlobals "sorted" = some none)
    (z_dict : PySem.W.nsIn K mainGlobals "dict" = some none)
    (z_enumerate : PySem.W.nsIn K mainGlobals "enumerate" = some none)
    (z_bool : PySem.W.nsIn K mainGlobals "bool" = some none)
    (z_set : PySem.W.nsIn K mainGlobals "set" = some none)
    (z_range : PySem.W.nsIn K mainGlobals "range" = some none)
    (g_BOXES : PySem.W.nsIn K mainGlobals "BOXES" = some (some (.ref ad_BOXES))) (gl_BOXES : K.lookup ad_BOXES = some ⟨.type "tuple", none, .seq its_BOXES n_BOXES, #[]⟩)
    (g_LEAST : PySem.W.nsIn K mainGlobals "LEAST" = some (some (.int (-32768) t_LEAST)))
    (g_LONGEST : PySem.W.nsIn K mainGlobals "LONGEST" = some (some (.int 40 t_LONGEST)))
    (g_OPERATIONS : PySem.W.nsIn K mainGlobals "OPERATIONS" = some (some (.ref ad_OPERATIONS))) (gl_OPERATIONS : K.lookup ad_OPERATIONS = some ⟨.type "dict", none, .dict es_OPERATIONS n_OPERATIONS, #[]⟩)
    (g_TURN : PySem.W.nsIn K mainGlobals "TURN" = some (some (.int 65536 t_TURN)))
    (tb_OPERATIONS : TabIn w K ad_OPERATIONS tab_OPERATIONS) (tb_BOXES : TupIn K ad_BOXES [.str [110, 48], .str [110, 49], .str [110, 50], .str [110, 51], .str [110, 52], .str [110, 53], .str [110, 54], .str [110, 55], .str [114, 48], .str [114, 49], .str [114, 50], .str [114, 51]])
    : ∃ fd : FuncData, (∀ (s : Shared) (v : Value), BindsTo s fd ⟨[v], []⟩ [("_law_script", v)]) ∧ ∀ base : Heap, K.In base → base.Ns mainGlobals mg → FnOk l.prog w K mg base (L2.CX l.prog w) 8 fa fd ["_law_script"] (fun vs H Q E => ∃ n, spM ⟨w, K⟩ (F_law n) 1 vs H Q E) := by
  have e := hfa.symm.trans (PySem.W.mg_of X G a_law)
  cases e
  have F_taken_in := fun_mk (st := s_taken_in) l_taken_in c_taken_in k_taken_in
  have B_taken_in := F_taken_in.binds (ps := ["whole"]) fun _ _ _ _ _ _ us hl => match us, hl with | [_], _ => rfl
  have F_kinds_of := fun_mk (st := s_kinds_of) l_kinds_of c_kinds_of k_kinds_of
  have B_kinds_of := F_kinds_of.binds (ps := ["op"]) fun _ _ _ _ _ _ us hl => match us, hl with | [_], _ => rfl
  have F_divided := fun_mk (st := s_divided) l_divided c_divided k_divided
  have B_divided := F_divided.binds (ps := ["one", "other"]) fun _ _ _ _ _ _ us hl => match us, hl with | [_, _], _ => rfl
  have F_done_sum := fun_mk (st := s_done_sum) l_done_sum c_done_sum k_done_sum
  have B_done_sum := F_done_sum.binds (ps := ["op", "one", "other"]) fun _ _ _ _ _ _ us hl => match us, hl with | [_, _, _], _ => rfl
  have F_put_at := fun_mk (st := s_put_at) l_put_at c_put_at k_put_at
  have B_put_at := F_put_at.binds (ps := ["row", "place", "number"]) fun _ _ _ _ _ _ us hl => match us, hl with | [_, _, _], _ => rfl
  have F_done_row := fun_mk (st := s_done_row) l_done_row c_done_row k_done_row
  have B_done_row := F_done_row.binds (ps := ["op", "values"]) fun _ _ _ _ _ _ us hl => match us, hl with | [_, _], _ => rfl
  have F_done := fun_mk (st := s_done) l_done c_done k_done
  have B_done := F_done.binds (ps := ["op", "values"]) fun _ _ _ _ _ _ us hl => match us, hl with | [_, _], _ => rfl
  have F_Engine__begin := fun_mk (st := s_Engine__begin) l_Engine__begin c_Engine__begin k_Engine__begin
  have B_Engine__begin := F_Engine__begin.binds (ps := ["self", "function", "values"]) fun _ _ _ _ _ _ us hl => match us, hl with | [_, _, _], _ => rfl
  have F_Engine____init__ := fun_mk (st := s_Engine____init__) l_Engine____init__ c_Engine____init__ k_Engine____init__
  have B_Engine____init__ := F_Engine____init__.binds (ps := ["self", "code", "function", "values", "bound"]) fun _ _ _ _ _ _ us hl => match us, hl with | [_, _, _, _, _], _ => rfl
  have F_Engine__value := fun_mk (st := s_Engine__value) l_Engine__value c_Engine__value k_Engine__value
  have B_Engine__value := F_Engine__value.binds (ps := ["self", "thing"]) fun _ _ _ _ _ _ us hl => match us, hl with | [_, _], _ => rfl
  have F_Engine__call := fun_mk (st := s_Engine__call) l_Engine__call c_Engine__call k_Engine__call
  have B_Engine__call := F_Engine__call.binds (ps := ["self", "step"]) fun _ _ _ _ _ _ us hl => match us, hl with | [_, _], _ => rfl
  have F_Engine__give := fun_mk (st := s_Engine__give) l_Engine__give c_Engine__give k_Engine__give
  have B_Engine__give := F_Engine__give.binds (ps := ["self", "step"]) fun _ _ _ _ _ _ us hl => match us, hl with | [_, _], _ => rfl
  have F_Engine__lay_in := fun_mk (st := s_Engine__lay_in) l_Engine__lay_in c_Engine__lay_in k_Engine__lay_in
  have B_Engine__lay_in := F_Engine__lay_in.binds (ps := ["self", "step"]) fun _ _ _ _ _ _ us hl => match us, hl with | [_, _], _ => rfl
  have F_Engine__go_on := fun_mk (st := s_Engine__go_on) l_Engine__go_on c_Engine__go_on k_Engine__go_on
  have B_Engine__go_on := F_Engine__go_on.binds (ps := ["self"]) fun _ _ _ _ _ _ us hl => match us, hl with | [_], _ => rfl
  have F_run_code := fun_mk (st := s_run_code) l_run_code c_run_code k_run_code
  have B_run_code := F_run_code.binds (ps := ["code", "function", "values", "bound"]) fun _ _ _ _ _ _ us hl => match us, hl with | [_, _, _, _], _ => rfl
  have F_ways_on := fun_mk (st := s_ways_on) l_ways_on c_ways_on k_ways_on
  have B_ways_on := F_ways_on.binds (ps := ["step", "at"]) fun _ _ _ _ _ _ us hl => match us, hl with | [_, _], _ => rfl
  have F_steps_come_to := fun_mk (st := s_steps_come_to) l_steps_come_to c_steps_come_to k_steps_come_to
  have B_steps_come_to := F_steps_come_to.binds (ps := ["steps"]) fun _ _ _ _ _ _ us hl => match us, hl with | [_], _ => rfl
  have F_things_read := fun_mk (st := s_things_read) l_things_read c_things_read k_things_read
  have B_things_read := F_things_read.binds (ps := ["step"]) fun _ _ _ _ _ _ us hl => match us, hl with | [_], _ => rfl
  have F_laid_behind := fun_mk (st := s_laid_behind) l_laid_behind c_laid_behind k_laid_behind
  have B_laid_behind := F_laid_behind.binds (ps := ["step", "state"]) fun _ _ _ _ _ _ us hl => match us, hl with | [_, _], _ => rfl
  have F_reads_well := fun_mk (st := s_reads_well) l_reads_well c_reads_well k_reads_well
  have B_reads_well := F_reads_well.binds (ps := ["step", "state"]) fun _ _ _ _ _ _ us hl => match us, hl with | [_, _], _ => rfl
  have F_states_ahead := fun_mk (st := s_states_ahead) l_states_ahead c_states_ahead k_states_ahead
  have B_states_ahead := F_states_ahead.binds (ps := ["takes", "steps"]) fun _ _ _ _ _ _ us hl => match us, hl with | [_, _], _ => rfl
  have F_leads_back := fun_mk (st := s_leads_back) l_leads_back c_leads_back k_leads_back
  have B_leads_back := F_leads_back.binds (ps := ["steps", "first", "there"]) fun _ _ _ _ _ _ us hl => match us, hl with | [_, _, _], _ => rfl
  have F_step_on_a_ring := fun_mk (st := s_step_on_a_ring) l_step_on_a_ring c_step_on_a_ring k_step_on_a_ring
  have B_step_on_a_ring := F_step_on_a_ring.binds (ps := ["steps"]) fun _ _ _ _ _ _ us hl => match us, hl with | [_], _ => rfl
  have F_is_whole := fun_mk (st := s_is_whole) l_is_whole c_is_whole k_is_whole
  have B_is_whole := F_is_whole.binds (ps := ["thing", "least", "most"]) fun _ _ _ _ _ _ us hl => match us, hl with | [_, _, _], _ => rfl
  have F_is_word := fun_mk (st := s_is_word) l_is_word c_is_word k_is_word
  have B_is_word := F_is_word.binds (ps := ["thing"]) fun _ _ _ _ _ _ us hl => match us, hl with | [_], _ => rfl
  have F_is_kinds := fun_mk (st := s_is_kinds) l_is_kinds c_is_kinds k_is_kinds
  have B_is_kinds := F_is_kinds.binds (ps := ["thing", "most"]) fun _ _ _ _ _ _ us hl => match us, hl with | [_, _], _ => rfl
  have F_is_box := fun_mk (st := s_is_box) l_is_box c_is_box k_is_box
  have B_is_box := F_is_box.binds (ps := ["thing"]) fun _ _ _ _ _ _ us hl => match us, hl with | [_], _ => rfl
  have F_is_operand := fun_mk (st := s_is_operand) l_is_operand c_is_operand k_is_operand
  have B_is_operand := F_is_operand.binds (ps := ["thing", "kind"]) fun _ _ _ _ _ _ us hl => match us, hl with | [_, _], _ => rfl
  have F_is_cell := fun_mk (st := s_is_cell) l_is_cell c_is_cell k_is_cell
  have B_is_cell := F_is_cell.binds (ps := ["thing", "kind", "cells"]) fun _ _ _ _ _ _ us hl => match us, hl with | [_, _, _], _ => rfl
  have F_are_laid := fun_mk (st := s_are_laid) l_are_laid c_are_laid k_are_laid
  have B_are_laid := F_are_laid.binds (ps := ["things", "kinds", "cells"]) fun _ _ _ _ _ _ us hl => match us, hl with | [_, _, _], _ => rfl
  have F_is_operation := fun_mk (st := s_is_operation) l_is_operation c_is_operation k_is_operation
  have B_is_operation := F_is_operation.binds (ps := ["step"]) fun _ _ _ _ _ _ us hl => match us, hl with | [_], _ => rfl
  have F_is_call := fun_mk (st := s_is_call) l_is_call c_is_call k_is_call
  have B_is_call := F_is_call.binds (ps := ["step", "cells", "code"]) fun _ _ _ _ _ _ us hl => match us, hl with | [_, _, _], _ => rfl
  have F_is_step := fun_mk (st := s_is_step) l_is_step c_is_step k_is_step
  have B_is_step := F_is_step.binds (ps := ["step", "function", "code"]) fun _ _ _ _ _ _ us hl => match us, hl with | [_, _, _], _ => rfl
  have F_is_function := fun_mk (st := s_is_function) l_is_function c_is_function k_is_function
  have B_is_function := F_is_function.binds (ps := ["function", "words"]) fun _ _ _ _ _ _ us hl => match us, hl with | [_, _], _ => rfl
  have F_ask_ways := fun_mk (st := s_ask_ways) l_ask_ways c_ask_ways k_ask_ways
  have B_ask_ways := F_ask_ways.binds (ps := ["number", "function"]) fun _ _ _ _ _ _ us hl => match us, hl with | [_, _], _ => rfl
  have F_right_code := fun_mk (st := s_right_code) l_right_code c_right_code k_right_code
  have B_right_code := F_right_code.binds (ps := ["code"]) fun _ _ _ _ _ _ us hl => match us, hl with | [_], _ => rfl
  have F__law_by := fun_mk (st := s__law_by) l__law_by c__law_by k__law_by
  have B__law_by := F__law_by.binds (ps := ["_law_script", "_law_k", "_law_many"]) fun _ _ _ _ _ _ us hl => match us, hl with | [_, _, _], _ => rfl
  have F__law_steps := fun_mk (st := s__law_steps) l__law_steps c__law_steps k__law_steps
  have B__law_steps := F__law_steps.binds (ps := ["_law_number"]) fun _ _ _ _ _ _ us hl => match us, hl with | [_], _ => rfl
  have F_law := fun_mk (st := s_law) l_law c_law k_law
  have B_law := F_law.binds (ps := ["_law_script"]) fun _ _ _ _ _ _ us hl => match us, hl with | [_], _ => rfl
  have T : Txt w K mg ⟨f_taken_in, _, f_kinds_of, _, f_divided, _, f_done_sum, _, f_put_at, _, f_done_row, _, f_done, _, f_Engine__begin, _, f_Engine____init__, _, f_Engine__value, _, f_Engine__call, _, f_Engine__give, _, f_Engine__lay_in, _, f_Engine__go_on, _, f_run_code, _, f_ways_on, _, f_steps_come_to, _, f_things_read, _, f_laid_behind, _, f_reads_well, _, f_states_ahead, _, f_leads_back, _, f_step_on_a_ring, _, f_is_whole, _, f_is_word, _, f_is_kinds, _, f_is_box, _, f_is_operand, _, f_is_cell, _, f_are_laid, _, f_is_operation, _, f_is_call, _, f_is_step, _, f_is_function, _, f_ask_ways, _, f_right_code, _, f__law_by, _, f__law_steps, _, fa, _, cc_Engine⟩ := ⟨F_taken_in, PySem.W.mg_of X G a_taken_in, B_taken_in, F_kinds_of, PySem.W.mg_of X G a_kinds_of, B_kinds_of, F_divided, PySem.W.mg_of X G a_divided, B_divided, F_done_sum, PySem.W.mg_of X G a_done_sum, B_done_sum, F_put_at, PySem.W.mg_of X G a_put_at, B_put_at, F_done_row, PySem.W.mg_of X G a_done_row, B_done_row, F_done, PySem.W.mg_of X G a_done, B_done, F_Engine__begin, ⟨a_Engine__begin, i_Engine__begin, k_Engine__begin⟩, B_Engine__begin, F_Engine____init__, ⟨a_Engine____init__, i_Engine____init__, k_Engine____init__⟩, B_Engine____init__, F_Engine__value, ⟨a_Engine__value, i_Engine__value, k_Engine__value⟩, B_Engine__value, F_Engine__call, ⟨a_Engine__call, i_Engine__call, k_Engine__call⟩, B_Engine__call, F_Engine__give, ⟨a_Engine__give, i_Engine__give, k_Engine__give⟩, B_Engine__give, F_Engine__lay_in, ⟨a_Engine__lay_in, i_Engine__lay_in, k_Engine__lay_in⟩, B_Engine__lay_in, F_Engine__go_on, ⟨a_Engine__go_on, i_Engine__go_on, k_Engine__go_on⟩, B_Engine__go_on, F_run_code, PySem.W.mg_of X G a_run_code, B_run_code, F_ways_on, PySem.W.mg_of X G a_ways_on, B_ways_on, F_steps_come_to, PySem.W.mg_of X G a_steps_come_to, B_steps_come_to, F_things_read, PySem.W.mg_of X G a_things_read, B_things_read, F_laid_behind, PySem.W.mg_of X G a_laid_behind, B_laid_behind, F_reads_well, PySem.W.mg_of X G a_reads_well, B_reads_well, F_states_ahead, PySem.W.mg_of X G a_states_ahead, B_states_ahead, F_leads_back, PySem.W.mg_of X G a_leads_back, B_leads_back, F_step_on_a_ring, PySem.W.mg_of X G a_step_on_a_ring, B_step_on_a_ring, F_is_whole, PySem.W.mg_of X G a_is_whole, B_is_whole, F_is_word, PySem.W.mg_of X G a_is_word, B_is_word, F_is_kinds, PySem.W.mg_of X G a_is_kinds, B_is_kinds, F_is_box, PySem.W.mg_of X G a_is_box, B_is_box, F_is_operand, PySem.W.mg_of X G a_is_operand, B_is_operand, F_is_cell, PySem.W.mg_of X G a_is_cell, B_is_cell, F_are_laid, PySem.W.mg_of X G a_are_laid, B_are_laid, F_is_operation, PySem.W.mg_of X G a_is_operation, B_is_operation, F_is_call, PySem.W.mg_of X G a_is_call, B_is_call, F_is_step, PySem.W.mg_of X G a_is_step, B_is_step, F_is_function, PySem.W.mg_of X G a_is_function, B_is_function, F_ask_ways, PySem.W.mg_of X G a_ask_ways, B_ask_ways, F_right_code, PySem.W.mg_of X G a_right_code, B_right_code, F__law_by, PySem.W.mg_of X G a__law_by, B__law_by, F__law_steps, PySem.W.mg_of X G a__law_steps, B__law_steps, F_law, PySem.W.mg_of X G a_law, B_law, PySem.W.mg_of X G a_Engine, a_Engine, ⟨pg_Engine, hd_Engine, po_Engine, sa_Engine⟩, ⟨mk_Engine, a_Engine____init__, i_Engine____init__, kc_Engine⟩, na_Engine_at, na_Engine_base, na_Engine_boxes, na_Engine_code, na_Engine_left, na_Engine_memory, na_Engine_now, na_Engine_waiting, ⟨_, PySem.W.mg_of X G g_BOXES, tb_BOXES⟩, ⟨_, PySem.W.mg_of X G g_LEAST⟩, ⟨_, PySem.W.mg_of X G g_LONGEST⟩, ⟨_, PySem.W.mg_of X G g_OPERATIONS, tb_OPERATIONS⟩, ⟨_, PySem.W.mg_of X G g_TURN⟩, PySem.W.mg_none_of X G z_int, PySem.W.mg_none_of X G z_len, PySem.W.mg_none_of X G z_max, PySem.W.mg_none_of X G z_min, PySem.W.mg_none_of X G z_tuple, PySem.W.mg_none_of X G z_list, PySem.W.mg_none_of X G z_isinstance, PySem.W.mg_none_of X G z_str, PySem.W.mg_none_of X G z_zip, PySem.W.mg_none_of X G z_sorted, PySem.W.mg_none_of X G z_dict, PySem.W.mg_none_of X G z_enumerate, PySem.W.mg_none_of X G z_bool, PySem.W.mg_none_of X G z_set, PySem.W.mg_none_of X G z_range⟩
  exact ⟨_, fun s v => .of_eq rfl, fun base _ _ => FnOk.ex fun n => ok_law T n⟩
theorem walk {l : PySem.W.OpenLaw} {q : Program} {loose : List Str} {XP : (Str → Option Value) → Heap → Prop} {YP : World → Heap → Prop} {d : DefRec} {K : Params → PySem.W.Frag} (hn : l.most = some 63) (hdf : d.params.defaults = [])
    (hY : ∀ (w : World) (h : Heap), YP w h → (K w.params).In h) (pure : ∀ ns : List Int, ns.length ≤ 63 → ∃ n st, F_law n [.frz (ns.map .int)] [] = .ok (.bl true) st)
    (F : ∀ (w : World) (mg : Str → Option Value) (fa : Addr) (h : Heap), (K w.params).In h → h.Ns mainGlobals mg → mg d.name = some (.ref fa) →
      ∃ fd : FuncData, (∀ (s : Shared) (u : Value), BindsTo s fd ⟨[u], []⟩ [("_law_script", u)]) ∧ ∀ base : Heap, (K w.params).In base → base.Ns mainGlobals mg → FnOk l.prog w (K w.params) mg base (L2.CX l.prog w) 8 fa fd ["_law_script"] (fun vs H Q E => ∃ n, spM ⟨w, K w.params⟩ (F_law n) 1 vs H Q E)) :
    PySem.W.WalkO q loose XP YP l.row.toRowW d [] (fun f vs => PySem.call f vs) :=
  L2.walk_of (n := 63) (k := 8) (x := "_law_script") (CX := fun w => L2.CX l.prog w) (sp := fun w vs H Q E => ∃ n, spM ⟨w, K w.params⟩ (F_law n) 1 vs H Q E) hn (by decide) hdf ⟨rfl, by decide, by decide⟩ hY F (fun w H a ns hl _ hS => by
    obtain ⟨n, st, e⟩ := pure ns hl
    exact law_sp (K := ⟨w, K w.params⟩) hS e) fun w H s e s' => cx_false H s e s'
end K80

set_option maxRecDepth 100000
namespace K80
open PySem L2 MP
theorem fmod_lt {i m : Int} (h : 0 < m) : 0 ≤ i.fmod m ∧ i.fmod m < m := by
  rw [Int.fmod_eq_emod_of_nonneg i (by omega)]
  exact ⟨Int.emod_nonneg _ (by omega), Int.emod_lt_of_pos _ h⟩
theorem atI_all {α : Type} {xs : List α} {i : Int} (h0 : 0 ≤ i) (h1 : i < xs.length) {P : α → Prop} (hP : ∀ x ∈ xs, P x) : ∃ x, L2.atI xs i = some x ∧ P x := ⟨_, atI_of h0 h1, hP _ (List.getElem_mem _)⟩
theorem Z_inT {n : Bool} {x : PV} {xs : List PV} {st : Sto} {Q : PV → Sto → Prop} {E : Exn → Sto → Prop} (h : (flatP x && xs.all flatP) = true) : Z (inM n x (.tup xs) st) Q E = Q (.bl (ng n (xs.any fun p => eqb p x))) st := by
  unfold inM; dsimp only [seqOf]; rw [if_pos h]; rfl
section
variable {n : Nat} {st : Sto} {Q : PV → Sto → Prop} {E : Exn → Sto → Prop} {m : Nat} {xs : List PV} {y a : PV}
theorem Z_neNil0 (h : st[m]? = some (.lst [])) : Z (neM (.loc m) (.lst []) st) Q E = Q (.bl false) st := by
  have e : shal (.loc m) st = .lst [] := by unfold shal; dsimp only; rw [h]
  have e' : shal (.lst []) st = .lst [] := rfl
  rw [Z_ne (by unfold cmpOk; rw [e, e']; exact Bool.or_eq_true_iff.mpr (.inr (by decide +kernel))), e, e']
  rfl
theorem Z_neNil1 {z : PV} {zs : List PV} (h : st[m]? = some (.lst (z :: zs))) : Z (neM (.loc m) (.lst []) st) Q E = Q (.bl true) st := by
  have e : shal (.loc m) st = .lst (z :: zs) := by unfold shal; dsimp only; rw [h]
  have e' : shal (.lst []) st = .lst [] := rfl
  by_cases hc : cmpOk (.loc m) (.lst []) st = true
  · rw [Z_ne hc, e, e', show eqb (.lst (z :: zs)) (.lst []) = false from by simp [eqb, eqbs]]
    rfl
  · unfold neM
    rw [if_neg hc, if_pos (by unfold lenNe; rw [e, e']; simp)]
    rfl
theorem Z_popI {i : Int} {xs : List PV} (h : st[m]? = some (.lst (xs ++ [.int i]))) : Z (popM (.loc m) [] st) Q E = Q (.int i) (st.set m (.lst xs)) := by
  unfold popM lstCell; dsimp only; rw [h]; simp
theorem gk0 {a0 : Cell} {xs : Sto} : (st ++ a0 :: xs)[st.length]? = some a0 := by rw [List.getElem?_append_right (by omega)]; simp
theorem sk0 {a0 c : Cell} {xs : Sto} : (st ++ a0 :: xs).set (st.length) c = st ++ c :: xs := by rw [List.set_append_right _ _ (by omega)]; simp
theorem gk1 {a0 a1 : Cell} {xs : Sto} : (st ++ a0 :: a1 :: xs)[st.length + 1]? = some a1 := by rw [List.getElem?_append_right (by omega)]; simp
theorem sk1 {a0 a1 c : Cell} {xs : Sto} : (st ++ a0 :: a1 :: xs).set (st.length + 1) c = st ++ a0 :: c :: xs := by rw [List.set_append_right _ _ (by omega)]; simp
theorem gk2 {a0 a1 a2 : Cell} {xs : Sto} : (st ++ a0 :: a1 :: a2 :: xs)[st.length + 2]? = some a2 := by rw [List.getElem?_append_right (by omega)]; simp
theorem sk2 {a0 a1 a2 c : Cell} {xs : Sto} : (st ++ a0 :: a1 :: a2 :: xs).set (st.length + 2) c = st ++ a0 :: a1 :: c :: xs := by rw [List.set_append_right _ _ (by omega)]; simp
theorem gk3 {a0 a1 a2 a3 : Cell} {xs : Sto} : (st ++ a0 :: a1 :: a2 :: a3 :: xs)[st.length + 3]? = some a3 := by rw [List.getElem?_append_right (by omega)]; simp
theorem sk3 {a0 a1 a2 a3 c : Cell} {xs : Sto} : (st ++ a0 :: a1 :: a2 :: a3 :: xs).set (st.length + 3) c = st ++ a0 :: a1 :: a2 :: c :: xs := by rw [List.set_append_right _ _ (by omega)]; simp
theorem gk4 {a0 a1 a2 a3 a4 : Cell} {xs : Sto} : (st ++ a0 :: a1 :: a2 :: a3 :: a4 :: xs)[st.length + 4]? = some a4 := by rw [List.getElem?_append_right (by omega)]; simp
theorem sk4 {a0 a1 a2 a3 a4 c : Cell} {xs : Sto} : (st ++ a0 :: a1 :: a2 :: a3 :: a4 :: xs).set (st.length + 4) c = st ++ a0 :: a1 :: a2 :: a3 :: c :: xs := by rw [List.set_append_right _ _ (by omega)]; simp
theorem gk5 {a0 a1 a2 a3 a4 a5 : Cell} {xs : Sto} : (st ++ a0 :: a1 :: a2 :: a3 :: a4 :: a5 :: xs)[st.length + 5]? = some a5 := by rw [List.getElem?_append_right (by omega)]; simp
theorem sk5 {a0 a1 a2 a3 a4 a5 c : Cell} {xs : Sto} : (st ++ a0 :: a1 :: a2 :: a3 :: a4 :: a5 :: xs).set (st.length + 5) c = st ++ a0 :: a1 :: a2 :: a3 :: a4 :: c :: xs := by rw [List.set_append_right _ _ (by omega)]; simp
theorem gk6 {a0 a1 a2 a3 a4 a5 a6 : Cell} {xs : Sto} : (st ++ a0 :: a1 :: a2 :: a3 :: a4 :: a5 :: a6 :: xs)[st.length + 6]? = some a6 := by rw [List.getElem?_append_right (by omega)]; simp
theorem sk6 {a0 a1 a2 a3 a4 a5 a6 c : Cell} {xs : Sto} : (st ++ a0 :: a1 :: a2 :: a3 :: a4 :: a5 :: a6 :: xs).set (st.length + 6) c = st ++ a0 :: a1 :: a2 :: a3 :: a4 :: a5 :: c :: xs := by rw [List.set_append_right _ _ (by omega)]; simp
theorem gk7 {a0 a1 a2 a3 a4 a5 a6 a7 : Cell} {xs : Sto} : (st ++ a0 :: a1 :: a2 :: a3 :: a4 :: a5 :: a6 :: a7 :: xs)[st.length + 7]? = some a7 := by rw [List.getElem?_append_right (by omega)]; simp
theorem sk7 {a0 a1 a2 a3 a4 a5 a6 a7 c : Cell} {xs : Sto} : (st ++ a0 :: a1 :: a2 :: a3 :: a4 :: a5 :: a6 :: a7 :: xs).set (st.length + 7) c = st ++ a0 :: a1 :: a2 :: a3 :: a4 :: a5 :: a6 :: c :: xs := by rw [List.set_append_right _ _ (by omega)]; simp
theorem gk8 {a0 a1 a2 a3 a4 a5 a6 a7 a8 : Cell} {xs : Sto} : (st ++ a0 :: a1 :: a2 :: a3 :: a4 :: a5 :: a6 :: a7 :: a8 :: xs)[st.length + 8]? = some a8 := by rw [List.getElem?_append_right (by omega)]; simp
theorem sk8 {a0 a1 a2 a3 a4 a5 a6 a7 a8 c : Cell} {xs : Sto} : (st ++ a0 :: a1 :: a2 :: a3 :: a4 :: a5 :: a6 :: a7 :: a8 :: xs).set (st.length + 8) c = st ++ a0 :: a1 :: a2 :: a3 :: a4 :: a5 :: a6 :: a7 :: c :: xs := by rw [List.set_append_right _ _ (by omega)]; simp
theorem gk9 {a0 a1 a2 a3 a4 a5 a6 a7 a8 a9 : Cell} {xs : Sto} : (st ++ a0 :: a1 :: a2 :: a3 :: a4 :: a5 :: a6 :: a7 :: a8 :: a9 :: xs)[st.length + 9]? = some a9 := by rw [List.getElem?_append_right (by omega)]; simp
theorem sk9 {a0 a1 a2 a3 a4 a5 a6 a7 a8 a9 c : Cell} {xs : Sto} : (st ++ a0 :: a1 :: a2 :: a3 :: a4 :: a5 :: a6 :: a7 :: a8 :: a9 :: xs).set (st.length + 9) c = st ++ a0 :: a1 :: a2 :: a3 :: a4 :: a5 :: a6 :: a7 :: a8 :: c :: xs := by rw [List.set_append_right _ _ (by omega)]; simp
theorem gk10 {a0 a1 a2 a3 a4 a5 a6 a7 a8 a9 a10 : Cell} {xs : Sto} : (st ++ a0 :: a1 :: a2 :: a3 :: a4 :: a5 :: a6 :: a7 :: a8 :: a9 :: a10 :: xs)[st.length + 10]? = some a10 := by rw [List.getElem?_append_right (by omega)]; simp
theorem sk10 {a0 a1 a2 a3 a4 a5 a6 a7 a8 a9 a10 c : Cell} {xs : Sto} : (st ++ a0 :: a1 :: a2 :: a3 :: a4 :: a5 :: a6 :: a7 :: a8 :: a9 :: a10 :: xs).set (st.length + 10) c = st ++ a0 :: a1 :: a2 :: a3 :: a4 :: a5 :: a6 :: a7 :: a8 :: a9 :: c :: xs := by rw [List.set_append_right _ _ (by omega)]; simp
theorem gk11 {a0 a1 a2 a3 a4 a5 a6 a7 a8 a9 a10 a11 : Cell} {xs : Sto} : (st ++ a0 :: a1 :: a2 :: a3 :: a4 :: a5 :: a6 :: a7 :: a8 :: a9 :: a10 :: a11 :: xs)[st.length + 11]? = some a11 := by rw [List.getElem?_append_right (by omega)]; simp
theorem sk11 {a0 a1 a2 a3 a4 a5 a6 a7 a8 a9 a10 a11 c : Cell} {xs : Sto} : (st ++ a0 :: a1 :: a2 :: a3 :: a4 :: a5 :: a6 :: a7 :: a8 :: a9 :: a10 :: a11 :: xs).set (st.length + 11) c = st ++ a0 :: a1 :: a2 :: a3 :: a4 :: a5 :: a6 :: a7 :: a8 :: a9 :: a10 :: c :: xs := by rw [List.set_append_right _ _ (by omega)]; simp
theorem gk12 {a0 a1 a2 a3 a4 a5 a6 a7 a8 a9 a10 a11 a12 : Cell} {xs : Sto} : (st ++ a0 :: a1 :: a2 :: a3 :: a4 :: a5 :: a6 :: a7 :: a8 :: a9 :: a10 :: a11 :: a12 :: xs)[st.length + 12]? = some a12 := by rw [List.getElem?_append_right (by omega)]; simp
theorem sk12 {a0 a1 a2 a3 a4 a5 a6 a7 a8 a9 a10 a11 a12 c : Cell} {xs : Sto} : (st ++ a0 :: a1 :: a2 :: a3 :: a4 :: a5 :: a6 :: a7 :: a8 :: a9 :: a10 :: a11 :: a12 :: xs).set (st.length + 12) c = st ++ a0 :: a1 :: a2 :: a3 :: a4 :: a5 :: a6 :: a7 :: a8 :: a9 :: a10 :: a11 :: c :: xs := by rw [List.set_append_right _ _ (by omega)]; simp
theorem gk13 {a0 a1 a2 a3 a4 a5 a6 a7 a8 a9 a10 a11 a12 a13 : Cell} {xs : Sto} : (st ++ a0 :: a1 :: a2 :: a3 :: a4 :: a5 :: a6 :: a7 :: a8 :: a9 :: a10 :: a11 :: a12 :: a13 :: xs)[st.length + 13]? = some a13 := by rw [List.getElem?_append_right (by omega)]; simp
theorem sk13 {a0 a1 a2 a3 a4 a5 a6 a7 a8 a9 a10 a11 a12 a13 c : Cell} {xs : Sto} : (st ++ a0 :: a1 :: a2 :: a3 :: a4 :: a5 :: a6 :: a7 :: a8 :: a9 :: a10 :: a11 :: a12 :: a13 :: xs).set (st.length + 13) c = st ++ a0 :: a1 :: a2 :: a3 :: a4 :: a5 :: a6 :: a7 :: a8 :: a9 :: a10 :: a11 :: a12 :: c :: xs := by rw [List.set_append_right _ _ (by omega)]; simp
def kWh (t : Rho → M Bool) (b : Rho → M Fl) (n : Nat) (ρ : Rho) (QF : Fl → Sto → Prop) (E : Exn → Sto → Prop) : Bool → Sto → Prop := fun c s => if c = true then Z (b ρ s) (turnQ (whileF t b n) QF E) E else QF (.next ρ) s
theorem Z_while {t : Rho → M Bool} {b : Rho → M Fl} {n : Nat} {ρ : Rho} {st : Sto} {QF : Fl → Sto → Prop} {E : Exn → Sto → Prop} : Z (whileF t b (n + 1) ρ st) QF E = Z (t ρ st) (kWh t b n ρ QF E) (kX ρ QF) := by
  rw [whileF, Z_onErr]
  congr 1
  funext c s
  unfold kWh
  cases c
  · rfl
  · rw [if_pos rfl, if_pos rfl, Z_turn]
theorem Z_neL {xs : List PV} (h : st[m]? = some (.lst xs)) : Z (neM (.loc m) (.lst []) st) Q E = Q (.bl (!xs.isEmpty)) st := by
  cases xs with
  | nil => rw [Z_neNil0 h]; rfl
  | cons z zs => rw [Z_neNil1 h]; rfl
theorem Z_popL {xs : List PV} (h : st[m]? = some (.lst xs)) : Z (popM (.loc m) [] st) Q E = Z (optM xs[xs.length - 1]? st) (fun y s => Q y (s.set m (.lst xs.dropLast))) E := by
  unfold popM lstCell; dsimp only; rw [h]; dsimp only
  cases xs[xs.length - 1]? <;> rfl
theorem Z_pop_a (h : st[m]? = some (.lst (xs ++ [y]))) : Z (popM (.loc m) [] st) Q E = Q y (st.set m (.lst xs)) := by
  rw [Z_popL h]; simp
theorem Z_pop_b (h : st[m]? = some (.lst (xs ++ [a, y]))) : Z (popM (.loc m) [] st) Q E = Q y (st.set m (.lst (xs ++ [a]))) := by
  have h' : st[m]? = some (.lst ((xs ++ [a]) ++ [y])) := by simpa using h
  exact Z_pop_a h'
theorem Z_eqE (h : st[m]? = some (.lst [])) : Z (eqM (.loc m) (.lst []) st) Q E = Q (.bl true) st := by
  have e : shal (.loc m) st = .lst [] := by unfold shal; dsimp only; rw [h]
  have e' : shal (.lst []) st = .lst [] := rfl
  rw [Z_eq (by unfold cmpOk; rw [e, e']; exact Bool.or_eq_true_iff.mpr (.inr (by decide +kernel))), e, e']
  rfl
theorem Z_eqC {z : PV} {zs : List PV} (h : st[m]? = some (.lst (z :: zs))) : Z (eqM (.loc m) (.lst []) st) Q E = Q (.bl false) st := by
  have e : shal (.loc m) st = .lst (z :: zs) := by unfold shal; dsimp only; rw [h]
  have e' : shal (.lst []) st = .lst [] := rfl
  by_cases hc : cmpOk (.loc m) (.lst []) st = true
  · rw [Z_eq hc, e, e', show eqb (.lst (z :: zs)) (.lst []) = false from by simp [eqb, eqbs]]
  · unfold eqM
    rw [if_neg hc, if_pos (by unfold lenNe; rw [e, e']; simp)]
    rfl
theorem Z_eqL (h : st[m]? = some (.lst xs)) : Z (eqM (.loc m) (.lst []) st) Q E = Q (.bl xs.isEmpty) st := by
  cases xs with
  | nil => rw [Z_eqE h]; rfl
  | cons z zs => rw [Z_eqC h]; rfl
theorem Z_of {α : Type} {r : Res α} {v : α} {s : Sto} {P : α → Sto → Prop} {X : Exn → Sto → Prop} (h : r = .ok v s) : Z r P X = P v s := by rw [h]; rfl
end
section
variable {n : Nat} {st : Sto} {Q : PV → Sto → Prop} {E : Exn → Sto → Prop}
def tk (i : Int) : Int := (i + 32768) % 65536 - 32768
abbrev stepsP (num : Int) : List PV := [.tup [.str [108, 111, 97, 100], .str [110, 48], .int 0], .tup [.str [98, 114, 97, 110, 99, 104], .str [110, 48], .int 4], .tup [.str [108, 111, 97, 100], .str [114, 48], .int 1], .tup [.str [103, 105, 118, 101], .tup [.int num, .str [114, 48]]],
  .tup [.str [115, 117, 98], .str [110, 49], .tup [.str [110, 48], .int 1]], .tup [.str [115, 116, 111, 114, 101], .int 0, .str [110, 49]], .tup [.str [99, 97, 108, 108], .int 0, .tup [.tup [.str [110], .int 0], .tup [.str [114], .int 1]], .tup [.tup [.str [110], .int 2], .tup [.str [114], .int 3]]],
  .tup [.str [108, 111, 97, 100], .str [110, 50], .int 2], .tup [.str [97, 100, 100], .str [110, 50], .tup [.str [110, 50], .int 1]], .tup [.str [103, 105, 118, 101], .tup [.str [110, 50], .tup [.str [114], .int 3]]]]
abbrev funP (num : Int) : PV := .tup [.str [100, 101, 101, 112], .str [110, 114], .str [110, 114], .int 4, .tup (stepsP num)]
abbrev codeP (num : Int) : PV := .tup [funP num]
theorem steps_spec {num : Int} {st : Sto} (h : ∀ ys, Q (.tup (stepsP num)) (st ++ ys)) : Z (F__law_steps n [.int num] st) Q E := by
  rw [z__law_steps]; unfold b__law_steps
  simp [gk0, sk0, MP.listOf]
  exact h _
abbrev EI (p : Nat) (code : PV) (left base at_ : Int) : Cell := .ins "Engine" [("code", code), ("boxes", .loc (p + 1)), ("left", .int left), ("waiting", .loc (p + 2)), ("memory", .loc (p + 3)), ("base", .int base), ("now", .int 0), ("at", .int at_)]
def ES (st : Sto) (code : PV) (left base at_ : Int) (D : List (PV × PV)) (W M : List PV) : Sto := st ++ [EI st.length code left base at_, .dct D, .lst W, .lst M]
theorem look_put {D : List (PV × PV)} {k v : PV} : lookP (putP D k v) k = some v := by
  unfold putP
  induction D with
  | nil => simp [lookP]
  | cons p D ih =>
    by_cases hp : p.1 = k
    · simp [hp, lookP]
    · by_cases ha : (D.any fun kv => decide (kv.1 = k)) = true
      · rw [if_pos ha] at ih
        have : ((p :: D).any fun kv => decide (kv.1 = k)) = true := by simp only [List.any_cons, ha, Bool.or_true]
        rw [if_pos this]
        simp only [List.map_cons, hp, if_false, lookP]
        exact ih
      · rw [if_neg ha] at ih
        have : ¬ ((p :: D).any fun kv => decide (kv.1 = k)) = true := by simp only [List.any_cons, ha, hp, decide_false, Bool.or_false, Bool.false_eq_true, not_false_eq_true]
        rw [if_neg this]
        simp only [List.cons_append, lookP, hp, if_false]
        exact ih
theorem put_len {D : List (PV × PV)} {k v : PV} : (putP D k v).length ≤ D.length + 1 := by
  unfold putP; split <;> simp
theorem look_ne {D : List (PV × PV)} {k k' v : PV} (h : k' ≠ k) : lookP (putP D k v) k' = lookP D k' := by
  unfold putP
  induction D with
  | nil => simp [lookP, Ne.symm h]
  | cons p D ih =>
    by_cases ha : ((p :: D).any fun kv => decide (kv.1 = k)) = true
    · rw [if_pos ha]
      simp only [List.map_cons]
      by_cases hp : p.1 = k
      · have hk : ¬ p.1 = k' := fun e => h (by rw [← e, hp])
        rw [if_pos hp]
        simp only [lookP, hk, if_false]
        by_cases hb : (D.any fun kv => decide (kv.1 = k)) = true
        · rw [if_pos hb] at ih; exact ih
        · have : D.map (fun kv => if kv.1 = k then (kv.1, v) else kv) = D := by
            refine (List.map_congr_left fun q hq => ?_).trans (List.map_id _)
            have : ¬ q.1 = k := fun e => hb (List.any_eq_true.mpr ⟨q, hq, by simp [e]⟩)
            simp [this]
          rw [this]
      · rw [if_neg hp]
        have hb : (D.any fun kv => decide (kv.1 = k)) = true := by simpa only [List.any_cons, hp, decide_false, Bool.false_or] using ha
        rw [if_pos hb] at ih
        simp only [lookP, ih]
    · rw [if_neg ha]
      have hb : ¬ (D.any fun kv => decide (kv.1 = k)) = true := fun e => ha (by simp only [List.any_cons, e, Bool.or_true])
      rw [if_neg hb] at ih
      simp only [List.cons_append, lookP, ih]
section
variable {left base at_ : Int} {code : PV} {D D' : List (PV × PV)} {W W' M M' : List PV} {ρ : Rho} {QF : Fl → Sto → Prop} {QR : Rho → Sto → Prop} {i : Int} {mf : List PV → MP.M PV} {ma : ML1}
theorem aC : Z (attrM ["Engine"] "code" (.loc st.length) (ES st code left base at_ D W M)) Q E = Q code (ES st code left base at_ D W M) := by unfold ES; exact Z_attr gk0 (by simp) rfl
theorem aB : Z (attrM ["Engine"] "boxes" (.loc st.length) (ES st code left base at_ D W M)) Q E = Q (.loc (st.length + 1)) (ES st code left base at_ D W M) := by unfold ES; exact Z_attr gk0 (by simp) rfl
theorem aL : Z (attrM ["Engine"] "left" (.loc st.length) (ES st code left base at_ D W M)) Q E = Q (.int left) (ES st code left base at_ D W M) := by unfold ES; exact Z_attr gk0 (by simp) rfl
theorem aW : Z (attrM ["Engine"] "waiting" (.loc st.length) (ES st code left base at_ D W M)) Q E = Q (.loc (st.length + 2)) (ES st code left base at_ D W M) := by unfold ES; exact Z_attr gk0 (by simp) rfl
theorem aM : Z (attrM ["Engine"] "memory" (.loc st.length) (ES st code left base at_ D W M)) Q E = Q (.loc (st.length + 3)) (ES st code left base at_ D W M) := by unfold ES; exact Z_attr gk0 (by simp) rfl
theorem aS : Z (attrM ["Engine"] "base" (.loc st.length) (ES st code left base at_ D W M)) Q E = Q (.int base) (ES st code left base at_ D W M) := by unfold ES; exact Z_attr gk0 (by simp) rfl
theorem aN : Z (attrM ["Engine"] "now" (.loc st.length) (ES st code left base at_ D W M)) Q E = Q (.int 0) (ES st code left base at_ D W M) := by unfold ES; exact Z_attr gk0 (by simp) rfl
theorem aA : Z (attrM ["Engine"] "at" (.loc st.length) (ES st code left base at_ D W M)) Q E = Q (.int at_) (ES st code left base at_ D W M) := by unfold ES; exact Z_attr gk0 (by simp) rfl
theorem wL : kSA2 ["Engine"] "left" (.int i) ρ QF (.loc st.length) (ES st code left base at_ D W M) = QF (.next ρ) (ES st code i base at_ D W M) := by unfold ES; rw [kSA2_at gk0 (by simp) (by simp), sk0]; rfl
theorem wLg : kGA2 ["Engine"] "left" (.int i) ρ QR E (.loc st.length) (ES st code left base at_ D W M) = QR ρ (ES st code i base at_ D W M) := by unfold ES; rw [kGA2_at gk0 (by simp) (by simp), sk0]; rfl
theorem wS : kSA2 ["Engine"] "base" (.int i) ρ QF (.loc st.length) (ES st code left base at_ D W M) = QF (.next ρ) (ES st code left i at_ D W M) := by unfold ES; rw [kSA2_at gk0 (by simp) (by simp), sk0]; rfl
theorem wSg : kGA2 ["Engine"] "base" (.int i) ρ QR E (.loc st.length) (ES st code left base at_ D W M) = QR ρ (ES st code left i at_ D W M) := by unfold ES; rw [kGA2_at gk0 (by simp) (by simp), sk0]; rfl
theorem wA : kSA2 ["Engine"] "at" (.int i) ρ QF (.loc st.length) (ES st code left base at_ D W M) = QF (.next ρ) (ES st code left base i D W M) := by unfold ES; rw [kSA2_at gk0 (by simp) (by simp), sk0]; rfl
theorem wAg : kGA2 ["Engine"] "at" (.int i) ρ QR E (.loc st.length) (ES st code left base at_ D W M) = QR ρ (ES st code left base i D W M) := by unfold ES; rw [kGA2_at gk0 (by simp) (by simp), sk0]; rfl
theorem wN : kSA2 ["Engine"] "now" (.int 0) ρ QF (.loc st.length) (ES st code left base at_ D W M) = QF (.next ρ) (ES st code left base at_ D W M) := by unfold ES; rw [kSA2_at gk0 (by simp) (by simp), sk0]; rfl
theorem wNg : kGA2 ["Engine"] "now" (.int 0) ρ QR E (.loc st.length) (ES st code left base at_ D W M) = QR ρ (ES st code left base at_ D W M) := by unfold ES; rw [kGA2_at gk0 (by simp) (by simp), sk0]; rfl
theorem cD : (ES st code left base at_ D W M)[st.length + 1]? = some (.dct D) := gk1
theorem cW : (ES st code left base at_ D W M)[st.length + 2]? = some (.lst W) := gk2
theorem cM : (ES st code left base at_ D W M)[st.length + 3]? = some (.lst M) := gk3
theorem sD : (ES st code left base at_ D W M).set (st.length + 1) (.dct D') = ES st code left base at_ D' W M := sk1
theorem sW : (ES st code left base at_ D W M).set (st.length + 2) (.lst W') = ES st code left base at_ D W' M := sk2
theorem sM : (ES st code left base at_ D W M).set (st.length + 3) (.lst M') = ES st code left base at_ D W M' := sk3
theorem m_begin : kMt1 "Engine" "begin" mf ma ρ Q E (.loc st.length) (ES st code left base at_ D W M) = Z (ma ρ (ES st code left base at_ D W M)) (kMt3 mf (.loc st.length) Q E) E := by unfold ES; exact kMt1_at gk0 rfl
theorem m_value : kMt1 "Engine" "value" mf ma ρ Q E (.loc st.length) (ES st code left base at_ D W M) = Z (ma ρ (ES st code left base at_ D W M)) (kMt3 mf (.loc st.length) Q E) E := by unfold ES; exact kMt1_at gk0 rfl
theorem m_call : kMt1 "Engine" "call" mf ma ρ Q E (.loc st.length) (ES st code left base at_ D W M) = Z (ma ρ (ES st code left base at_ D W M)) (kMt3 mf (.loc st.length) Q E) E := by unfold ES; exact kMt1_at gk0 rfl
theorem m_give : kMt1 "Engine" "give" mf ma ρ Q E (.loc st.length) (ES st code left base at_ D W M) = Z (ma ρ (ES st code left base at_ D W M)) (kMt3 mf (.loc st.length) Q E) E := by unfold ES; exact kMt1_at gk0 rfl
theorem m_lay_in : kMt1 "Engine" "lay_in" mf ma ρ Q E (.loc st.length) (ES st code left base at_ D W M) = Z (ma ρ (ES st code left base at_ D W M)) (kMt3 mf (.loc st.length) Q E) E := by unfold ES; exact kMt1_at gk0 rfl
theorem m_go_on : kMt1 "Engine" "go_on" mf ma ρ Q E (.loc st.length) (ES st code left base at_ D W M) = Z (ma ρ (ES st code left base at_ D W M)) (kMt3 mf (.loc st.length) Q E) E := by unfold ES; exact kMt1_at gk0 rfl
end
variable {num left : Int} {D : List (PV × PV)} {W F : List PV} {x0 x1 x2 x3 : PV}
theorem f0 : L2.atI (F ++ [x0, x1, x2, x3]) (F.length : Int) = some x0 := by
  rw [atI_of (by omega) (by simp; omega)]; simp
theorem f1 : L2.atI (F ++ [x0, x1, x2, x3]) ((F.length : Int) + 1) = some x1 := by
  rw [atI_of (by omega) (by simp)]; simp [show ((F.length : Int) + 1).toNat = F.length + 1 by omega]
theorem f2 : L2.atI (F ++ [x0, x1, x2, x3]) ((F.length : Int) + 2) = some x2 := by
  rw [atI_of (by omega) (by simp)]; simp [show ((F.length : Int) + 2).toNat = F.length + 2 by omega]
theorem f3 : L2.atI (F ++ [x0, x1, x2, x3]) ((F.length : Int) + 3) = some x3 := by
  rw [atI_of (by omega) (by simp)]; simp [show ((F.length : Int) + 3).toNat = F.length + 3 by omega]
theorem set0 {v : PV} {s : Sto} {q : Nat} {QU : Unit → Sto → Prop} (h : s[q]? = some (.lst (F ++ [x0, x1, x2, x3]))) : Z (setM (.loc q) (.int (F.length : Int)) v s) QU E = QU () (s.set q (.lst (F ++ [v, x1, x2, x3]))) := by
  rw [Z_setL h (ixN_of (by omega) (by simp; omega))]; simp
theorem set2 {v : PV} {s : Sto} {q : Nat} {QU : Unit → Sto → Prop} (h : s[q]? = some (.lst (F ++ [x0, x1, x2, x3]))) : Z (setM (.loc q) (.int ((F.length : Int) + 2)) v s) QU E = QU () (s.set q (.lst (F ++ [x0, x1, v, x3]))) := by
  rw [Z_setL h (ixN_of (by omega) (by simp))]; simp [show ((F.length : Int) + 2).toNat = F.length + 2 by omega]
theorem set3 {v : PV} {s : Sto} {q : Nat} {QU : Unit → Sto → Prop} (h : s[q]? = some (.lst (F ++ [x0, x1, x2, x3]))) : Z (setM (.loc q) (.int ((F.length : Int) + 3)) v s) QU E = QU () (s.set q (.lst (F ++ [x0, x1, x2, v]))) := by
  rw [Z_setL h (ixN_of (by omega) (by simp))]; simp [show ((F.length : Int) + 3).toNat = F.length + 3 by omega]
abbrev n0 : PV := .str [110, 48]
abbrev n1 : PV := .str [110, 49]
abbrev n2 : PV := .str [110, 50]
abbrev r0 : PV := .str [114, 48]
theorem st8 : L2.atI (stepsP num) 8 = some (.tup [.str [97, 100, 100], .str [110, 50], .tup [.str [110, 50], .int 1]]) := rfl
theorem st9 : L2.atI (stepsP num) 9 = some (.tup [.str [103, 105, 118, 101], .tup [.str [110, 50], .tup [.str [114], .int 3]]]) := rfl
abbrev GO (n : Nat) (st : Sto) (num left : Int) (at_ : Int) (D : List (PV × PV)) (W F : List PV) (x0 x1 x2 x3 : PV) (Q : PV → Sto → Prop) (E : Exn → Sto → Prop) : Prop := Z (F_Engine__go_on n [.loc st.length] (ES st (codeP num) left F.length at_ D W (F ++ [x0, x1, x2, x3]))) Q E
theorem go0 (hD : D.length < 1000000) : GO n st num left 0 D W F x0 x1 x2 x3 Q E = Q .non (ES st (codeP num) left F.length 1 (putP D n0 x0) W (F ++ [x0, x1, x2, x3])) := by
  have hD2 : D.length < 16777216 := by omega
  unfold GO
  rw [z_Engine__go_on]; unfold b_Engine__go_on
  simp [aC, aB, aL, aW, aM, aS, aN, aA, wL, wS, wA, wN, cD, cW, cM, sD, sW, sM, m_value, m_lay_in, m_call, m_give, m_begin, z_Engine__lay_in, b_Engine__lay_in, hD2, f0]
theorem go1 {c : Int} (h : lookP D n0 = some (.int c)) : GO n st num left 1 D W F x0 x1 x2 x3 Q E = Q .non (ES st (codeP num) left F.length (if c = 0 then 2 else 4) D W (F ++ [x0, x1, x2, x3])) := by
  unfold GO
  rw [z_Engine__go_on]; unfold b_Engine__go_on
  by_cases hc : c = 0 <;> simp [aC, aB, aL, aW, aM, aS, aN, aA, wL, wS, wA, wN, cD, cW, cM, sD, sW, sM, m_value, m_lay_in, m_call, m_give, m_begin, z_Engine__value, b_Engine__value, h, hc]
theorem go2 (hD : D.length < 1000000) : GO n st num left 2 D W F x0 x1 x2 x3 Q E = Q .non (ES st (codeP num) left F.length 3 (putP D r0 x1) W (F ++ [x0, x1, x2, x3])) := by
  have hD2 : D.length < 16777216 := by omega
  unfold GO
  rw [z_Engine__go_on]; unfold b_Engine__go_on
  simp [aC, aB, aL, aW, aM, aS, aN, aA, wL, wS, wA, wN, cD, cW, cM, sD, sW, sM, m_value, m_lay_in, m_call, m_give, m_begin, z_Engine__lay_in, b_Engine__lay_in, hD2, f1]
theorem go5 {v : PV} (h : lookP D n1 = some v) : GO n st num left 5 D W F x0 x1 x2 x3 Q E = Q .non (ES st (codeP num) left F.length 6 D W (F ++ [v, x1, x2, x3])) := by
  unfold GO
  rw [z_Engine__go_on]; unfold b_Engine__go_on
  simp [aC, aB, aL, aW, aM, aS, aN, aA, wL, wS, wA, wN, cD, cW, cM, sD, sW, sM, m_value, m_lay_in, m_call, m_give, m_begin, z_Engine__lay_in, b_Engine__lay_in, h, set0 cM]
theorem go7 (hD : D.length < 1000000) : GO n st num left 7 D W F x0 x1 x2 x3 Q E = Q .non (ES st (codeP num) left F.length 8 (putP D n2 x2) W (F ++ [x0, x1, x2, x3])) := by
  have hD2 : D.length < 16777216 := by omega
  unfold GO
  rw [z_Engine__go_on]; unfold b_Engine__go_on
  simp [aC, aB, aL, aW, aM, aS, aN, aA, wL, wS, wA, wN, cD, cW, cM, sD, sW, sM, m_value, m_lay_in, m_call, m_give, m_begin, z_Engine__lay_in, b_Engine__lay_in, hD2, f2]
theorem tk_spec {i : Int} : Z (F_taken_in n [.int i] st) Q E = Q (.int (tk i)) st := by
  rw [z_taken_in]; unfold b_taken_in
  have e : (i + 32768).fmod 65536 + -32768 = tk i := by
    rw [Int.fmod_eq_emod_of_nonneg _ (by omega)]; unfold tk; omega
  simp [e]
theorem done_sub {a b : Int} : Z (F_done n [.str [115, 117, 98], .tup [.int a, .int b]] st) Q E = Q (.int (tk (a - b))) st := by
  rw [z_done]; unfold b_done
  simp [Z_inT, flatP, eqb, z_done_sum, b_done_sum, tk_spec]
theorem done_add {a b : Int} : Z (F_done n [.str [97, 100, 100], .tup [.int a, .int b]] st) Q E = Q (.int (tk (a + b))) st := by
  rw [z_done]; unfold b_done
  simp [Z_inT, flatP, eqb, z_done_sum, b_done_sum, tk_spec]
theorem go4 {c : Int} (h : lookP D n0 = some (.int c)) (hD : D.length < 1000000) : GO n st num left 4 D W F x0 x1 x2 x3 Q E = Q .non (ES st (codeP num) left F.length 5 (putP D n1 (.int (tk (c - 1)))) W (F ++ [x0, x1, x2, x3])) := by
  have hD2 : D.length < 16777216 := by omega
  unfold GO
  rw [z_Engine__go_on]; unfold b_Engine__go_on
  simp [aC, aB, aL, aW, aM, aS, aN, aA, wL, wS, wA, wN, cD, cW, cM, sD, sW, sM, m_value, m_lay_in, m_call, m_give, m_begin, z_Engine__lay_in, b_Engine__lay_in, hD2, lc_cons, lc_nil, z_Engine__value, b_Engine__value, h, done_sub]
theorem go8 {c : Int} (h : lookP D n2 = some (.int c)) (hD : D.length < 1000000) : GO n st num left 8 D W F x0 x1 x2 x3 Q E = Q .non (ES st (codeP num) left F.length 9 (putP D n2 (.int (tk (c + 1)))) W (F ++ [x0, x1, x2, x3])) := by
  have hD2 : D.length < 16777216 := by omega
  unfold GO
  rw [z_Engine__go_on]; unfold b_Engine__go_on
  simp [aC, aB, aL, aW, aM, aS, aN, aA, wL, wS, wA, wN, cD, cW, cM, sD, sW, sM, m_value, m_lay_in, m_call, m_give, m_begin, z_Engine__lay_in, b_Engine__lay_in, hD2, lc_cons, lc_nil, z_Engine__value, b_Engine__value, h, done_add, st8]
abbrev cellsP : PV := .tup [.tup [.str [110], .int 2], .tup [.str [114], .int 3]]
abbrev frm (b : Int) : PV := .tup [.int 0, .int 7, .int b, cellsP]
theorem go6d : GO n st num 0 6 D W F x0 x1 x2 x3 Q E = Q (.tup [.str [100, 114, 121]]) (ES st (codeP num) 0 F.length 7 D W (F ++ [x0, x1, x2, x3])) := by
  unfold GO
  rw [z_Engine__go_on]; unfold b_Engine__go_on
  simp [aC, aB, aL, aW, aM, aS, aN, aA, wL, wS, wA, wN, cD, cW, cM, sD, sW, sM, m_value, m_lay_in, m_call, m_give, m_begin, z_Engine__call, b_Engine__call]
theorem go6 (hl : left ≠ 0) (hW : W.length < 1000000) (hF : F.length < 1000000) : GO n st num left 6 D W F x0 x1 x2 x3 Q E = Q .non (ES st (codeP num) (left - 1) (F.length + 4 : Nat) 0 D (W ++ [frm F.length]) ((F ++ [x0, x1, x2, x3]) ++ [x0, x1, .int 0, .int 0])) := by
  have hW2 : W.length < 16777216 := by omega
  have hF2 : F.length + 8 ≤ 16777216 := by omega
  unfold GO
  rw [z_Engine__go_on]; unfold b_Engine__go_on
  simp [aC, aB, aL, aW, aM, aS, aN, aA, wL, wS, wA, wN, cD, cW, cM, sD, sW, sM, m_value, m_lay_in, m_call, m_give, m_begin, z_Engine__call, b_Engine__call, hl, lc_cons, lc_nil, z_Engine__value, b_Engine__value, f0, f1, hW2, z_Engine__begin, b_Engine__begin]
  rw [Z_extend cM rfl (by simp; omega)]
  simp [aC, aB, aL, aW, aM, aS, aN, aA, wL, wS, wA, wN, cD, cW, cM, sD, sW, sM, m_value, m_lay_in, m_call, m_give, m_begin]
theorem go3b (h : lookP D r0 = some x1) : GO n st num left 3 D [] F x0 x1 x2 x3 Q E = Q (.tup [.str [98, 97, 99, 107], .tup [.int num, x1]]) (ES st (codeP num) left F.length 4 D [] (F ++ [x0, x1, x2, x3])) := by
  unfold GO
  rw [z_Engine__go_on]; unfold b_Engine__go_on
  simp [aC, aB, aL, aW, aM, aS, aN, aA, wL, wS, wA, wN, cD, cW, cM, sD, sW, sM, m_value, m_lay_in, m_call, m_give, m_begin, z_Engine__give, b_Engine__give, lc_cons, lc_nil, z_Engine__value, b_Engine__value, h, Z_eqL cW]
theorem go9b {v : PV} (h : lookP D n2 = some v) : GO n st num left 9 D [] F x0 x1 x2 x3 Q E = Q (.tup [.str [98, 97, 99, 107], .tup [v, x3]]) (ES st (codeP num) left F.length 10 D [] (F ++ [x0, x1, x2, x3])) := by
  unfold GO
  rw [z_Engine__go_on]; unfold b_Engine__go_on
  simp [aC, aB, aL, aW, aM, aS, aN, aA, wL, wS, wA, wN, cD, cW, cM, sD, sW, sM, m_value, m_lay_in, m_call, m_give, m_begin, z_Engine__give, b_Engine__give, lc_cons, lc_nil, z_Engine__value, b_Engine__value, h, f3, Z_eqL cW, st9]
end
section
variable {n m : Nat} {st : Sto} {Q : PV → Sto → Prop} {E : Exn → Sto → Prop} {num left : Int} {D : List (PV × PV)} {V W F : List PV} {x0 x1 x2 x3 a b c d : PV}
theorem pops {QF : Fl → Sto → Prop} {X : Exn → Sto → Prop} {at_ : Int} {y1 y2 y3 y4 y5 y6 : Option PV} :
    Z (whileF (eB (eBin gtI (eCall lenM (aCons (eUn (attrM ["Engine"] "memory") (eVar 0)) aNil)) (eUn (attrM ["Engine"] "base") (eVar 0)))) (L0_Engine__give n) (m + 5) [some (.loc st.length), y1, y2, y3, y4, y5, y6] (ES st (codeP num) left F.length at_ D W (F ++ [x0, x1, x2, x3]))) QF X =
      QF (.next [some (.loc st.length), y1, y2, y3, y4, y5, y6]) (ES st (codeP num) left F.length at_ D W F) := by
  have p3 : ∀ s : Sto, ∀ q : Nat, ∀ (l : List PV) (y : PV) (Q : PV → Sto → Prop) (E : Exn → Sto → Prop), s[q]? = some (.lst (l ++ [y])) → Z (popM (.loc q) [] s) Q E = Q y (s.set q (.lst l)) := fun s q l y Q E h => Z_pop_a h
  have h4 : (F.length : Int) < F.length + 4 := by omega
  have h3 : (F.length : Int) < F.length + 3 := by omega
  have h2 : (F.length : Int) < F.length + 2 := by omega
  have h1 : (F.length : Int) < F.length + 1 := by omega
  have c4 : (ES st (codeP num) left F.length at_ D W (F ++ [x0, x1, x2, x3]))[st.length + 3]? = some (.lst ((F ++ [x0, x1, x2]) ++ [x3])) := by rw [cM]; simp
  have c3 : (ES st (codeP num) left F.length at_ D W (F ++ [x0, x1, x2]))[st.length + 3]? = some (.lst ((F ++ [x0, x1]) ++ [x2])) := by rw [cM]; simp
  have c2 : (ES st (codeP num) left F.length at_ D W (F ++ [x0, x1]))[st.length + 3]? = some (.lst ((F ++ [x0]) ++ [x1])) := by rw [cM]; simp
  have c1 : (ES st (codeP num) left F.length at_ D W (F ++ [x0]))[st.length + 3]? = some (.lst (F ++ [x0])) := cM
  rw [Z_while]
  simp [aM, aS, cM, kWh, h4, zL0_Engine__give]
  rw [p3 _ _ _ _ _ _ c4]
  simp [sM]
  rw [Z_while]
  simp [aM, aS, cM, kWh, h3, zL0_Engine__give]
  rw [p3 _ _ _ _ _ _ c3]
  simp [sM]
  rw [Z_while]
  simp [aM, aS, cM, kWh, h2, zL0_Engine__give]
  rw [p3 _ _ _ _ _ _ c2]
  simp [sM]
  rw [Z_while]
  simp [aM, aS, cM, kWh, h1, zL0_Engine__give]
  rw [p3 _ _ _ _ _ _ c1]
  simp [sM]
  rw [Z_while]
  simp [aM, aS, cM, kWh]
theorem pops2 {QF : Fl → Sto → Prop} {X : Exn → Sto → Prop} {at_ : Int} {y1 y2 y3 y4 y5 y6 : Option PV} :
    Z (whileF (eB (eBin gtI (eCall lenM (aCons (eUn (attrM ["Engine"] "memory") (eVar 0)) aNil)) (eUn (attrM ["Engine"] "base") (eVar 0)))) (L0_Engine__give n) (m + 5) [some (.loc st.length), y1, y2, y3, y4, y5, y6] (ES st (codeP num) left ((F.length : Int) + 4) at_ D W (F ++ [a, b, c, d, x0, x1, x2, x3]))) QF X =
      QF (.next [some (.loc st.length), y1, y2, y3, y4, y5, y6]) (ES st (codeP num) left ((F.length : Int) + 4) at_ D W (F ++ [a, b, c, d])) := by
  have := pops (n := n) (m := m) (st := st) (num := num) (left := left) (D := D) (W := W) (F := F ++ [a, b, c, d]) (x0 := x0) (x1 := x1) (x2 := x2) (x3 := x3) (QF := QF) (X := X) (at_ := at_) (y1 := y1) (y2 := y2) (y3 := y3) (y4 := y4) (y5 := y5) (y6 := y6)
  simpa using this
theorem give3 (h : lookP D r0 = some x1) : GO (m + 5) st num left 3 D (V ++ [frm F.length]) (F ++ [a, b, c, d]) x0 x1 x2 x3 Q E = Q .non (ES st (codeP num) left F.length 7 D V (F ++ [a, b, .int num, x1])) := by
  have hw : (V ++ [frm F.length]).isEmpty = false := by simp
  unfold GO
  rw [z_Engine__go_on]; unfold b_Engine__go_on
  simp [aC, aB, aL, aW, aM, aS, aN, aA, wL, wS, wA, wN, wLg, wSg, wAg, wNg, cD, cW, cM, sD, sW, sM, m_value, m_give, z_Engine__give, b_Engine__give, lc_cons, lc_nil, z_Engine__value, b_Engine__value, h, Z_eqL cW]
  rw [hw]
  simp
  rw [pops2]
  simp [aC, aB, aL, aW, aM, aS, aN, aA, wL, wS, wA, wN, wLg, wSg, wAg, wNg, cD, cW, cM, sD, sW, sM, m_value, m_give, Z_pop_a cW]
  simp [aC, aB, aL, aW, aM, aS, aN, aA, wL, wS, wA, wN, wLg, wSg, wAg, wNg, cD, cW, cM, sD, sW, sM, m_value, m_give, Z_forL, Z_forL_nil, zipP, zL1_Engine__give, set2 cM, set3 cM]
theorem give9 {v : PV} (h : lookP D n2 = some v) : GO (m + 5) st num left 9 D (V ++ [frm F.length]) (F ++ [a, b, c, d]) x0 x1 x2 x3 Q E = Q .non (ES st (codeP num) left F.length 7 D V (F ++ [a, b, v, x3])) := by
  have hw : (V ++ [frm F.length]).isEmpty = false := by simp
  have f3' : L2.atI (F ++ [a, b, c, d, x0, x1, x2, x3]) ((F.length : Int) + 4 + 3) = some x3 := by
    have := f3 (F := F ++ [a, b, c, d]) (x0 := x0) (x1 := x1) (x2 := x2) (x3 := x3)
    simpa using this
  unfold GO
  rw [z_Engine__go_on]; unfold b_Engine__go_on
  simp [aC, aB, aL, aW, aM, aS, aN, aA, wL, wS, wA, wN, wLg, wSg, wAg, wNg, cD, cW, cM, sD, sW, sM, m_value, m_give, z_Engine__give, b_Engine__give, lc_cons, lc_nil, z_Engine__value, b_Engine__value, h, Z_eqL cW, st9, f3']
  rw [hw]
  simp
  rw [pops2]
  simp [aC, aB, aL, aW, aM, aS, aN, aA, wL, wS, wA, wN, wLg, wSg, wAg, wNg, cD, cW, cM, sD, sW, sM, m_value, m_give, Z_pop_a cW]
  simp [aC, aB, aL, aW, aM, aS, aN, aA, wL, wS, wA, wN, wLg, wSg, wAg, wNg, cD, cW, cM, sD, sW, sM, m_value, m_give, Z_forL, Z_forL_nil, zipP, zL1_Engine__give, set2 cM, set3 cM]
end
section
variable {n : Nat} {st : Sto} {Q : PV → Sto → Prop} {E : Exn → Sto → Prop} {num : Int} {QF : Fl → Sto → Prop} {X : Exn → Sto → Prop} {y0 y1 y2 y3 : Option PV} {row : PV}
abbrev tW : Rho → M Bool := eB (eBin isN (eVar 5) (eC .non))
abbrev RUN (n : Nat) (st : Sto) (k : Nat) (y0 y1 y2 y3 : Option PV) (QF : Fl → Sto → Prop) (X : Exn → Sto → Prop) (s : Sto) : Prop := Z (whileF tW (L0_run_code n) k [y0, y1, y2, y3, some (.loc st.length), some .non] s) QF X
theorem run_step {k : Nat} {left at_ : Int} {D : List (PV × PV)} {W F : List PV} {x0 x1 x2 x3 : PV} {s' : Sto}
    (h : ∀ (Q : PV → Sto → Prop) (E : Exn → Sto → Prop), GO n st num left at_ D W F x0 x1 x2 x3 Q E = Q .non s') (hr : RUN n st k y0 y1 y2 y3 QF X s') : RUN n st (k + 1) y0 y1 y2 y3 QF X (ES st (codeP num) left F.length at_ D W (F ++ [x0, x1, x2, x3])) := by
  unfold RUN
  rw [Z_while]
  simp [kWh, nonP, zL0_run_code, m_go_on]
  have := h (Q := kSet 5 [y0, y1, y2, y3, some (.loc st.length), some .non] (turnQ (whileF tW (L0_run_code n) k) QF X)) (E := kX [y0, y1, y2, y3, some (.loc st.length), some .non] (turnQ (whileF tW (L0_run_code n) k) QF X))
  unfold GO at this
  rw [this]
  simpa using hr
theorem run_end {k : Nat} {left at_ : Int} {D : List (PV × PV)} {W F : List PV} {x0 x1 x2 x3 : PV} {s' : Sto} {v : List PV}
    (h : ∀ (Q : PV → Sto → Prop) (E : Exn → Sto → Prop), GO n st num left at_ D W F x0 x1 x2 x3 Q E = Q (.tup v) s') (hr : QF (.next [y0, y1, y2, y3, some (.loc st.length), some (.tup v)]) s') : RUN n st (k + 2) y0 y1 y2 y3 QF X (ES st (codeP num) left F.length at_ D W (F ++ [x0, x1, x2, x3])) := by
  unfold RUN
  rw [Z_while]
  simp [kWh, nonP, zL0_run_code, m_go_on]
  have := h (Q := kSet 5 [y0, y1, y2, y3, some (.loc st.length), some .non] (turnQ (whileF tW (L0_run_code n) (k + 1)) QF X)) (E := kX [y0, y1, y2, y3, some (.loc st.length), some .non] (turnQ (whileF tW (L0_run_code n) (k + 1)) QF X))
  unfold GO at this
  rw [this]
  simp
  rw [Z_while]
  simp [kWh, nonP]
  exact hr
def val (num : Int) : Nat → Int
  | 0 => num
  | c + 1 => tk (val num c + 1)
theorem tk_small {i : Int} (h0 : -32768 ≤ i) (h1 : i < 32768) : tk i = i := by unfold tk; omega
theorem down {k c : Nat} {left : Int} {D : List (PV × PV)} {W F : List PV} {x2 x3 : PV} (hc : c + 1 < 32768) (hl : left ≠ 0) (hD : D.length < 900000) (hW : W.length < 900000) (hF : F.length < 900000)
    (h : ∀ D', D'.length ≤ D.length + 2 → RUN n st k y0 y1 y2 y3 QF X (ES st (codeP num) (left - 1) (F ++ [.int c, row, x2, x3]).length 0 D' (W ++ [frm F.length]) ((F ++ [.int c, row, x2, x3]) ++ [.int c, row, .int 0, .int 0]))) :
    RUN n st (k + 5) y0 y1 y2 y3 QF X (ES st (codeP num) left F.length 0 D W (F ++ [.int ((c + 1 : Nat) : Int), row, x2, x3])) := by
  have e1 : tk (((c + 1 : Nat) : Int) - 1) = (c : Int) := by rw [tk_small (by omega) (by omega)]; omega
  have l1 := put_len (D := D) (k := n0) (v := .int ((c + 1 : Nat) : Int))
  have l2 := put_len (D := putP D n0 (.int ((c + 1 : Nat) : Int))) (k := n1) (v := .int (tk (((c + 1 : Nat) : Int) - 1)))
  refine run_step (fun Q E => go0 (by omega)) ?_
  refine run_step (fun Q E => go1 look_put) ?_
  rw [if_neg (by omega)]
  refine run_step (fun Q E => go4 look_put (by omega)) ?_
  refine run_step (fun Q E => go5 look_put) ?_
  refine run_step (fun Q E => go6 hl (by omega) (by omega)) ?_
  rw [e1]
  have := h _ (Nat.le_trans l2 (by omega))
  rw [e1] at this
  simpa using this
theorem callret : ∀ (c k : Nat) (left : Int) (D : List (PV × PV)) (V G : List PV) (a b y z x2 x3 : PV), c < 32768 → (c : Int) ≤ left → D.length + 4 * c < 900000 → V.length + c < 900000 → G.length + 4 * c + 4 < 900000 →
    (∀ D', D'.length ≤ D.length + 4 * c + 4 → RUN (n + 5) st k y0 y1 y2 y3 QF X (ES st (codeP num) (left - c) G.length 7 D' V (G ++ [a, b, .int (val num c), row]))) →
    RUN (n + 5) st (k + 8 * c + 4) y0 y1 y2 y3 QF X (ES st (codeP num) left (G ++ [a, b, y, z]).length 0 D (V ++ [frm G.length]) ((G ++ [a, b, y, z]) ++ [.int (c : Int), row, x2, x3]))
  | 0, k, left, D, V, G, a, b, y, z, x2, x3, hc, hl, hD, hV, hG, h => by
    have l1 := put_len (D := D) (k := n0) (v := .int ((0 : Nat) : Int))
    have l2 := put_len (D := putP D n0 (.int ((0 : Nat) : Int))) (k := r0) (v := row)
    refine run_step (fun Q E => go0 (by omega)) ?_
    refine run_step (fun Q E => go1 look_put) ?_
    rw [if_pos (show ((0 : Nat) : Int) = 0 from rfl)]
    refine run_step (fun Q E => go2 (by omega)) ?_
    refine run_step (fun Q E => give3 look_put) ?_
    have := h _ (Nat.le_trans l2 (by omega))
    simpa [val] using this
  | c + 1, k, left, D, V, G, a, b, y, z, x2, x3, hc, hl, hD, hV, hG, h => by
    rw [show k + 8 * (c + 1) + 4 = (k + 3 + 8 * c + 4) + 5 by omega]
    refine down (by omega) (by omega) (by omega) (by simp; omega) (by simp; omega) fun D1 l1 => ?_
    refine callret c (k + 3) (left - 1) D1 (V ++ [frm G.length]) (G ++ [a, b, y, z]) (.int c) row x2 x3 (.int 0) (.int 0) (by omega) (by omega) (by omega) (by simp; omega) (by simp; omega) fun D2 l2 => ?_
    have p1 := put_len (D := D2) (k := n2) (v := .int (val num c))
    have p2 := put_len (D := putP D2 n2 (.int (val num c))) (k := n2) (v := .int (tk (val num c + 1)))
    refine run_step (fun Q E => go7 (by omega)) ?_
    refine run_step (fun Q E => go8 look_put (by omega)) ?_
    refine run_step (fun Q E => give9 look_put) ?_
    have := h _ (Nat.le_trans p2 (by omega))
    rw [show left - 1 - (c : Int) = left - ((c + 1 : Nat) : Int) by omega]
    simpa [val] using this
theorem top_back : ∀ (c k : Nat) (left : Int), c < 30000 → (c : Int) ≤ left →
    (∀ s, QF (.next [y0, y1, y2, y3, some (.loc st.length), some (.tup [.str [98, 97, 99, 107], .tup [.int (val num c), row]])]) s) →
    RUN (n + 5) st (k + 8 * c + 5) y0 y1 y2 y3 QF X (ES st (codeP num) left ([] : List PV).length 0 [] [] ([] ++ [.int (c : Int), row, .int 0, .int 0]))
  | 0, k, left, hc, hl, h => by
    refine run_step (fun Q E => go0 (by simp)) ?_
    refine run_step (fun Q E => go1 look_put) ?_
    rw [if_pos (show ((0 : Nat) : Int) = 0 from rfl)]
    have l1 := put_len (D := []) (k := n0) (v := .int ((0 : Nat) : Int))
    refine run_step (fun Q E => go2 (Nat.lt_of_le_of_lt l1 (by decide))) ?_
    refine run_end (fun Q E => go3b look_put) ?_
    exact h _
  | c + 1, k, left, hc, hl, h => by
    rw [show k + 8 * (c + 1) + 5 = ((k + 4) + 8 * c + 4) + 5 by omega]
    refine down (by omega) (by omega) (by simp) (by simp) (by simp) fun D1 l1 => ?_
    have hr := callret (n := n) (st := st) (num := num) (QF := QF) (X := X) (y0 := y0) (y1 := y1) (y2 := y2) (y3 := y3) (row := row) c (k + 4) (left - 1) D1 [] [] (.int c) row (.int 0) (.int 0) (.int 0) (.int 0) (by omega) (by omega) (by simp at l1; omega) (by simp; omega) (by simp; omega) fun D2 l2 => by
      have p1 := put_len (D := D2) (k := n2) (v := .int (val num c))
      simp at l1
      refine run_step (fun Q E => go7 (by omega)) ?_
      refine run_step (fun Q E => go8 look_put (by omega)) ?_
      refine run_end (k := k + 0) (fun Q E => go9b look_put) ?_
      exact h _
    simpa using hr
theorem top_dry : ∀ (l c k : Nat) (D : List (PV × PV)) (W F : List PV) (x2 x3 : PV), l < c → c < 30000 → D.length + 4 * l < 800000 → W.length + l < 800000 → F.length + 4 * l < 800000 →
    (∀ s, QF (.next [y0, y1, y2, y3, some (.loc st.length), some (.tup [.str [100, 114, 121]])]) s) →
    RUN n st (k + 5 * l + 6) y0 y1 y2 y3 QF X (ES st (codeP num) l F.length 0 D W (F ++ [.int (c : Int), row, x2, x3]))
  | 0, c, k, D, W, F, x2, x3, hl, hc, hD, hW, hF, h => by
    have l1 := put_len (D := D) (k := n0) (v := .int (c : Int))
    refine run_step (fun Q E => go0 (by omega)) ?_
    refine run_step (fun Q E => go1 look_put) ?_
    rw [if_neg (by omega)]
    refine run_step (fun Q E => go4 look_put (by omega)) ?_
    refine run_step (fun Q E => go5 look_put) ?_
    exact run_end (fun Q E => go6d) (h _)
  | l + 1, c, k, D, W, F, x2, x3, hl, hc, hD, hW, hF, h => by
    obtain ⟨c, rfl⟩ : ∃ j, c = j + 1 := ⟨c - 1, by omega⟩
    rw [show k + 5 * (l + 1) + 6 = (k + 5 * l + 6) + 5 by omega]
    refine down (by omega) (by omega) (by omega) (by omega) (by omega) fun D1 l1 => ?_
    rw [show ((l + 1 : Nat) : Int) - 1 = (l : Int) by omega]
    exact top_dry l c k D1 _ _ _ _ (by omega) (by omega) (by omega) (by simp; omega) (by simp; omega) h
theorem init_spec {c : Int} {row : List PV} {left : Int} (h : Q .non (ES st (codeP num) left ([] : List PV).length 0 [] [] ([] ++ [.int c, .tup row, .int 0, .int 0]))) :
    Z (F_Engine____init__ n [.loc st.length, codeP num, .int 0, .tup [.int c, .tup row], .int left] (st ++ [.ins "Engine" []])) Q E := by
  have w : ∀ (fs : List (String × PV)) (ys : Sto) (f : String) (y : PV) (ρ : Rho) (QF : Fl → Sto → Prop), fs.length < 1000 → kSA2 ["Engine"] f y ρ QF (.loc st.length) (st ++ .ins "Engine" fs :: ys) = QF (.next ρ) (st ++ .ins "Engine" (putA f y fs) :: ys) := fun fs ys f y ρ QF hl => by
    rw [kSA2_at gk0 (by simp) hl, sk0]
  rw [z_Engine____init__]
  unfold b_Engine____init__
  simp [w, gk0, putA]
  rw [Z_listA itemsA_tup]
  rw [show (st ++ [Cell.ins "Engine" [("code", codeP num), ("boxes", PV.loc (st.length + 1)), ("left", PV.int left), ("waiting", PV.loc (st.length + 2)), ("memory", PV.loc (st.length + 3)), ("base", PV.int 0), ("now", PV.int 0), ("at", PV.int 0)], Cell.dct [], Cell.lst [], Cell.lst []]) = ES st (codeP num) left 0 0 [] [] [] from rfl]
  simp [aC, aB, aL, aW, aM, aS, aN, aA, wL, wS, wA, wN, cD, cW, cM, sD, sW, sM, m_begin, z_Engine__begin, b_Engine__begin]
  rw [Z_extend cM rfl (by simp)]
  simp [aC, aB, aL, aW, aM, aS, aN, aA, wL, wS, wA, wN, cD, cW, cM, sD, sW, sM, m_begin]
  exact h
theorem run_back {c : Nat} {row : List PV} {left : Int} (hc : c < 30000) (hl : (c : Int) ≤ left) (hn : 8 * c + 5 ≤ n) (h : ∀ s, Q (.tup [.str [98, 97, 99, 107], .tup [.int (val num c), .tup row]]) s) :
    Z (F_run_code n [codeP num, .int 0, .tup [.int (c : Int), .tup row], .int left] st) Q E := by
  obtain ⟨k, hk⟩ : ∃ k, n = k + 8 * c + 5 := ⟨n - (8 * c + 5), by omega⟩
  obtain ⟨m, hm⟩ : ∃ m, n = m + 5 := ⟨n - 5, by omega⟩
  rw [z_run_code]
  unfold b_run_code
  simp
  refine init_spec ?_
  simp
  have := top_back (n := m) (st := st) (num := num) (row := .tup row) (QF := seqQ (sRet (eVar 5)) (runQ Q E) MP.E0) (X := MP.E0) (y0 := some (codeP num)) (y1 := some (.int 0)) (y2 := some (.tup [.int (c : Int), .tup row])) (y3 := some (.int left)) c k left hc hl (fun s => by simp; exact h s)
  rw [← hm, ← hk] at this
  unfold RUN at this
  simpa using this
theorem run_dry {l c : Nat} {row : List PV} (hl : l < c) (hc : c < 30000) (hn : 5 * l + 6 ≤ n) (h : ∀ s, Q (.tup [.str [100, 114, 121]]) s) :
    Z (F_run_code n [codeP num, .int 0, .tup [.int (c : Int), .tup row], .int (l : Int)] st) Q E := by
  obtain ⟨k, hk⟩ : ∃ k, n = k + 5 * l + 6 := ⟨n - (5 * l + 6), by omega⟩
  rw [z_run_code]
  unfold b_run_code
  simp
  refine init_spec ?_
  simp
  have := top_dry (n := n) (st := st) (num := num) (row := .tup row) (QF := seqQ (sRet (eVar 5)) (runQ Q E) MP.E0) (X := MP.E0) (y0 := some (codeP num)) (y1 := some (.int 0)) (y2 := some (.tup [.int (c : Int), .tup row])) (y3 := some (.int (l : Int))) l c k [] [] [] (.int 0) (.int 0) hl hc (by simp; omega) (by simp; omega) (by simp; omega) (fun s => by simp; exact h s)
  rw [← hk] at this
  unfold RUN at this
  simpa using this
theorem val_eq : ∀ c : Nat, -32768 ≤ num → num < 32768 → val num c = tk (num + c)
  | 0, h0, h1 => by rw [val, tk_small (by omega) (by omega)]; omega
  | c + 1, h0, h1 => by rw [val, val_eq c h0 h1]; unfold tk; omega
end
section
variable {n : Nat} {st : Sto} {Q : PV → Sto → Prop} {E : Exn → Sto → Prop} {num : Int}
def okT : Res Fl → Bool
  | .ok (.ret (.bl true)) _ => true
  | _ => false
theorem okT_Z {r : Res Fl} {QF : Fl → Sto → Prop} {X : Exn → Sto → Prop} (h : okT r = true) (hq : ∀ s, QF (.ret (.bl true)) s) : Z r QF X := by
  unfold okT at h
  split at h
  · exact hq _
  · cases h
def tlR (n : Nat) : Rho → M Fl :=
  (sSeq (sForA (iEnumA (eVar 0)) (gT 2 (gsCons (gN 2) (gsCons (gN 3) gsNil))) (L3_right_code n))
  (sSeq (sForA (iEnumA (eVar 0)) (gT 2 (gsCons (gN 2) (gsCons (gN 3) gsNil))) (L4_right_code n))
  (sRet (eC (.bl true)))))
abbrev c0 (num : Int) : Cell := .lst (stepsP num)
def okN : Res Fl → Bool
  | .ok (.ret .non) _ => true
  | _ => false
def stO : Res PV → Sto
  | .ok _ s => s
  | _ => []
def stF : Res Fl → Sto
  | .ok _ s => s
  | _ => []
def rhO : Res Fl → Rho
  | .ok (.next ρ) _ => ρ
  | _ => []
abbrev ks : List Int := [0, 1, 2, 4, 5, 6, 7, 8, 9, 3]
abbrev ks2 : List Int := [0, 1, 2, 3, 4, 5, 6, 7, 8, 9]
theorem so10 : sortI ks = ks2 := (sortI_of (ys := ks2) (by decide) (by decide)).symm
abbrev S0 (num : Int) : Sto := [c0 num, .lst [.str [100, 101, 101, 112]]]
def S1 (m : Nat) (num : Int) : Sto := stO (F_states_ahead (m + 60) [.str [110, 114], .tup (stepsP num)] (S0 num))
theorem sa_eq {m : Nat} : F_states_ahead (m + 60) [.str [110, 114], .tup (stepsP num)] (S0 num) = .ok (.loc 3) (S1 m num) := by kernel_rfl
theorem sa_keys {m : Nat} : itemsA (.loc 3) (S1 m num) = some (ks.map .int) := by kernel_rfl
def LA (m : Nat) (num : Int) : Res Fl := forL (gN 4) (L0_ask_ways (m + 60)) (ks2.map .int) [some (.int 0), some (funP num), some (.tup (stepsP num)), some (.loc 3), none] (S1 m num)
theorem la_eq {m : Nat} : LA m num = .ok (.next (rhO (LA m num))) (S1 m num) := by kernel_rfl
theorem sort_ks {Q : PV → Sto → Prop} {E : Exn → Sto → Prop} : Z (sortedM [.lst (ks.map .int)] st) Q E = Q (.lst (ks2.map .int)) st := by
  rw [Z_sortedI rfl rfl (intsOf_map _), so10]
theorem ask_spec {m : Nat} (h : Q .non (S1 m num)) : Z (F_ask_ways (m + 60) [.int 0, funP num] (S0 num)) Q E := by
  rw [z_ask_ways]; unfold b_ask_ways
  simp [Z_of sa_eq]
  rw [Z_listA sa_keys]
  simp only [kA1_at, Z_aNil, kA2_at, kF_at]
  rw [sort_ks]
  simp only [kAny_l, kForA_y]
  have e : forL (gN 4) (L0_ask_ways (m + 60)) (ks2.map .int) [some (.int 0), some (funP num), some (.tup (stepsP num)), some (.loc 3), none] (S1 m num) = .ok (.next (rhO (LA m num))) (S1 m num) := la_eq
  rw [Z_of e]
  simpa using h
def tC (n : Nat) : Rho → M Fl := whileF (eB (eBin neM (eVar 2) (eCall mkLst aNil))) (L0_steps_come_to n) n
def WC (m : Nat) (num : Int) : Res Fl := tC (m + 60) [some (.tup (stepsP num)), some (.loc (S1 m num).length), some (.loc ((S1 m num).length + 1)), none, none] (S1 m num ++ [.dct [(.int 0, .bl true)], .lst [.int 0]])
def S2 (m : Nat) (num : Int) : Sto := stF (WC m num)
theorem wc_eq {m : Nat} : WC m num = .ok (.next (rhO (WC m num))) (S2 m num) := by kernel_rfl
theorem wc_1 {m : Nat} : (rhO (WC m num))[1]? = some (some (.loc (S1 m num).length)) := by kernel_rfl
theorem wc_keys {m : Nat} : itemsA (.loc (S1 m num).length) (S2 m num) = some (ks.map .int) := by kernel_rfl
theorem come_spec {m : Nat} (h : Q (.lst (ks2.map .int)) (S2 m num)) : Z (F_steps_come_to (m + 60) [.tup (stepsP num)] (S1 m num)) Q E := by
  rw [z_steps_come_to]; unfold b_steps_come_to
  rw [show (whileF (eB (eBin neM (eVar 2) (eCall mkLst aNil))) (L0_steps_come_to (m + 60)) (m + 60)) = tC (m + 60) from rfl]
  simp [keysOk, mergeP, putP]
  have e : tC (m + 60) [some (.tup (stepsP num)), some (.loc (S1 m num).length), some (.loc ((S1 m num).length + 1)), none, none] (S1 m num ++ [.dct [(.int 0, .bl true)], .lst [.int 0]]) = .ok (.next (rhO (WC m num))) (S2 m num) := wc_eq
  rw [Z_of e]
  simp [wc_1]
  rw [Z_listA wc_keys]
  simp only [kA1_at, Z_aNil, kA2_at, kF_at]
  rw [sort_ks]
  simpa using h
def tlS (n : Nat) : Rho → M Fl :=
  (sSeq (sSet 2 (eC .non))
  (sSeq (whileF (tOrM (eB (eBin isN (eVar 2) (eC .non))) (eB (eBin ltI (eCall lenM (aCons (eVar 2) aNil)) (eCall lenM (aCons (eVar 1) aNil))))) (L0_step_on_a_ring n) n)
  (sSeq (sForA (iAny (eVar 1)) (gN 4) (L1_step_on_a_ring n))
  (sRet (eC .non)))))
theorem tlS_ok {m : Nat} : okN (tlS (m + 60) [some (.tup (stepsP num)), some (.lst [.int 0, .int 1, .int 2, .int 3, .int 4, .int 5, .int 7, .int 8, .int 9]), none, none, none, none, none] (S2 m num)) = true := by kernel_rfl
theorem okN_Z {r : Res Fl} {QF : Fl → Sto → Prop} {X : Exn → Sto → Prop} (h : okN r = true) (hq : ∀ s, QF (.ret .non) s) : Z r QF X := by
  unfold okN at h
  split at h
  · exact hq _
  · cases h
theorem lc_ring : lcL (gN 5) (tAndM (eB (eBin neM (eBin ixM (eBin ixM (eVar 0) (eVar 5)) (eC (.int 0))) (eC (.str [116, 105, 99, 107])))) (eB (eBin neM (eBin ixM (eBin ixM (eVar 0) (eVar 5)) (eC (.int 0))) (eC (.str [99, 97, 108, 108]))))) (eVar 5) [some (.tup (stepsP num)), none, none, none, none, none, none] (ks2.map .int) [] st = .ok [.int 0, .int 1, .int 2, .int 3, .int 4, .int 5, .int 7, .int 8, .int 9] st := by kernel_rfl
theorem ring_spec {m : Nat} (h : ∀ s, Q .non s) : Z (F_step_on_a_ring (m + 60) [.tup (stepsP num)] (S1 m num)) Q E := by
  rw [z_step_on_a_ring]; unfold b_step_on_a_ring
  rw [show (sSeq (sSet 2 (eC .non))
  (sSeq (whileF (tOrM (eB (eBin isN (eVar 2) (eC .non))) (eB (eBin ltI (eCall lenM (aCons (eVar 2) aNil)) (eCall lenM (aCons (eVar 1) aNil))))) (L0_step_on_a_ring (m + 60)) (m + 60))
  (sSeq (sForA (iAny (eVar 1)) (gN 4) (L1_step_on_a_ring (m + 60)))
  (sRet (eC .non))))) = tlS (m + 60) from rfl]
  simp
  refine come_spec ?_
  simp only [kAny_l, kLcA_y, wipeP_cons, wipeP_nil, List.set_cons_zero, List.set_cons_succ]
  rw [Z_of lc_ring]
  simp
  refine okN_Z tlS_ok fun s => ?_
  simpa using h s
theorem tlR_spec {m : Nat} {x2 x3 x4 x5 : Option PV} {QF : Fl → Sto → Prop} {X : Exn → Sto → Prop} (h : ∀ s, QF (.ret (.bl true)) s) : Z (tlR (m + 60) [some (codeP num), some (.loc 1), x2, x3, x4, x5] (S0 num)) QF X := by
  unfold tlR
  simp [enumP, Z_forL, Z_forL_nil, zL3_right_code]
  refine ask_spec ?_
  simp [enumP, Z_forL, Z_forL_nil, zL4_right_code]
  refine ring_spec fun s => ?_
  simp [nonP]
  exact h s
theorem is_fun : F_is_function n [funP num, .loc 1] [c0 num, .lst []] = .ok (.bl true) [c0 num, .lst []] := by kernel_rfl
theorem stp0 : F_is_step n [.tup [.str [108, 111, 97, 100], .str [110, 48], .int 0], funP num, codeP num] st = .ok (.bl true) st := by kernel_rfl
theorem stp1 : F_is_step n [.tup [.str [98, 114, 97, 110, 99, 104], .str [110, 48], .int 4], funP num, codeP num] st = .ok (.bl true) st := by kernel_rfl
theorem stp2 : F_is_step n [.tup [.str [108, 111, 97, 100], .str [114, 48], .int 1], funP num, codeP num] st = .ok (.bl true) st := by kernel_rfl
theorem stp4 : F_is_step n [.tup [.str [115, 117, 98], .str [110, 49], .tup [.str [110, 48], .int 1]], funP num, codeP num] st = .ok (.bl true) st := by kernel_rfl
theorem stp5 : F_is_step n [.tup [.str [115, 116, 111, 114, 101], .int 0, .str [110, 49]], funP num, codeP num] st = .ok (.bl true) st := by kernel_rfl
theorem stp6 : F_is_step n [.tup [.str [99, 97, 108, 108], .int 0, .tup [.tup [.str [110], .int 0], .tup [.str [114], .int 1]], .tup [.tup [.str [110], .int 2], .tup [.str [114], .int 3]]], funP num, codeP num] st = .ok (.bl true) st := by kernel_rfl
theorem stp7 : F_is_step n [.tup [.str [108, 111, 97, 100], .str [110, 50], .int 2], funP num, codeP num] st = .ok (.bl true) st := by kernel_rfl
theorem stp8 : F_is_step n [.tup [.str [97, 100, 100], .str [110, 50], .tup [.str [110, 50], .int 1]], funP num, codeP num] st = .ok (.bl true) st := by kernel_rfl
theorem stp9 : F_is_step n [.tup [.str [103, 105, 118, 101], .tup [.str [110, 50], .tup [.str [114], .int 3]]], funP num, codeP num] st = .ok (.bl true) st := by kernel_rfl
theorem opr : F_is_operand n [.str [114, 48], .str [114]] st = .ok (.bl true) st := by kernel_rfl
theorem stp3 (h0 : -32768 ≤ num) (h1 : num ≤ 32767) : Z (F_is_step n [.tup [.str [103, 105, 118, 101], .tup [.int num, .str [114, 48]]], funP num, codeP num] st) Q E = Q (.bl true) st := by
  rw [z_is_step]; unfold b_is_step
  simp [z_are_laid, b_are_laid, zipP, Z_forL, Z_forL_nil, zL0_are_laid, Z_of opr, z_is_operand, b_is_operand, z_is_whole, b_is_whole, h0, h1]
theorem right_spec {m : Nat} (h0 : -32768 ≤ num) (h1 : num ≤ 32767) (h : ∀ s, Q (.bl true) s) : Z (F_right_code (m + 60) [codeP num] [c0 num]) Q E := by
  rw [z_right_code]; unfold b_right_code
  rw [show (sSeq (sForA (iEnumA (eVar 0)) (gT 2 (gsCons (gN 2) (gsCons (gN 3) gsNil))) (L3_right_code (m + 60)))
  (sSeq (sForA (iEnumA (eVar 0)) (gT 2 (gsCons (gN 2) (gsCons (gN 3) gsNil))) (L4_right_code (m + 60)))
  (sRet (eC (.bl true))))) = tlR (m + 60) from rfl]
  simp [enumP, Z_forL, Z_forL_nil, zL0_right_code, Z_of is_fun, zL1_right_code, zL2_right_code, Z_of stp0, Z_of stp1, Z_of stp2, stp3 h0 h1, Z_of stp4, Z_of stp5, Z_of stp6, Z_of stp7, Z_of stp8, Z_of stp9]
  refine tlR_spec fun s => ?_
  simpa using h s
end
section
variable {n : Nat} {st : Sto} {Q : PV → Sto → Prop} {E : Exn → Sto → Prop} {num : Int} {ns : List Int}
theorem by_loop {x0 x1 x2 x3 x6 : Option PV} {QF : Fl → Sto → Prop} {X : Exn → Sto → Prop} : ∀ (ks : List PV) (c : Int) (x5 : Option PV), (∀ c x5, QF (.next [x0, x1, x2, x3, some (.int c), x5, x6]) st) → Z (forL (gN 5) (L0__law_by n) ks [x0, x1, x2, x3, some (.int c), x5, x6] st) QF X
  | [], c, x5, h => by rw [Z_forL_nil]; exact h c x5
  | k :: ks, c, x5, h => by
    rw [Z_forL, Z_gN]
    simp
    rw [zL0__law_by]
    simp
    exact by_loop ks _ _ h
def tlB : Rho → M Fl :=
  (sSeq (sSet 6 (eBin modV (eBin mulV (eBin addV (eBin addV (eBin modV (eVar 3) (eC (.int 999983))) (eBin mulV (eC (.int 17)) (eVar 1))) (eC (.int 5))) (eBin addV (eC (.int 48271)) (eBin mulV (eBin mulV (eC (.int 613)) (eVar 1)) (eVar 1)))) (eC (.int 999983))))
  (sRet (eBin modV (eBin modV (eBin mulV (eVar 6) (eBin addV (eC (.int 16807)) (eBin mulV (eC (.int 271)) (eVar 1)))) (eC (.int 1000003))) (eVar 2))))
theorem by_spec {k m : Int} (hk0 : 0 ≤ k) (hk : k < 1000) (hm : 0 < m) (hns : ns.length ≤ 63) (h : ∀ i, 0 ≤ i → i < m → Q (.int i) st) : Z (F__law_by n [.frz (ns.map .int), .int k, .int m] st) Q E := by
  have hm0 : m ≠ 0 := by omega
  have fin : ∀ i : Int, Q (.int (i.fmod m)) st := fun i => h _ (fmod_lt hm).1 (fmod_lt hm).2
  have k17 : mulOk 17 k = true := by simp [mulOk]
  have k613 : mulOk 613 k = true := by simp [mulOk]
  have kk : mulOk (613 * k) k = true := by simp [mulOk]; omega
  have k271 : mulOk 271 k = true := by simp [mulOk]
  have big : ∀ i : Int, mulOk i (48271 + 613 * k * k) = true := by
    intro i
    have h1 : 0 ≤ 613 * k * k := Int.mul_nonneg (by omega) hk0
    have h2 : 613 * k * k ≤ 613 * 1000 * 1000 := by
      have a1 : 613 * k ≤ 613 * 1000 := by omega
      exact Int.mul_le_mul a1 (by omega) hk0 (by omega)
    simp [mulOk]; omega
  have big2 : ∀ i : Int, mulOk i (16807 + 271 * k) = true := by intro i; simp [mulOk]; omega
  rw [z__law_by]; unfold b__law_by
  rw [show (sSeq (sSet 6 (eBin modV (eBin mulV (eBin addV (eBin addV (eBin modV (eVar 3) (eC (.int 999983))) (eBin mulV (eC (.int 17)) (eVar 1))) (eC (.int 5))) (eBin addV (eC (.int 48271)) (eBin mulV (eBin mulV (eC (.int 613)) (eVar 1)) (eVar 1)))) (eC (.int 999983))))
  (sRet (eBin modV (eBin modV (eBin mulV (eVar 6) (eBin addV (eC (.int 16807)) (eBin mulV (eC (.int 271)) (eVar 1)))) (eC (.int 1000003))) (eVar 2)))) = tlB from rfl]
  have tail : ∀ (x0 x4 x5 x6 : Option PV) (v : Int), Z (tlB [x0, some (.int k), some (.int m), some (.int v), x4, x5, x6] st) (runQ Q E) MP.E0 := by
    intro x0 x4 x5 x6 v
    unfold tlB
    simp [k17, k613, kk, k271, big, big2, hm0]
    exact fin _
  cases ns with
  | nil =>
    simp
    exact tail _ _ _ _ _
  | cons a ns =>
    have hl : (0 : Int) < ns.length + 1 := by omega
    have hl0 : (ns.length : Int) + 1 ≠ 0 := by omega
    obtain ⟨v, hv⟩ : ∃ v : Int, L2.atI ((a :: ns).map PV.int) (k.fmod ((ns.length : Int) + 1)) = some (.int v) := by
      have hf := fmod_lt (i := k) hl
      obtain ⟨x, hx, v, rfl⟩ := atI_all (xs := (a :: ns).map PV.int) hf.1 (by simpa using hf.2) (P := fun x => ∃ i, x = .int i) (by simp)
      exact ⟨v, hx⟩
    simp only [List.map_cons] at hv
    simp only [List.length_cons] at hns
    have m60 : mulOk 60 ((ns.length : Int) + 1) = true := by simp [mulOk]
    have hab : ((ns.length : Int) + 1).natAbs < 1073741824 := by omega
    obtain ⟨t, ht, ht2⟩ : ∃ t : Nat, k.fdiv ((ns.length : Int) + 1) = (t : Int) ∧ t ≤ 16777216 := by
      have e : k.fdiv ((ns.length : Int) + 1) = k / ((ns.length : Int) + 1) := Int.fdiv_eq_ediv_of_nonneg _ (by omega)
      have e1 : 0 ≤ k / ((ns.length : Int) + 1) := Int.ediv_nonneg hk0 (by omega)
      have e2 : k / ((ns.length : Int) + 1) ≤ k := Int.ediv_le_self _ hk0
      exact ⟨(k / ((ns.length : Int) + 1)).toNat, by rw [e]; omega, by omega⟩
    simp [hl, hl0, hv]
    by_cases h1 : a.fmod 2 = 1
    · simp [h1, m60]
      by_cases h2 : k < 60 * ((ns.length : Int) + 1)
      · simp [h2, hl0, hab, ht, ht2]
        refine by_loop _ _ _ fun c x5 => ?_
        simp
        by_cases h3 : k < (ns.length : Int) + 1
        · simp [h3, hm0]
          exact fin _
        · simp [h3]
          by_cases h4 : 0 < c
          · simp [h4, hm0]; exact fin _
          · simp [h4]
            by_cases h5 : c < -1
            · simp [h5, hm0]; exact fin _
            · simp [h5]
              exact tail _ _ _ _ _
      · simp [h2]
        exact tail _ _ _ _ _
    · simp [h1]
      exact tail _ _ _ _ _
end
section
variable {m : Nat} {ns : List Int}
theorem lc_row {n : Nat} {x1 x2 x3 x4 x5 x6 : Option PV} {QL : List PV → Sto → Prop} {X : Exn → Sto → Prop} (hns : ns.length ≤ 63) : ∀ (ks : List Nat) (acc : List Int), (∀ k ∈ ks, k < 10) → acc.length + ks.length < 100 → (∀ is : List Int, QL (is.map .int) []) →
    Z (lcL (gN 7) tYesM (eCall (F__law_by n) (aCons (eVar 0) (aCons (eBin addV (eC (.int 6)) (eVar 7)) (aCons (eC (.int 9)) aNil)))) [some (.frz (ns.map .int)), x1, x2, x3, x4, x5, x6, none] (ks.map fun (k : Nat) => .int (k : Int)) (acc.map .int) []) QL X
  | [], acc, _, _, h => by rw [List.map_nil, lc_nil]; exact h acc
  | k :: ks, acc, hk, hl, h => by
    simp only [List.length_cons] at hl
    have hk0 := hk k (by simp)
    rw [List.map_cons, lc_cons]
    simp
    refine by_spec (by omega) (by omega) (by omega) hns fun i _ _ => ?_
    refine ⟨by omega, ?_⟩
    have := lc_row (n := n) (x1 := x1) (x2 := x2) (x3 := x3) (x4 := x4) (x5 := x5) (x6 := x6) (X := X) hns ks (acc ++ [i]) (fun k hk' => hk k (by simp [hk'])) (by simp; omega) h
    simpa using this
theorem steps_eq {n : Nat} {num : Int} {Q : PV → Sto → Prop} {E : Exn → Sto → Prop} (h : Q (.tup (stepsP num)) [c0 num]) : Z (F__law_steps n [.int num] []) Q E := by
  rw [z__law_steps]; unfold b__law_steps
  simp [MP.listOf]
  exact h
theorem law_spec (hns : ns.length ≤ 63) : Z (F_law (m + 20000) [.frz (ns.map .int)] []) (fun v _ => v = .bl true) MP.E0 := by
  rw [z_law]; unfold b_law
  simp
  refine by_spec (by omega) (by omega) (by omega) hns fun nu u0 u1 => ?_
  simp
  refine by_spec (by omega) (by omega) (by omega) hns fun ca c0_ c1 => ?_
  have rest : ∀ (ca : Nat), ca < 1400 → Z ((sSeq (sSet 3 (eBin ixM (eCall mkLst (aCons (eCall maxM (aCons (eC (.int 0)) (aCons (eBin addV (eBin subV (eVar 2) (eC (.int 2))) (eCall (F__law_by (m + 20000)) (aCons (eVar 0) (aCons (eC (.int 4)) (aCons (eC (.int 5)) aNil))))) aNil))) (aCons (eBin powV (eC (.int 10)) (eC (.int 6))) aNil))) (eCall (F__law_by (m + 20000)) (aCons (eVar 0) (aCons (eC (.int 5)) (aCons (eC (.int 2)) aNil))))))
  (sSeq (sSet 4 (eCall tupleM (aCons (eLc lcV (iCall range1 (aCons (eCall (F__law_by (m + 20000)) (aCons (eVar 0) (aCons (eC (.int 7)) (aCons (eC (.int 4)) aNil)))) aNil)) (gN 7) tYesM (eCall (F__law_by (m + 20000)) (aCons (eVar 0) (aCons (eBin addV (eC (.int 6)) (eVar 7)) (aCons (eC (.int 9)) aNil)))) [7]) aNil)))
  (sSeq (sSet 5 (eCall mkTup (aCons (eCall mkTup (aCons (eC (.str [100, 101, 101, 112])) (aCons (eC (.str [110, 114])) (aCons (eC (.str [110, 114])) (aCons (eC (.int 4)) (aCons (eCall (F__law_steps (m + 20000)) (aCons (eVar 1) aNil)) aNil)))))) aNil)))
  (sSeq (sIf (eB (eBin notN (eCall (F_right_code (m + 20000)) (aCons (eVar 5) aNil)) (eC (.bl true)))) (sRet (eC (.bl false))) sNext)
  (sSeq (sSet 6 (eCall mkTup (aCons (eC (.str [100, 114, 121])) aNil)))
  (sSeq (sIf (eB (eBin geI (eVar 3) (eVar 2))) (sSet 6 (eCall mkTup (aCons (eC (.str [98, 97, 99, 107])) (aCons (eCall mkTup (aCons (eBin subV (eBin modV (eBin addV (eBin addV (eVar 1) (eVar 2)) (eC (.int 32768))) (eC (.int 65536))) (eC (.int 32768))) (aCons (eVar 4) aNil))) aNil)))) sNext)
  (sRet (eBin eqM (eCall (F_run_code (m + 20000)) (aCons (eVar 5) (aCons (eC (.int 0)) (aCons (eCall mkTup (aCons (eVar 2) (aCons (eVar 4) aNil))) (aCons (eVar 3) aNil))))) (eVar 6))))))))) [some (.frz (ns.map .int)), some (.int (nu - 32768)), some (.int (ca : Int)), none, none, none, none, none] []) (runQ (fun v _ => v = .bl true) MP.E0) MP.E0 := by
    intro ca hca
    simp
    refine by_spec (by omega) (by omega) (by omega) hns fun b4 b40 b41 => ?_
    simp
    refine by_spec (by omega) (by omega) (by omega) hns fun b5 b50 b51 => ?_
    obtain ⟨bo, hbo, hb0⟩ : ∃ bo : Nat, L2.atI [PV.int (if 0 < (ca : Int) - 2 + b4 then (ca : Int) - 2 + b4 else 0), .int 1000000] b5 = some (.int (bo : Int)) ∧ True := by
      have : b5 = 0 ∨ b5 = 1 := by omega
      rcases this with rfl | rfl
      · exact ⟨((if 0 < (ca : Int) - 2 + b4 then (ca : Int) - 2 + b4 else 0)).toNat, by simp; split <;> omega, trivial⟩
      · exact ⟨1000000, by simp, trivial⟩
    simp [hbo]
    refine by_spec (by omega) (by omega) (by omega) hns fun b7 b70 b71 => ?_
    obtain ⟨t, rfl⟩ := Int.eq_ofNat_of_zero_le b70
    have ht : t ≤ 16777216 := by omega
    simp [ht]
    have hlc := fun (QL : List PV → Sto → Prop) (X : Exn → Sto → Prop) (h : ∀ is : List Int, QL (is.map .int) []) => lc_row (n := m + 20000) (x1 := some (.int (nu - 32768))) (x2 := some (.int (ca : Int))) (x3 := some (.int (bo : Int))) (x4 := none) (x5 := none) (x6 := none) (X := X) hns (List.range t) [] (fun k hk => by have := List.mem_range.mp hk; omega) (by simp; omega) h
    refine hlc _ _ fun is => ?_
    simp
    refine steps_eq ?_
    simp
    have hR := fun (Q : PV → Sto → Prop) (E : Exn → Sto → Prop) (h : ∀ s, Q (.bl true) s) => right_spec (num := nu - 32768) (m := m + 19940) (Q := Q) (E := E) (by omega) (by omega) h
    refine hR _ _ fun s => ?_
    simp
    have okr : okP (.tup (is.map .int)) = true := by
      have h1 : plPs (is.map .int) = true := by rw [plPs_iff]; intro x hx; simp at hx; obtain ⟨i, _, rfl⟩ := hx; simp [plP]
      simp [okP, plP, h1, depP, depPs_ints]
    have okb : ∀ v : Int, okP (.tup [.str [98, 97, 99, 107], .tup [.int v, .tup (is.map .int)]]) = true := by
      intro v
      simp [okP, plP, plPs, depP, depPs, depPs_ints] at okr ⊢
      exact okr
    by_cases hb : ca ≤ bo
    · simp [hb]
      refine run_back (by omega) (by omega) (by omega) fun s => ?_
      have e : val (nu - 32768) ca = (nu - 32768 + ca + 32768).fmod 65536 - 32768 := by
        rw [val_eq ca (by omega) (by omega), Int.fmod_eq_emod_of_nonneg _ (by omega)]; rfl
      rw [e]
      simp only [kB1_at]
      simp
      rw [Z_eqP (okb _) (okb _)]
      simp
    · simp [hb]
      refine run_dry (by omega) (by omega) (by omega) fun s => ?_
      simp
      rw [Z_eqP (by simp [okP, plP, plPs, depP, depPs]) (by simp [okP, plP, plPs, depP, depPs])]
      simp
  simp
  refine by_spec (by omega) (by omega) (by omega) hns fun b3 b30 b31 => ?_
  obtain ⟨ca, rfl⟩ := Int.eq_ofNat_of_zero_le c0_
  by_cases h3 : b3 = 0
  · simp [h3]
    refine by_spec (by omega) (by omega) (by omega) hns fun b2 b20 b21 => ?_
    obtain ⟨b2, rfl⟩ := Int.eq_ofNat_of_zero_le b20
    have := rest (1100 + b2) (by omega)
    simpa using this
  · simp [h3]
    have := rest ca (by omega)
    simpa using this
theorem pure_law (ns : List Int) (hns : ns.length ≤ 63) : ∃ n st, F_law n [.frz (ns.map .int)] [] = .ok (.bl true) st := by
  have h := law_spec (m := 0) hns
  refine ⟨0 + 20000, ?_⟩
  revert h
  cases F_law (0 + 20000) [.frz (ns.map .int)] [] with
  | ok v st => intro h; exact ⟨st, by rw [show v = .bl true from h]⟩
  | err x st => intro h; exact h.elim
  | bad => intro h; exact h.elim
end
end K80

set_option maxRecDepth 100000
open PySem PySem.W PyProof.Rows
set_option maxRecDepth 100000 in
set_option maxHeartbeats 0 in
theorem PySem.Challenge.cw_samepaper_k80_deep_calls_holds : PySem.Challenge.rw_samepaper_k80_deep_calls.Holds := by
  w_on; o_law; k_head; (case hw => w_witness2)
  k_fill
  refine K80.walk (l := PySem.Challenge.rw_samepaper_k80_deep_calls) rfl rfl (fun w h Y => PySem.W.kIn_of Y) K80.pure_law ?F
  case F =>
    intro w mg fa h KX G hmg
    refine' K80.all_mk KX G hmg ?a_Engine ?a_taken_in ?l_taken_in ?c_taken_in ?k_taken_in ?a_kinds_of ?l_kinds_of ?c_kinds_of ?k_kinds_of ?a_divided ?l_divided ?c_divided ?k_divided ?a_done_sum ?l_done_sum ?c_done_sum ?k_done_sum ?a_put_at ?l_put_at ?c_put_at ?k_put_at ?a_done_row ?l_done_row ?c_done_row ?k_done_row ?a_done ?l_done ?c_done ?k_done ?a_Engine__begin ?i_Engine__begin ?l_Engine__begin ?c_Engine__begin ?k_Engine__begin ?a_Engine____init__ ?i_Engine____init__ ?l_Engine____init__ ?c_Engine____init__ ?k_Engine____init__ ?a_Engine__value ?i_Engine__value ?l_Engine__value ?c_Engine__value ?k_Engine__value ?a_Engine__call ?i_Engine__call ?l_Engine__call ?c_Engine__call ?k_Engine__call ?a_Engine__give ?i_Engine__give ?l_Engine__give ?c_Engine__give ?k_Engine__give ?a_Engine__lay_in ?i_Engine__lay_in ?l_Engine__lay_in ?c_Engine__lay_in ?k_Engine__lay_in ?a_Engine__go_on ?i_Engine__go_on ?l_Engine__go_on ?c_Engine__go_on ?k_Engine__go_on ?a_run_code ?l_run_code ?c_run_code ?k_run_code ?a_ways_on ?l_ways_on ?c_ways_on ?k_ways_on ?a_steps_come_to ?l_steps_come_to ?c_steps_come_to ?k_steps_come_to ?a_things_read ?l_things_read ?c_things_read ?k_things_read ?a_laid_behind ?l_laid_behind ?c_laid_behind ?k_laid_behind ?a_reads_well ?l_reads_well ?c_reads_well ?k_reads_well ?a_states_ahead ?l_states_ahead ?c_states_ahead ?k_states_ahead ?a_leads_back ?l_leads_back ?c_leads_back ?k_leads_back ?a_step_on_a_ring ?l_step_on_a_ring ?c_step_on_a_ring ?k_step_on_a_ring ?a_is_whole ?l_is_whole ?c_is_whole ?k_is_whole ?a_is_word ?l_is_word ?c_is_word ?k_is_word ?a_is_kinds ?l_is_kinds ?c_is_kinds ?k_is_kinds ?a_is_box ?l_is_box ?c_is_box ?k_is_box ?a_is_operand ?l_is_operand ?c_is_operand ?k_is_operand ?a_is_cell ?l_is_cell ?c_is_cell ?k_is_cell ?a_are_laid ?l_are_laid ?c_are_laid ?k_are_laid ?a_is_operation ?l_is_operation ?c_is_operation ?k_is_operation ?a_is_call ?l_is_call ?c_is_call ?k_is_call ?a_is_step ?l_is_step ?c_is_step ?k_is_step ?a_is_function ?l_is_function ?c_is_function ?k_is_function ?a_ask_ways ?l_ask_ways ?c_ask_ways ?k_ask_ways ?a_right_code ?l_right_code ?c_right_code ?k_right_code ?a__law_by ?l__law_by ?c__law_by ?k__law_by ?a__law_steps ?l__law_steps ?c__law_steps ?k__law_steps ?a_law ?l_law ?c_law ?k_law ?pg_Engine ?hd_Engine ?po_Engine ?sa_Engine ?mk_Engine ?kc_Engine ?na_Engine_at ?na_Engine_base ?na_Engine_boxes ?na_Engine_code ?na_Engine_left ?na_Engine_memory ?na_Engine_now ?na_Engine_waiting ?z_int ?z_len ?z_max ?z_min ?z_tuple ?z_list ?z_isinstance ?z_str ?z_zip ?z_sorted ?z_dict ?z_enumerate ?z_bool ?z_set ?z_range ?g_BOXES ?gl_BOXES ?g_LEAST ?g_LONGEST ?g_OPERATIONS ?gl_OPERATIONS ?g_TURN ?tb_OPERATIONS ?tb_BOXES
    (case a_Engine => k_is)
    (case a_taken_in => k_is)
    (case l_taken_in => k_is)
    (case c_taken_in => k_is)
    (case k_taken_in => k_is)
    (case a_kinds_of => k_is)
    (case l_kinds_of => k_is)
    (case c_kinds_of => k_is)
    (case k_kinds_of => k_is)
    (case a_divided => k_is)
    (case l_divided => k_is)
    (case c_divided => k_is)
    (case k_divided => k_is)
    (case a_done_sum => k_is)
    (case l_done_sum => k_is)
    (case c_done_sum => k_is)
    (case k_done_sum => k_is)
    (case a_put_at => k_is)
    (case l_put_at => k_is)
    (case c_put_at => k_is)
    (case k_put_at => k_is)
    (case a_done_row => k_is)
    (case l_done_row => k_is)
    (case c_done_row => k_is)
    (case k_done_row => k_is)
    (case a_done => k_is)
    (case l_done => k_is)
    (case c_done => k_is)
    (case k_done => k_is)
    (case a_Engine__begin => k_is)
    (case i_Engine__begin => k_is)
    (case l_Engine__begin => k_is)
    (case c_Engine__begin => k_is)
    (case k_Engine__begin => k_is)
    (case a_Engine____init__ => k_is)
    (case i_Engine____init__ => k_is)
    (case l_Engine____init__ => k_is)
    (case c_Engine____init__ => k_is)
    (case k_Engine____init__ => k_is)
    (case a_Engine__value => k_is)
    (case i_Engine__value => k_is)
    (case l_Engine__value => k_is)
    (case c_Engine__value => k_is)
    (case k_Engine__value => k_is)
    (case a_Engine__call => k_is)
    (case i_Engine__call => k_is)
    (case l_Engine__call => k_is)
    (case c_Engine__call => k_is)
    (case k_Engine__call => k_is)
    (case a_Engine__give => k_is)
    (case i_Engine__give => k_is)
    (case l_Engine__give => k_is)
    (case c_Engine__give => k_is)
    (case k_Engine__give => k_is)
    (case a_Engine__lay_in => k_is)
    (case i_Engine__lay_in => k_is)
    (case l_Engine__lay_in => k_is)
    (case c_Engine__lay_in => k_is)
    (case k_Engine__lay_in => k_is)
    (case a_Engine__go_on => k_is)
    (case i_Engine__go_on => k_is)
    (case l_Engine__go_on => k_is)
    (case c_Engine__go_on => k_is)
    (case k_Engine__go_on => k_is)
    (case a_run_code => k_is)
    (case l_run_code => k_is)
    (case c_run_code => k_is)
    (case k_run_code => k_is)
    (case a_ways_on => k_is)
    (case l_ways_on => k_is)
    (case c_ways_on => k_is)
    (case k_ways_on => k_is)
    (case a_steps_come_to => k_is)
    (case l_steps_come_to => k_is)
    (case c_steps_come_to => k_is)
    (case k_steps_come_to => k_is)
    (case a_things_read => k_is)
    (case l_things_read => k_is)
    (case c_things_read => k_is)
    (case k_things_read => k_is)
    (case a_laid_behind => k_is)
    (case l_laid_behind => k_is)
    (case c_laid_behind => k_is)
    (case k_laid_behind => k_is)
    (case a_reads_well => k_is)
    (case l_reads_well => k_is)
    (case c_reads_well => k_is)
    (case k_reads_well => k_is)
    (case a_states_ahead => k_is)
    (case l_states_ahead => k_is)
    (case c_states_ahead => k_is)
    (case k_states_ahead => k_is)
    (case a_leads_back => k_is)
    (case l_leads_back => k_is)
    (case c_leads_back => k_is)
    (case k_leads_back => k_is)
    (case a_step_on_a_ring => k_is)
    (case l_step_on_a_ring => k_is)
    (case c_step_on_a_ring => k_is)
    (case k_step_on_a_ring => k_is)
    (case a_is_whole => k_is)
    (case l_is_whole => k_is)
    (case c_is_whole => k_is)
    (case k_is_whole => k_is)
    (case a_is_word => k_is)
    (case l_is_word => k_is)
    (case c_is_word => k_is)
    (case k_is_word => k_is)
    (case a_is_kinds => k_is)
    (case l_is_kinds => k_is)
    (case c_is_kinds => k_is)
    (case k_is_kinds => k_is)
    (case a_is_box => k_is)
    (case l_is_box => k_is)
    (case c_is_box => k_is)
    (case k_is_box => k_is)
    (case a_is_operand => k_is)
    (case l_is_operand => k_is)
    (case c_is_operand => k_is)
    (case k_is_operand => k_is)
    (case a_is_cell => k_is)
    (case l_is_cell => k_is)
    (case c_is_cell => k_is)
    (case k_is_cell => k_is)
    (case a_are_laid => k_is)
    (case l_are_laid => k_is)
    (case c_are_laid => k_is)
    (case k_are_laid => k_is)
    (case a_is_operation => k_is)
    (case l_is_operation => k_is)
    (case c_is_operation => k_is)
    (case k_is_operation => k_is)
    (case a_is_call => k_is)
    (case l_is_call => k_is)
    (case c_is_call => k_is)
    (case k_is_call => k_is)
    (case a_is_step => k_is)
    (case l_is_step => k_is)
    (case c_is_step => k_is)
    (case k_is_step => k_is)
    (case a_is_function => k_is)
    (case l_is_function => k_is)
    (case c_is_function => k_is)
    (case k_is_function => k_is)
    (case a_ask_ways => k_is)
    (case l_ask_ways => k_is)
    (case c_ask_ways => k_is)
    (case k_ask_ways => k_is)
    (case a_right_code => k_is)
    (case l_right_code => k_is)
    (case c_right_code => k_is)
    (case k_right_code => k_is)
    (case a__law_by => k_is)
    (case l__law_by => k_is)
    (case c__law_by => k_is)
    (case k__law_by => k_is)
    (case a__law_steps => k_is)
    (case l__law_steps => k_is)
    (case c__law_steps => k_is)
    (case k__law_steps => k_is)
    (case a_law => k_is)
    (case l_law => k_is)
    (case c_law => k_is)
    (case k_law => k_is)
    (case pg_Engine => k_is)
    (case hd_Engine => k_is)
    (case po_Engine => k_is)
    (case sa_Engine => k_is)
    (case mk_Engine => k_is)
    (case kc_Engine => k_is)
    (case na_Engine_at => k_is)
    (case na_Engine_base => k_is)
    (case na_Engine_boxes => k_is)
    (case na_Engine_code => k_is)
    (case na_Engine_left => k_is)
    (case na_Engine_memory => k_is)
    (case na_Engine_now => k_is)
    (case na_Engine_waiting => k_is)
    (case z_int => k_is)
    (case z_len => k_is)
    (case z_max => k_is)
    (case z_min => k_is)
    (case z_tuple => k_is)
    (case z_list => k_is)
    (case z_isinstance => k_is)
    (case z_str => k_is)
    (case z_zip => k_is)
    (case z_sorted => k_is)
    (case z_dict => k_is)
    (case z_enumerate => k_is)
    (case z_bool => k_is)
    (case z_set => k_is)
    (case z_range => k_is)
    (case g_BOXES => k_is)
    (case gl_BOXES => k_is)
    (case g_LEAST => k_is)
    (case g_LONGEST => k_is)
    (case g_OPERATIONS => k_is)
    (case gl_OPERATIONS => k_is)
    (case g_TURN => k_is)
    (case tb_OPERATIONS => refine' MP.TabIn.of ?l ?k ?s ?r; (case l => k_is); (case k => k_keys); (case s => decide); (case r => refine' MP.RowsT.row ?e1 ?x1 ?r1; (case e1 => decide +kernel); (case x1 => refine MP.TupIn.val ?_; refine' MP.TupIn.of ?l2 ?n2 ?v2; (case l2 => k_is); (case n2 => decide); (case v2 => refine' MP.KVs.cons ?x3 ?r3; (case x3 => exact MP.KV1.str (by decide +kernel)); (case r3 => refine' MP.KVs.cons ?x4 ?r4; (case x4 => exact MP.KV1.str (by decide +kernel)); (case r4 => exact MP.KVs.nil)))); (case r1 => refine' MP.RowsT.row ?e5 ?x5 ?r5; (case e5 => decide +kernel); (case x5 => refine MP.TupIn.val ?_; refine' MP.TupIn.of ?l6 ?n6 ?v6; (case l6 => k_is); (case n6 => decide); (case v6 => refine' MP.KVs.cons ?x7 ?r7; (case x7 => exact MP.KV1.str (by decide +kernel)); (case r7 => refine' MP.KVs.cons ?x8 ?r8; (case x8 => exact MP.KV1.str (by decide +kernel)); (case r8 => exact MP.KVs.nil)))); (case r5 => refine' MP.RowsT.row ?e9 ?x9 ?r9; (case e9 => decide +kernel); (case x9 => refine MP.TupIn.val ?_; refine' MP.TupIn.of ?l10 ?n10 ?v10; (case l10 => k_is); (case n10 => decide); (case v10 => refine' MP.KVs.cons ?x11 ?r11; (case x11 => exact MP.KV1.str (by decide +kernel)); (case r11 => refine' MP.KVs.cons ?x12 ?r12; (case x12 => exact MP.KV1.str (by decide +kernel)); (case r12 => exact MP.KVs.nil)))); (case r9 => refine' MP.RowsT.row ?e13 ?x13 ?r13; (case e13 => decide +kernel); (case x13 => refine MP.TupIn.val ?_; refine' MP.TupIn.of ?l14 ?n14 ?v14; (case l14 => k_is); (case n14 => decide); (case v14 => refine' MP.KVs.cons ?x15 ?r15; (case x15 => exact MP.KV1.str (by decide +kernel)); (case r15 => refine' MP.KVs.cons ?x16 ?r16; (case x16 => exact MP.KV1.str (by decide +kernel)); (case r16 => exact MP.KVs.nil)))); (case r13 => refine' MP.RowsT.row ?e17 ?x17 ?r17; (case e17 => decide +kernel); (case x17 => refine MP.TupIn.val ?_; refine' MP.TupIn.of ?l18 ?n18 ?v18; (case l18 => k_is); (case n18 => decide); (case v18 => refine' MP.KVs.cons ?x19 ?r19; (case x19 => exact MP.KV1.str (by decide +kernel)); (case r19 => refine' MP.KVs.cons ?x20 ?r20; (case x20 => exact MP.KV1.str (by decide +kernel)); (case r20 => exact MP.KVs.nil)))); (case r17 => refine' MP.RowsT.row ?e21 ?x21 ?r21; (case e21 => decide +kernel); (case x21 => refine MP.TupIn.val ?_; refine' MP.TupIn.of ?l22 ?n22 ?v22; (case l22 => k_is); (case n22 => decide); (case v22 => refine' MP.KVs.cons ?x23 ?r23; (case x23 => exact MP.KV1.str (by decide +kernel)); (case r23 => refine' MP.KVs.cons ?x24 ?r24; (case x24 => exact MP.KV1.str (by decide +kernel)); (case r24 => exact MP.KVs.nil)))); (case r21 => refine' MP.RowsT.row ?e25 ?x25 ?r25; (case e25 => decide +kernel); (case x25 => refine MP.TupIn.val ?_; refine' MP.TupIn.of ?l26 ?n26 ?v26; (case l26 => k_is); (case n26 => decide); (case v26 => refine' MP.KVs.cons ?x27 ?r27; (case x27 => exact MP.KV1.str (by decide +kernel)); (case r27 => refine' MP.KVs.cons ?x28 ?r28; (case x28 => exact MP.KV1.str (by decide +kernel)); (case r28 => exact MP.KVs.nil)))); (case r25 => refine' MP.RowsT.row ?e29 ?x29 ?r29; (case e29 => decide +kernel); (case x29 => refine MP.TupIn.val ?_; refine' MP.TupIn.of ?l30 ?n30 ?v30; (case l30 => k_is); (case n30 => decide); (case v30 => refine' MP.KVs.cons ?x31 ?r31; (case x31 => exact MP.KV1.str (by decide +kernel)); (case r31 => refine' MP.KVs.cons ?x32 ?r32; (case x32 => exact MP.KV1.str (by decide +kernel)); (case r32 => exact MP.KVs.nil)))); (case r29 => refine' MP.RowsT.row ?e33 ?x33 ?r33; (case e33 => decide +kernel); (case x33 => refine MP.TupIn.val ?_; refine' MP.TupIn.of ?l34 ?n34 ?v34; (case l34 => k_is); (case n34 => decide); (case v34 => refine' MP.KVs.cons ?x35 ?r35; (case x35 => exact MP.KV1.str (by decide +kernel)); (case r35 => refine' MP.KVs.cons ?x36 ?r36; (case x36 => exact MP.KV1.str (by decide +kernel)); (case r36 => exact MP.KVs.nil)))); (case r33 => refine' MP.RowsT.row ?e37 ?x37 ?r37; (case e37 => decide +kernel); (case x37 => refine MP.TupIn.val ?_; refine' MP.TupIn.of ?l38 ?n38 ?v38; (case l38 => k_is); (case n38 => decide); (case v38 => refine' MP.KVs.cons ?x39 ?r39; (case x39 => exact MP.KV1.str (by decide +kernel)); (case r39 => refine' MP.KVs.cons ?x40 ?r40; (case x40 => exact MP.KV1.str (by decide +kernel)); (case r40 => exact MP.KVs.nil)))); (case r37 => refine' MP.RowsT.row ?e41 ?x41 ?r41; (case e41 => decide +kernel); (case x41 => refine MP.TupIn.val ?_; refine' MP.TupIn.of ?l42 ?n42 ?v42; (case l42 => k_is); (case n42 => decide); (case v42 => refine' MP.KVs.cons ?x43 ?r43; (case x43 => exact MP.KV1.str (by decide +kernel)); (case r43 => refine' MP.KVs.cons ?x44 ?r44; (case x44 => exact MP.KV1.str (by decide +kernel)); (case r44 => exact MP.KVs.nil)))); (case r41 => refine' MP.RowsT.row ?e45 ?x45 ?r45; (case e45 => decide +kernel); (case x45 => refine MP.TupIn.val ?_; refine' MP.TupIn.of ?l46 ?n46 ?v46; (case l46 => k_is); (case n46 => decide); (case v46 => refine' MP.KVs.cons ?x47 ?r47; (case x47 => exact MP.KV1.str (by decide +kernel)); (case r47 => refine' MP.KVs.cons ?x48 ?r48; (case x48 => exact MP.KV1.str (by decide +kernel)); (case r48 => exact MP.KVs.nil)))); (case r45 => refine' MP.RowsT.row ?e49 ?x49 ?r49; (case e49 => decide +kernel); (case x49 => refine MP.TupIn.val ?_; refine' MP.TupIn.of ?l50 ?n50 ?v50; (case l50 => k_is); (case n50 => decide); (case v50 => refine' MP.KVs.cons ?x51 ?r51; (case x51 => exact MP.KV1.str (by decide +kernel)); (case r51 => refine' MP.KVs.cons ?x52 ?r52; (case x52 => exact MP.KV1.str (by decide +kernel)); (case r52 => exact MP.KVs.nil)))); (case r49 => refine' MP.RowsT.row ?e53 ?x53 ?r53; (case e53 => decide +kernel); (case x53 => refine MP.TupIn.val ?_; refine' MP.TupIn.of ?l54 ?n54 ?v54; (case l54 => k_is); (case n54 => decide); (case v54 => refine' MP.KVs.cons ?x55 ?r55; (case x55 => exact MP.KV1.str (by decide +kernel)); (case r55 => refine' MP.KVs.cons ?x56 ?r56; (case x56 => exact MP.KV1.non); (case r56 => exact MP.KVs.nil)))); (case r53 => refine' MP.RowsT.row ?e57 ?x57 ?r57; (case e57 => decide +kernel); (case x57 => refine MP.TupIn.val ?_; refine' MP.TupIn.of ?l58 ?n58 ?v58; (case l58 => k_is); (case n58 => decide); (case v58 => refine' MP.KVs.cons ?x59 ?r59; (case x59 => exact MP.KV1.str (by decide +kernel)); (case r59 => refine' MP.KVs.cons ?x60 ?r60; (case x60 => exact MP.KV1.str (by decide +kernel)); (case r60 => exact MP.KVs.nil)))); (case r57 => exact MP.RowsT.nil)))))))))))))))))
    (case tb_BOXES => refine' MP.TupIn.of ?l61 ?n61 ?v61; (case l61 => k_is); (case n61 => decide); (case v61 => refine' MP.KVs.cons ?x62 ?r62; (case x62 => exact MP.KV1.str (by decide +kernel)); (case r62 => refine' MP.KVs.cons ?x63 ?r63; (case x63 => exact MP.KV1.str (by decide +kernel)); (case r63 => refine' MP.KVs.cons ?x64 ?r64; (case x64 => exact MP.KV1.str (by decide +kernel)); (case r64 => refine' MP.KVs.cons ?x65 ?r65; (case x65 => exact MP.KV1.str (by decide +kernel)); (case r65 => refine' MP.KVs.cons ?x66 ?r66; (case x66 => exact MP.KV1.str (by decide +kernel)); (case r66 => refine' MP.KVs.cons ?x67 ?r67; (case x67 => exact MP.KV1.str (by decide +kernel)); (case r67 => refine' MP.KVs.cons ?x68 ?r68; (case x68 => exact MP.KV1.str (by decide +kernel)); (case r68 => refine' MP.KVs.cons ?x69 ?r69; (case x69 => exact MP.KV1.str (by decide +kernel)); (case r69 => refine' MP.KVs.cons ?x70 ?r70; (case x70 => exact MP.KV1.str (by decide +kernel)); (case r70 => refine' MP.KVs.cons ?x71 ?r71; (case x71 => exact MP.KV1.str (by decide +kernel)); (case r71 => refine' MP.KVs.cons ?x72 ?r72; (case x72 => exact MP.KV1.str (by decide +kernel)); (case r72 => refine' MP.KVs.cons ?x73 ?r73; (case x73 => exact MP.KV1.str (by decide +kernel)); (case r73 => exact MP.KVs.nil))))))))))))))
