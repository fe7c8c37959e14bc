import PyProof.Rows.All
import Wide.All
import OpenK.AllK
import Wide.FinOn
import HandS.ForMost
import HandS.ForExc
import HandS.CallSlots
import HandS.Wide
import HandS.Flow
import HandS.TupAny
import HandS.TupMul
import HandS.IsInst
import HandS.EndBits
import HandS.Zip
import HandS.NoneIn
import HandS.TupLe
import KE.KDictKeyed
import KE.KDictCopyH
import PyProof.ListMulRoad
import PyProof.FactsAll.tuple_2
import PyProof.EqAt
import PyProof.NeKinds
import HandS.Text
import HandS.Codes
import HandS.More
import HandS.Replace
import HandS.RaiseMore
import KE.GoesZip
import PyProof.Rows.SetFrom
import HandS.SetKeys
import HandS.SortInts
import PyProof.StrOps2
import KE.KEqDict
import KE.KDictList
import PyProof.StrWalks
import PyProof.CollectWalk
import PySem.Challenge.RW_samepaper_k47_what_is_a_term
set_option Elab.async false
set_option linter.all false
set_option maxRecDepth 100000
namespace MP
open PySem L2

structure KW where
  w : World
  K : PySem.W.Frag
instance : Coe KW PySem.W.Frag := ⟨KW.K⟩
abbrev kw (X : Cx) : KW := ⟨X.w, X.K⟩

inductive PV where
  | non
  | bl (b : Bool)
  | int (i : Int)
  | str (x : List Nat)
  | ty (n : String)
  | gl (a : Addr)
  | tup (xs : List PV)
  | lst (xs : List PV)
  | frz (xs : List PV)
  | loc (n : Nat)
mutual
def PV.beq : PV → PV → Bool
  | .non, .non => true
  | .bl a, .bl b => a == b
  | .int a, .int b => a == b
  | .str a, .str b => a == b
  | .ty a, .ty b => a == b
  | .gl a, .gl b => a == b
  | .tup a, .tup b => PV.beqs a b
  | .lst a, .lst b => PV.beqs a b
  | .frz a, .frz b => PV.beqs a b
  | .loc a, .loc b => a == b
  | _, _ => false
def PV.beqs : List PV → List PV → Bool
  | [], [] => true
  | a :: r, b :: t => PV.beq a b && PV.beqs r t
  | _, _ => false
end
mutual
theorem PV.beq_iff : ∀ (a b : PV), PV.beq a b = true ↔ a = b
  | .non, b => by cases b <;> simp [PV.beq]
  | .bl x, b => by cases b <;> simp [PV.beq]
  | .int x, b => by cases b <;> simp [PV.beq]
  | .str x, b => by cases b <;> simp [PV.beq]
  | .ty x, b => by cases b <;> simp [PV.beq]
  | .gl x, b => by cases b <;> simp [PV.beq]
  | .tup x, b => by cases b <;> simp [PV.beq, PV.beqs_iff x]
  | .lst x, b => by cases b <;> simp [PV.beq, PV.beqs_iff x]
  | .frz x, b => by cases b <;> simp [PV.beq, PV.beqs_iff x]
  | .loc x, b => by cases b <;> simp [PV.beq]
theorem PV.beqs_iff : ∀ (a b : List PV), PV.beqs a b = true ↔ a = b
  | [], b => by cases b <;> simp [PV.beqs]
  | x :: r, b => by
    cases b with
    | nil => simp [PV.beqs]
    | cons y t => simp [PV.beqs, PV.beq_iff x y, PV.beqs_iff r t]
end
instance : DecidableEq PV := fun a b => decidable_of_iff (PV.beq a b = true) (PV.beq_iff a b)
instance : Inhabited PV := ⟨.non⟩

inductive Cell where
  | lst (xs : List PV)
  | dct (kvs : List (PV × PV))
  | ins (C : String) (fs : List (String × PV))
  | dcl (kvs : List (PV × PV))
  | dcn (kvs : List (PV × PV))
  | lck (kvs : List (PV × PV))
abbrev Sto := List Cell
structure Exn where
  C : String
  fs : List (String × PV)
inductive Res (α : Type) where
  | ok (a : α) (st : Sto)
  | err (x : Exn) (st : Sto)
  | bad
abbrev M (α : Type) : Type := Sto → Res α
namespace M
variable {α β : Type}
def ret (a : α) : M α := fun st => .ok a st
def bind (m : M α) (f : α → M β) : M β := fun st => match m st with
  | .ok a st' => f a st'
  | .err x st' => .err x st'
  | .bad => .bad
def fail : M α := fun _ => .bad
def calm (m : M α) : M α := fun st => match m st with
  | .err _ _ => .bad
  | r => r
end M
theorem M.bind_ok {α β : Type} {m : M α} {f : α → M β} {st st' : Sto} {a : α} (h : m st = .ok a st') : M.bind m f st = f a st' := by
  unfold M.bind
  rw [h]
abbrev Rho := List (Option PV)
inductive Fl where
  | next (ρ : Rho)
  | ret (v : PV)
  | brk (ρ : Rho)
  | cont (ρ : Rho)
  | exc (x : Exn) (ρ : Rho)

structure Mu where
  l : List Addr
  b : List Addr
instance : Membership Addr Mu := ⟨fun μ a => a ∈ μ.l ∨ a ∈ μ.b⟩
theorem Mu.mem {μ : Mu} {a : Addr} : a ∈ μ ↔ a ∈ μ.l ∨ a ∈ μ.b := Iff.rfl
def Mu.add (μ : Mu) (p : Addr) : Mu := ⟨μ.l ++ [p], μ.b⟩
def KT (K : PySem.W.Frag) (a : Addr) (xs : List V) : Prop :=
  ∃ (o : Obj) (its : Array Value) (n : Nat), K.lookup a = some o ∧ o.cls = .type "tuple" ∧ o.data = .seq its n ∧ its.size ≤ sizeLine ∧ Vals xs its.toList
def KL (K : PySem.W.Frag) (a : Addr) (xs : List V) : Prop :=
  ∃ (o : Obj) (its : Array Value) (n : Nat), K.lookup a = some o ∧ o.cls = .type "list" ∧ o.dict = none ∧ o.data = .seq its n ∧ its.size ≤ sizeLine ∧ Vals xs its.toList
def TupAt (K : PySem.W.Frag) (H : Hp) (μ : Mu) (a : Addr) (vs : List V) : Prop := (H a = some (.tup vs) ∧ a ∉ μ) ∨ KT K a vs
def LstAt (H : Hp) (μ : Mu) (a : Addr) (vs : List V) : Prop := H a = some (.lst vs) ∧ a ∉ μ
def FrzAt (K : PySem.W.Frag) (H : Hp) (μ : Mu) (a : Addr) (vs : List V) : Prop := (Rd H a (.lst vs) ∧ a ∉ μ) ∨ KL K a vs
theorem TupAt.sq {K : PySem.W.Frag} {H : Hp} {μ : Mu} {a : Addr} {vs : List V} (h : TupAt K H μ a vs) : SqT K H a vs := by
  rcases h with ⟨h, _⟩ | h
  · exact .inl (.inl h)
  · exact .inr h
theorem LstAt.sq {K : PySem.W.Frag} {H : Hp} {μ : Mu} {a : Addr} {vs : List V} (h : LstAt H μ a vs) : SqL K H a vs := .inl (.inl h.1)
theorem FrzAt.sq {K : PySem.W.Frag} {H : Hp} {μ : Mu} {a : Addr} {vs : List V} (h : FrzAt K H μ a vs) : SqL K H a vs := by
  rcases h with ⟨h, _⟩ | h
  · exact .inl h
  · exact .inr h
mutual
def VR (K : PySem.W.Frag) (H : Hp) (μ : Mu) : PV → V → Prop
  | .non, v => v = .non
  | .bl b, v => v = .bl b
  | .int i, v => v = .int i
  | .str x, v => v = .str ⟨x.toArray⟩
  | .ty n, v => v = .ty n
  | .gl a, v => v = .ref a
  | .tup ps, v => ∃ a vs, v = .ref a ∧ TupAt K H μ a vs ∧ VRs K H μ ps vs
  | .lst ps, v => ∃ a vs, v = .ref a ∧ LstAt H μ a vs ∧ VRs K H μ ps vs
  | .frz ps, v => ∃ a vs, v = .ref a ∧ FrzAt K H μ a vs ∧ VRs K H μ ps vs
  | .loc n, v => ∃ a, v = .ref a ∧ μ.l[n]? = some a
def VRs (K : PySem.W.Frag) (H : Hp) (μ : Mu) : List PV → List V → Prop
  | [], vs => vs = []
  | p :: ps, vs => ∃ v r, vs = v :: r ∧ VR K H μ p v ∧ VRs K H μ ps r
end
structure Gr (μ : Mu) (H : Hp) (μ' : Mu) (H' : Hp) : Prop where
  pre : ∃ t, μ'.l = μ.l ++ t
  ban : ∀ a, a ∈ μ.b → a ∈ μ'.b
  bnew : ∀ a, a ∈ μ'.b → a ∈ μ.b ∨ H a = none
  new : ∀ a, a ∈ μ'.l → a ∈ μ.l ∨ H a = none
  keep : ∀ a o, H a = some o → a ∉ μ.l → H' a = some o
  fz : ∀ a o u, H a = some (.frz o u) → H' a = some (.frz o u)
theorem Gr.refl (μ : Mu) (H : Hp) : Gr μ H μ H := ⟨⟨[], by simp⟩, fun _ h => h, fun _ h => .inl h, fun _ h => .inl h, fun _ _ h _ => h, fun _ _ _ h => h⟩
theorem Gr.outl {μ μ' : Mu} {H H' : Hp} (g : Gr μ H μ' H') {a : Addr} {o : HO} (h : H a = some o) (n : a ∉ μ.l) : a ∉ μ'.l := fun m => by
  rcases g.new a m with z | z
  · exact n z
  · rw [h] at z; cases z
theorem Gr.out {μ μ' : Mu} {H H' : Hp} (g : Gr μ H μ' H') {a : Addr} {o : HO} (h : H a = some o) (n : a ∉ μ) : a ∉ μ' := fun m => by
  rcases m with m | m
  · exact g.outl h (fun z => n (.inl z)) m
  · rcases g.bnew a m with z | z
    · exact n (.inr z)
    · rw [h] at z; cases z
theorem Gr.back {μ μ' : Mu} {H H' : Hp} (g : Gr μ H μ' H') {a : Addr} (h : H' a = none) : a ∈ μ.l ∨ H a = none := by
  cases q : H a with
  | none => exact .inr rfl
  | some o =>
    by_cases n : a ∈ μ.l
    · exact .inl n
    · rw [g.keep a o q n] at h; cases h
theorem Gr.trans {μ μ1 μ2 : Mu} {H H1 H2 : Hp} (g : Gr μ H μ1 H1) (g' : Gr μ1 H1 μ2 H2) (hb : ∀ a, a ∈ μ2.b → a ∉ μ2.l) : Gr μ H μ2 H2 := by
  have sub : ∀ a, a ∈ μ.l → a ∈ μ2.l := fun a m => by
    obtain ⟨t, e⟩ := g.pre
    obtain ⟨u, e'⟩ := g'.pre
    rw [e', e]
    exact List.mem_append_left _ (List.mem_append_left _ m)
  refine ⟨?_, fun a m => g'.ban a (g.ban a m), fun a m => ?_, fun a m => ?_, fun a o h n => g'.keep a o (g.keep a o h n) (g.outl h n), fun a o u h => g'.fz a o u (g.fz a o u h)⟩
  · obtain ⟨t, e⟩ := g.pre
    obtain ⟨u, e'⟩ := g'.pre
    exact ⟨t ++ u, by rw [e', e, List.append_assoc]⟩
  · rcases g'.bnew a m with z | z
    · exact g.bnew a z
    · rcases g.back z with z | z
      · exact absurd (sub a z) (hb a m)
      · exact .inr z
  · rcases g'.new a m with z | z
    · exact g.new a z
    · exact g.back z
theorem Gr.get {μ μ' : Mu} {H H' : Hp} (g : Gr μ H μ' H') {n : Nat} {a : Addr} (h : μ.l[n]? = some a) : μ'.l[n]? = some a := by
  obtain ⟨t, e⟩ := g.pre
  rw [e]
  exact (List.getElem?_append_left (List.getElem?_eq_some_iff.mp h).1).trans h
def seqO : HO → Bool
  | .tup _ => true
  | .lst _ => true
  | .frz _ _ => true
  | _ => false
structure Gv (μ : Mu) (H : Hp) (μ' : Mu) (H' : Hp) : Prop where
  pre : ∃ t, μ'.l = μ.l ++ t
  keep : ∀ a o, H a = some o → seqO o = true → a ∉ μ → H' a = some o ∧ a ∉ μ'
theorem Gr.v {μ μ' : Mu} {H H' : Hp} (g : Gr μ H μ' H') : Gv μ H μ' H' := ⟨g.pre, fun a o h _ n => ⟨g.keep a o h (fun z => n (.inl z)), g.out h n⟩⟩
theorem Gv.get {μ μ' : Mu} {H H' : Hp} (g : Gv μ H μ' H') {n : Nat} {a : Addr} (h : μ.l[n]? = some a) : μ'.l[n]? = some a := by
  obtain ⟨t, e⟩ := g.pre
  rw [e]
  exact (List.getElem?_append_left (List.getElem?_eq_some_iff.mp h).1).trans h
mutual
theorem VR.monov {K : PySem.W.Frag} {H H' : Hp} {μ μ' : Mu} (g : Gv μ H μ' H') : ∀ (p : PV) (v : V), VR K H μ p v → VR K H' μ' p v
  | .non, _, h => h
  | .bl _, _, h => h
  | .int _, _, h => h
  | .str _, _, h => h
  | .ty _, _, h => h
  | .gl _, _, h => h
  | .tup ps, v, h => by
    obtain ⟨a, vs, e, t, r⟩ := (show ∃ a vs, v = .ref a ∧ TupAt K H μ a vs ∧ VRs K H μ ps vs from h)
    refine (show ∃ a vs, v = .ref a ∧ TupAt K H' μ' a vs ∧ VRs K H' μ' ps vs from ⟨a, vs, e, ?_, VRs.monov g ps vs r⟩)
    rcases t with ⟨t, n⟩ | t
    · exact .inl (g.keep a _ t rfl n)
    · exact .inr t
  | .lst ps, v, h => by
    obtain ⟨a, vs, e, t, r⟩ := (show ∃ a vs, v = .ref a ∧ LstAt H μ a vs ∧ VRs K H μ ps vs from h)
    exact (show ∃ a vs, v = .ref a ∧ LstAt H' μ' a vs ∧ VRs K H' μ' ps vs from ⟨a, vs, e, g.keep a _ t.1 rfl t.2, VRs.monov g ps vs r⟩)
  | .frz ps, v, h => by
    obtain ⟨a, vs, e, t, r⟩ := (show ∃ a vs, v = .ref a ∧ FrzAt K H μ a vs ∧ VRs K H μ ps vs from h)
    refine (show ∃ a vs, v = .ref a ∧ FrzAt K H' μ' a vs ∧ VRs K H' μ' ps vs from ⟨a, vs, e, ?_, VRs.monov g ps vs r⟩)
    rcases t with ⟨t | ⟨o, t⟩, n⟩ | t
    · exact .inl ⟨.inl (g.keep a _ t rfl n).1, (g.keep a _ t rfl n).2⟩
    · exact .inl ⟨.inr ⟨o, (g.keep a _ t rfl n).1⟩, (g.keep a _ t rfl n).2⟩
    · exact .inr t
  | .loc n, v, h => by
    obtain ⟨a, e, t⟩ := (show ∃ a, v = .ref a ∧ μ.l[n]? = some a from h)
    exact (show ∃ a, v = .ref a ∧ μ'.l[n]? = some a from ⟨a, e, g.get t⟩)
theorem VRs.monov {K : PySem.W.Frag} {H H' : Hp} {μ μ' : Mu} (g : Gv μ H μ' H') : ∀ (ps : List PV) (vs : List V), VRs K H μ ps vs → VRs K H' μ' ps vs
  | [], _, h => h
  | p :: ps, vs, h => by
    obtain ⟨v, r, e, h1, h2⟩ := (show ∃ v r, vs = v :: r ∧ VR K H μ p v ∧ VRs K H μ ps r from h)
    exact (show ∃ v r, vs = v :: r ∧ VR K H' μ' p v ∧ VRs K H' μ' ps r from ⟨v, r, e, VR.monov g p v h1, VRs.monov g ps r h2⟩)
end
theorem VR.mono {K : PySem.W.Frag} {H H' : Hp} {μ μ' : Mu} (g : Gr μ H μ' H') (p : PV) (v : V) (h : VR K H μ p v) : VR K H' μ' p v := VR.monov g.v p v h
theorem VRs.mono {K : PySem.W.Frag} {H H' : Hp} {μ μ' : Mu} (g : Gr μ H μ' H') (p : List PV) (v : List V) (h : VRs K H μ p v) : VRs K H' μ' p v := VRs.monov g.v p v h
section
variable {K : PySem.W.Frag} {H : Hp} {μ : Mu}
theorem VRs.length : ∀ {ps : List PV} {vs : List V}, VRs K H μ ps vs → ps.length = vs.length
  | [], vs, h => by have e : vs = [] := h; rw [e]; rfl
  | p :: ps, vs, h => by
    obtain ⟨v, r, e, _, h2⟩ := (show ∃ v r, vs = v :: r ∧ VR K H μ p v ∧ VRs K H μ ps r from h)
    rw [e, List.length_cons, List.length_cons, VRs.length h2]
theorem VRs.cons {p : PV} {ps : List PV} {v : V} {vs : List V} (h : VR K H μ p v) (t : VRs K H μ ps vs) : VRs K H μ (p :: ps) (v :: vs) :=
  (show ∃ w r, v :: vs = w :: r ∧ VR K H μ p w ∧ VRs K H μ ps r from ⟨v, vs, rfl, h, t⟩)
theorem VRs.nil : VRs K H μ [] [] := rfl
theorem VRs.append : ∀ {ps qs : List PV} {vs ws : List V}, VRs K H μ ps vs → VRs K H μ qs ws → VRs K H μ (ps ++ qs) (vs ++ ws)
  | [], _, vs, _, h, t => by have e : vs = [] := h; rw [e]; exact t
  | p :: ps, qs, vs, ws, h, t => by
    obtain ⟨v, r, e, h1, h2⟩ := (show ∃ v r, vs = v :: r ∧ VR K H μ p v ∧ VRs K H μ ps r from h)
    rw [e]
    exact VRs.cons h1 (VRs.append h2 t)
theorem VRs.get : ∀ {ps : List PV} {vs : List V} {i : Nat} {p : PV}, VRs K H μ ps vs → ps[i]? = some p → ∃ v, vs[i]? = some v ∧ VR K H μ p v
  | [], _, _, _, _, e => by simp at e
  | q :: ps, vs, 0, p, h, e => by
    obtain ⟨v, r, ev, h1, _⟩ := (show ∃ v r, vs = v :: r ∧ VR K H μ q v ∧ VRs K H μ ps r from h)
    simp at e
    subst e
    exact ⟨v, by rw [ev]; rfl, h1⟩
  | q :: ps, vs, i + 1, p, h, e => by
    obtain ⟨v, r, ev, _, h2⟩ := (show ∃ v r, vs = v :: r ∧ VR K H μ q v ∧ VRs K H μ ps r from h)
    obtain ⟨w, e1, e2⟩ := VRs.get (i := i) (p := p) h2 (by simpa using e)
    exact ⟨w, by rw [ev]; simpa using e1, e2⟩
theorem VRs.set {p : PV} {v : V} (r : VR K H μ p v) : ∀ {ps : List PV} {vs : List V} (i : Nat), VRs K H μ ps vs → VRs K H μ (ps.set i p) (vs.set i v)
  | [], vs, _, h => by have e : vs = [] := h; rw [e]; exact rfl
  | q :: ps, vs, 0, h => by
    obtain ⟨w, t, ev, _, h2⟩ := (show ∃ v r, vs = v :: r ∧ VR K H μ q v ∧ VRs K H μ ps r from h)
    rw [ev]
    exact VRs.cons r h2
  | q :: ps, vs, i + 1, h => by
    obtain ⟨w, t, ev, h1, h2⟩ := (show ∃ v r, vs = v :: r ∧ VR K H μ q v ∧ VRs K H μ ps r from h)
    rw [ev]
    exact VRs.cons h1 (VRs.set r i h2)
theorem VRs.take : ∀ {ps : List PV} {vs : List V} (n : Nat), VRs K H μ ps vs → VRs K H μ (ps.take n) (vs.take n)
  | _, _, 0, _ => rfl
  | [], vs, n + 1, h => by have e : vs = [] := h; rw [e]; exact rfl
  | q :: ps, vs, n + 1, h => by
    obtain ⟨w, t, ev, h1, h2⟩ := (show ∃ v r, vs = v :: r ∧ VR K H μ q v ∧ VRs K H μ ps r from h)
    rw [ev]
    exact VRs.cons h1 (VRs.take n h2)
theorem VRs.drop : ∀ {ps : List PV} {vs : List V} (n : Nat), VRs K H μ ps vs → VRs K H μ (ps.drop n) (vs.drop n)
  | _, _, 0, h => h
  | [], vs, n + 1, h => by have e : vs = [] := h; rw [e]; exact rfl
  | q :: ps, vs, n + 1, h => by
    obtain ⟨w, t, ev, h1, h2⟩ := (show ∃ v r, vs = v :: r ∧ VR K H μ q v ∧ VRs K H μ ps r from h)
    rw [ev]
    exact VRs.drop n h2
theorem VRs.nil_iff {ps : List PV} {vs : List V} (h : VRs K H μ ps vs) : vs = [] ↔ ps = [] := by
  have e := VRs.length h
  constructor
  · intro z; rw [z] at e; exact List.eq_nil_of_length_eq_zero e
  · intro z; rw [z] at e; exact List.eq_nil_of_length_eq_zero e.symm
theorem VRs.ints : ∀ {ns : List Int}, VRs K H μ (ns.map PV.int) (ns.map V.int)
  | [] => rfl
  | n :: ns => VRs.cons rfl (VRs.ints (ns := ns))
end

def keyOf : PV → Option Key
  | .int i => some (.inl i)
  | .str x => some (.inr ⟨x.toArray⟩)
  | _ => none
theorem keyOf_inj {p q : PV} {k : Key} (h : keyOf p = some k) (h' : keyOf q = some k) : p = q := by
  cases p <;> cases q <;> simp [keyOf] at h h' <;> subst h <;> simp_all
def KRs (K : PySem.W.Frag) (H : Hp) (μ : Mu) : List (PV × PV) → List (Key × V) → Prop
  | [], kv => kv = []
  | p :: r, kv => ∃ k v t, kv = (k, v) :: t ∧ keyOf p.1 = some k ∧ VR K H μ p.2 v ∧ KRs K H μ r t
def ClsIn (K : PySem.W.Frag) (c : String) (C : Addr) : Prop := PySem.W.nsIn K mainGlobals (Str.ofString c) = some (some (.ref C))
theorem ClsIn.one {K : PySem.W.Frag} {c : String} {C C' : Addr} (h : ClsIn K c C) (h' : ClsIn K c C') : C = C' := by
  have e := h.symm.trans h'
  injection e with e; injection e with e; injection e
def FRs (K : PySem.W.Frag) (H : Hp) (μ : Mu) : List (String × PV) → List (Str × V) → Prop
  | [], fv => fv = []
  | p :: r, fv => ∃ v t, fv = (Str.ofString p.1, v) :: t ∧ VR K H μ p.2 v ∧ FRs K H μ r t
def lfOf : PV → Option Leaf
  | .non => some .none
  | .int i => some (.num i)
  | .str x => some (.text ⟨x.toArray⟩)
  | _ => none
theorem lfOf_inj {p q : PV} {k : Leaf} (h : lfOf p = some k) (h' : lfOf q = some k) : p = q := by
  cases p <;> cases q <;> simp [lfOf] at h h' <;> subst h <;> simp_all
mutual
def nkOf : PV → Option NestedKey
  | .non => some .none
  | .int i => some (.num i)
  | .str x => some (.text ⟨x.toArray⟩)
  | .tup xs => match nksOf xs with
    | some ks => some (.tup ks)
    | none => none
  | .bl _ => none
  | .ty _ => none
  | .gl _ => none
  | .lst _ => none
  | .frz _ => none
  | .loc _ => none
def nksOf : List PV → Option (List NestedKey)
  | [] => some []
  | x :: r => match nkOf x with
    | some k => match nksOf r with
      | some ks => some (k :: ks)
      | none => none
    | none => none
end
theorem nkOf_tup {xs : List PV} {k : NestedKey} (h : nkOf (.tup xs) = some k) : ∃ ks, nksOf xs = some ks ∧ k = .tup ks := by
  rw [nkOf] at h
  cases q : nksOf xs with
  | none => rw [q] at h; cases h
  | some ks => rw [q] at h; cases h; exact ⟨ks, rfl, rfl⟩
theorem nksOf_cons {x : PV} {r : List PV} {ks : List NestedKey} (h : nksOf (x :: r) = some ks) : ∃ k t, nkOf x = some k ∧ nksOf r = some t ∧ ks = k :: t := by
  rw [nksOf] at h
  cases q : nkOf x with
  | none => rw [q] at h; cases h
  | some k =>
    rw [q] at h
    cases q' : nksOf r with
    | none => rw [q'] at h; cases h
    | some t => rw [q'] at h; cases h; exact ⟨k, t, rfl, rfl, rfl⟩
mutual
theorem nkOf_inj : ∀ (p q : PV) (k : NestedKey), nkOf p = some k → nkOf q = some k → p = q
  | .non, q, k, h, h' => by
    cases (show some NestedKey.none = some k by rw [← h]; rfl)
    cases q with
    | non => rfl
    | tup xs => obtain ⟨_, _, e⟩ := nkOf_tup h'; cases e
    | int i => cases h'
    | str i => cases h'
    | _ => cases h'
  | .int i, q, k, h, h' => by
    cases (show some (NestedKey.num i) = some k by rw [← h]; rfl)
    cases q with
    | non => cases h'
    | tup xs => obtain ⟨_, _, e⟩ := nkOf_tup h'; cases e
    | int j => cases h'; rfl
    | str i => cases h'
    | _ => cases h'
  | .str x, q, k, h, h' => by
    cases (show some (NestedKey.text ⟨x.toArray⟩) = some k by rw [← h]; rfl)
    cases q with
    | non => cases h'
    | tup xs => obtain ⟨_, _, e⟩ := nkOf_tup h'; cases e
    | int j => cases h'
    | str y =>
      have e : (some (NestedKey.text ⟨y.toArray⟩)) = some (NestedKey.text ⟨x.toArray⟩) := by rw [← h']; rfl
      injection e with e; injection e with e; injection e with e; injection e with e
      rw [e]
    | _ => cases h'
  | .tup xs, q, k, h, h' => by
    obtain ⟨ks, e1, e2⟩ := nkOf_tup h
    subst e2
    cases q with
    | non => cases h'
    | tup ys =>
      obtain ⟨ks', e3, e4⟩ := nkOf_tup h'
      cases e4
      rw [nksOf_inj xs ys ks e1 e3]
    | int j => cases h'
    | str y => cases h'
    | _ => cases h'
  | .bl _, _, _, h, _ => by cases h
  | .ty _, _, _, h, _ => by cases h
  | .gl _, _, _, h, _ => by cases h
  | .lst _, _, _, h, _ => by cases h
  | .frz _, _, _, h, _ => by cases h
  | .loc _, _, _, h, _ => by cases h
theorem nksOf_inj : ∀ (p q : List PV) (k : List NestedKey), nksOf p = some k → nksOf q = some k → p = q
  | [], q, k, h, h' => by
    cases (show some ([] : List NestedKey) = some k by rw [← h]; rfl)
    cases q with
    | nil => rfl
    | cons y t => obtain ⟨_, _, _, _, e⟩ := nksOf_cons h'; cases e
  | x :: r, q, k, h, h' => by
    obtain ⟨k1, t1, e1, e2, e3⟩ := nksOf_cons h
    subst e3
    cases q with
    | nil => cases (show some ([] : List NestedKey) = some _ by rw [← h']; rfl)
    | cons y t =>
      obtain ⟨k2, t2, e4, e5, e6⟩ := nksOf_cons h'
      cases e6
      rw [nkOf_inj x y k1 e1 e4, nksOf_inj r t t1 e2 e5]
end
def nkT : PV → Option NestedKey
  | .tup xs => match nksOf xs with
    | some ks => if NestedKey.depthAll ks + 1 ≤ 8 then some (.tup ks) else none
    | none => none
  | _ => none
theorem nkT_of {p : PV} {k : NestedKey} (h : nkT p = some k) : nkOf p = some k ∧ k.depth ≤ 8 := by
  cases p with
  | tup xs =>
    unfold nkT at h
    dsimp only at h
    cases q : nksOf xs with
    | none => rw [q] at h; cases h
    | some ks =>
      rw [q] at h
      dsimp only at h
      by_cases d : NestedKey.depthAll ks + 1 ≤ 8
      · rw [if_pos d] at h
        cases h
        exact ⟨by rw [nkOf, q], by rw [NestedKey.depth]; exact d⟩
      · rw [if_neg d] at h; cases h
  | _ => cases h
theorem nkT_inj {p q : PV} {k : NestedKey} (h : nkT p = some k) (h' : nkT q = some k) : p = q := nkOf_inj p q k (nkT_of h).1 (nkT_of h').1
def entL (w : World) (e : DictEntry) (x : Leaf × Value) : Prop := Leaf.isOf x.1 e.key = true ∧ e.hash = x.1.key.hash w ∧ e.val = x.2
def leafD (w : World) (a : Addr) (xs : List (Leaf × Value)) : HO := .ext fun h => ∃ o es ep, h.get? a = some o ∧ o.ExactDict ∧ o.data = .dict es ep ∧ Paired (entL w) es.toList xs
def entN (w : World) (x : NestedKey × Addr × Value) : DictEntry := ⟨x.1.hash w, .ref x.2.1, x.2.2⟩
def nestD (w : World) (a : Addr) (xs : List (NestedKey × Addr × Value)) : HO := .ext fun h => ∃ o es ep, h.get? a = some o ∧ o.ExactDict ∧ o.data = .dict es ep ∧ es.toList = xs.map (entN w)
def LRs (K : PySem.W.Frag) (H : Hp) (μ : Mu) : List (PV × PV) → List (Leaf × Value) → Prop := Paired fun (p : PV × PV) (x : Leaf × Value) => lfOf p.1 = some x.1 ∧ ∃ v, VR K H μ p.2 v ∧ RelV v x.2
def NRs (K : PySem.W.Frag) (H : Hp) (μ : Mu) : List (PV × PV) → List (NestedKey × Addr × Value) → Prop := Paired fun (p : PV × PV) (x : NestedKey × Addr × Value) => nkT p.1 = some x.1 ∧ VR K H μ p.1 (.ref x.2.1) ∧ ∃ v, VR K H μ p.2 v ∧ RelV v x.2.2
theorem LRs.mono {K : PySem.W.Frag} {H H' : Hp} {μ μ' : Mu} (g : Gv μ H μ' H') {ps : List (PV × PV)} {xs : List (Leaf × Value)} (r : LRs K H μ ps xs) : LRs K H' μ' ps xs :=
  Paired.mapP r fun _ _ ⟨h1, v, h2, h3⟩ => ⟨h1, v, VR.monov g _ _ h2, h3⟩
theorem NRs.mono {K : PySem.W.Frag} {H H' : Hp} {μ μ' : Mu} (g : Gv μ H μ' H') {ps : List (PV × PV)} {xs : List (NestedKey × Addr × Value)} (r : NRs K H μ ps xs) : NRs K H' μ' ps xs :=
  Paired.mapP r fun _ _ ⟨h1, h0, v, h2, h3⟩ => ⟨h1, VR.monov g _ _ h0, v, VR.monov g _ _ h2, h3⟩
def CR (K : KW) (H : Hp) (μ : Mu) (a : Addr) : Cell → Prop
  | .lst xs => ∃ vs, H a = some (.lst vs) ∧ VRs K H μ xs vs
  | .dct kvs => ∃ kv, H a = some (.dK kv) ∧ KRs K H μ kvs kv
  | .ins c fs => ∃ C dx fv, ClsIn K c C ∧ H a = some (.ins C dx fv) ∧ FRs K H μ fs fv
  | .dcl kvs => ∃ xs, H a = some (leafD K.w a xs) ∧ (a == sysModules) = false ∧ kvs.length ≤ sizeLine ∧ LRs K H μ kvs xs ∧ (xs.map (·.1)).Nodup
  | .dcn kvs => ∃ xs, H a = some (nestD K.w a xs) ∧ (a == sysModules) = false ∧ kvs.length ≤ sizeLine ∧ NRs K H μ kvs xs ∧ (xs.map (·.1)).Nodup
  | .lck kvs => ∃ o kv, H a = some (.frz o (.dK kv)) ∧ KRs K H μ kvs kv
structure SR (K : KW) (μ : Mu) (st : Sto) (H : Hp) : Prop where
  len : μ.l.length = st.length
  nd : μ.l.Nodup
  ban : ∀ a, a ∈ μ.b → a ∉ μ.l ∧ ∃ o, H a = some o
  cell : ∀ (n : Nat) (c : Cell) (a : Addr), st[n]? = some c → μ.l[n]? = some a → CR K H μ a c
theorem KRs.mono {K : PySem.W.Frag} {H H' : Hp} {μ μ' : Mu} (g : Gv μ H μ' H') : ∀ (ps : List (PV × PV)) (kv : List (Key × V)), KRs K H μ ps kv → KRs K H' μ' ps kv
  | [], _, h => h
  | p :: ps, kv, h => by
    obtain ⟨k, v, t, e, hk, h1, h2⟩ := h
    exact ⟨k, v, t, e, hk, VR.monov g _ _ h1, KRs.mono g ps t h2⟩
theorem FRs.mono {K : PySem.W.Frag} {H H' : Hp} {μ μ' : Mu} (g : Gv μ H μ' H') : ∀ (ps : List (String × PV)) (fv : List (Str × V)), FRs K H μ ps fv → FRs K H' μ' ps fv
  | [], _, h => h
  | p :: ps, fv, h => by
    obtain ⟨v, t, e, h1, h2⟩ := h
    exact ⟨v, t, e, VR.monov g _ _ h1, FRs.mono g ps t h2⟩
theorem CR.monov {K : KW} {H H' : Hp} {μ μ' : Mu} (g : Gv μ H μ' H') {a : Addr} (ha : H' a = H a) : ∀ {c : Cell}, CR K H μ a c → CR K H' μ' a c
  | .lst xs, h => by
    obtain ⟨vs, e, r⟩ := h
    exact ⟨vs, by rw [ha]; exact e, VRs.monov g _ _ r⟩
  | .dct kvs, h => by
    obtain ⟨kv, e, r⟩ := h
    exact ⟨kv, by rw [ha]; exact e, KRs.mono g _ _ r⟩
  | .ins c fs, h => by
    obtain ⟨C, dx, fv, hc, e, r⟩ := h
    exact ⟨C, dx, fv, hc, by rw [ha]; exact e, FRs.mono g _ _ r⟩
  | .dcl kvs, h => by
    obtain ⟨xs, e, hs, hz, r, nd⟩ := h
    exact ⟨xs, by rw [ha]; exact e, hs, hz, r.mono g, nd⟩
  | .dcn kvs, h => by
    obtain ⟨xs, e, hs, hz, r, nd⟩ := h
    exact ⟨xs, by rw [ha]; exact e, hs, hz, r.mono g, nd⟩
  | .lck kvs, h => by
    obtain ⟨o, kv, e, r⟩ := h
    exact ⟨o, kv, by rw [ha]; exact e, KRs.mono g _ _ r⟩
theorem CR.mono {K : KW} {H H' : Hp} {μ μ' : Mu} (g : Gr μ H μ' H') {a : Addr} (ha : H' a = H a) {c : Cell} (h : CR K H μ a c) : CR K H' μ' a c := CR.monov g.v ha h
theorem CR.has {K : KW} {H : Hp} {μ : Mu} {a : Addr} : ∀ {c : Cell}, CR K H μ a c → ∃ o, H a = some o
  | .lst xs, ⟨vs, e, _⟩ => ⟨_, e⟩
  | .dct kvs, ⟨kv, e, _⟩ => ⟨_, e⟩
  | .ins c fs, ⟨C, dx, fv, _, e, _⟩ => ⟨_, e⟩
  | .dcl kvs, ⟨xs, e, _⟩ => ⟨_, e⟩
  | .dcn kvs, ⟨xs, e, _⟩ => ⟨_, e⟩
  | .lck kvs, ⟨_, _, e, _⟩ => ⟨_, e⟩
section
variable {K : KW} {H : Hp} {μ : Mu} {st : Sto}
theorem SR.has (s : SR K μ st H) {a : Addr} (h : a ∈ μ.l) : ∃ o, H a = some o := by
  obtain ⟨n, hn, e⟩ := List.getElem_of_mem h
  have h1 : μ.l[n]? = some a := List.getElem?_eq_some_iff.mpr ⟨hn, e⟩
  have h2 : n < st.length := by rw [← s.len]; exact hn
  exact (s.cell n st[n] a (List.getElem?_eq_some_iff.mpr ⟨h2, rfl⟩) h1).has
theorem SR.free (s : SR K μ st H) {p : Addr} (h : H p = none) : p ∉ μ := fun m => by
  rcases m with m | m
  · obtain ⟨o, e⟩ := s.has m
    rw [h] at e; cases e
  · obtain ⟨o, e⟩ := (s.ban p m).2
    rw [h] at e; cases e
theorem gr_new {p : Addr} {o : HO} (h : H p = none) : Gr μ H μ (upd H p o) := ⟨⟨[], by simp⟩, fun _ m => m, fun _ m => .inl m, fun _ m => .inl m, fun a u e _ => by rw [upd_ne (ne_of_none e h)]; exact e, fun a o' u e => by rw [upd_ne (ne_of_none e h)]; exact e⟩
theorem SR.new (s : SR K μ st H) {p : Addr} {o : HO} (h : H p = none) : SR K μ st (upd H p o) :=
  ⟨s.len, s.nd, fun a m => ⟨(s.ban a m).1, let ⟨u, e⟩ := (s.ban a m).2; ⟨u, by rw [upd_ne (ne_of_none e h)]; exact e⟩⟩, fun n c a e1 e2 => (s.cell n c a e1 e2).mono (gr_new h) (upd_ne (fun z => by
    obtain ⟨u, e⟩ := (s.cell n c a e1 e2).has
    rw [z, h] at e; cases e))⟩
theorem gr_alloc {p : Addr} {o : HO} (h : H p = none) : Gr μ H (μ.add p) (upd H p o) := ⟨⟨[p], rfl⟩, fun _ m => m, fun _ m => .inl m, fun a m => by
    rcases List.mem_append.mp m with z | z
    · exact .inl z
    · rw [List.mem_singleton.mp z]; exact .inr h, fun a u e _ => by rw [upd_ne (ne_of_none e h)]; exact e, fun a o' u e => by rw [upd_ne (ne_of_none e h)]; exact e⟩
theorem gv_alloc {p : Addr} {o : HO} (h : ∀ u, H p = some u → seqO u = false) : Gv μ H (μ.add p) (upd H p o) := ⟨⟨[p], rfl⟩, fun a u e hu n => by
  have ne : a ≠ p := fun z => by
    subst z
    rw [h u e] at hu
    cases hu
  refine ⟨by rw [upd_ne ne]; exact e, fun m => ?_⟩
  rcases m with m | m
  · rcases List.mem_append.mp m with z | z
    · exact n (.inl z)
    · exact ne (List.mem_singleton.mp z)
  · exact n (.inr m)⟩
theorem SR.track (s : SR K μ st H) {p : Addr} {o : HO} {c : Cell} (np : p ∉ μ) (h : ∀ u, H p = some u → seqO u = false) (hc : CR K (upd H p o) (μ.add p) p c) : SR K (μ.add p) (st ++ [c]) (upd H p o) := by
  refine ⟨by simp [Mu.add, s.len], ?_, fun a m => ?_, fun n d a e1 e2 => ?_⟩
  · refine List.nodup_append.mpr ⟨s.nd, by simp, fun a ha b hb => ?_⟩
    rw [List.mem_singleton.mp hb]
    rintro rfl
    exact np (.inl ha)
  · have ne : a ≠ p := fun z => np (.inr (by rw [← z]; exact m))
    obtain ⟨n1, u, e⟩ := s.ban a m
    refine ⟨fun z => ?_, u, by rw [upd_ne ne]; exact e⟩
    rcases List.mem_append.mp z with z | z
    · exact n1 z
    · exact ne (List.mem_singleton.mp z)
  · have e2 : (μ.l ++ [p])[n]? = some a := e2
    by_cases hn : n < st.length
    · rw [List.getElem?_append_left hn] at e1
      rw [List.getElem?_append_left (by rw [s.len]; exact hn)] at e2
      exact (s.cell n d a e1 e2).monov (gv_alloc h) (upd_ne (fun z => by
        rw [z] at e2
        exact np (.inl (List.mem_of_getElem? e2))))
    · rw [List.getElem?_append_right (by omega)] at e1
      rw [List.getElem?_append_right (by rw [s.len]; omega), s.len] at e2
      have e0 : n - st.length = 0 := by
        have := (List.getElem?_eq_some_iff.mp e1).1
        simp at this
        omega
      rw [e0] at e1 e2
      simp at e1 e2
      subst e1 e2
      exact hc
theorem SR.alloc (s : SR K μ st H) {p : Addr} {o : HO} {c : Cell} (h : H p = none) (hc : CR K (upd H p o) (μ.add p) p c) : SR K (μ.add p) (st ++ [c]) (upd H p o) :=
  s.track (s.free h) (fun u e => by rw [h] at e; cases e) hc
theorem SR.addr (s : SR K μ st H) {n : Nat} {c : Cell} (h : st[n]? = some c) : ∃ a, μ.l[n]? = some a ∧ CR K H μ a c := by
  have hn : n < μ.l.length := by rw [s.len]; exact (List.getElem?_eq_some_iff.mp h).1
  exact ⟨μ.l[n], List.getElem?_eq_some_iff.mpr ⟨hn, rfl⟩, s.cell n c _ h (List.getElem?_eq_some_iff.mpr ⟨hn, rfl⟩)⟩
def nofz : HO → Bool
  | .frz _ _ => false
  | _ => true
theorem gr_put {a : Addr} {o : HO} {n : Nat} (h : μ.l[n]? = some a) {u0 : HO} (h0 : H a = some u0) (nf : nofz u0 = true) : Gr μ H μ (upd H a o) := ⟨⟨[], by simp⟩, fun _ m => m, fun _ m => .inl m, fun _ m => .inl m, fun b u e nb => by
  rw [upd_ne (fun z => nb (by rw [z]; exact List.mem_of_getElem? h))]; exact e, fun b o' u e => by
  rw [upd_ne (fun z => by rw [z, h0] at e; cases e; cases nf)]; exact e⟩
theorem gv_put {a : Addr} {o : HO} {n : Nat} (h : μ.l[n]? = some a) : Gv μ H μ (upd H a o) := ⟨⟨[], by simp⟩, fun b u e _ nb => ⟨by
  rw [upd_ne (fun z => nb (.inl (by rw [z]; exact List.mem_of_getElem? h)))]; exact e, nb⟩⟩
theorem SR.put (s : SR K μ st H) {a : Addr} {o : HO} {n : Nat} {c : Cell} (h : μ.l[n]? = some a) (hc : CR K (upd H a o) μ a c) : SR K μ (st.set n c) (upd H a o) := by
  refine ⟨by simp [s.len], s.nd, fun b m => ?_, fun m d b e1 e2 => ?_⟩
  · obtain ⟨n1, u, e⟩ := s.ban b m
    exact ⟨n1, u, by rw [upd_ne (fun z => n1 (by rw [z]; exact List.mem_of_getElem? h))]; exact e⟩
  · by_cases hm : n = m
    · subst hm
      rw [h] at e2
      cases e2
      have hn : n < st.length := by rw [← s.len]; exact (List.getElem?_eq_some_iff.mp h).1
      rw [List.getElem?_set_self hn] at e1
      cases e1
      exact hc
    · rw [List.getElem?_set_ne hm] at e1
      refine (s.cell m d b e1 e2).monov (gv_put h) (upd_ne fun z => hm ?_)
      subst z
      obtain ⟨h1, e1'⟩ := List.getElem?_eq_some_iff.mp h
      obtain ⟨h2, e2'⟩ := List.getElem?_eq_some_iff.mp e2
      exact (List.getElem_inj s.nd).mp (e1'.trans e2'.symm)
end

def XR (K : PySem.W.Frag) (H : Hp) (μ : Mu) (x : Exn) (d : Addr) : Prop := ∃ fv, H d = some (.xd fv) ∧ FRs K H μ x.fs fv
def PostG {α β : Type} (K : KW) (E : XK) (R : Hp → Mu → α → β → Prop) (Q : β → Hp → Prop) (μ : Mu) (H : Hp) : Res α → Prop
  | .ok a st => ∀ μ' H' b, Gr μ H μ' H' → SR K μ' st H' → R H' μ' a b → Q b H'
  | .err x st => ∀ μ' H' d, Gr μ H μ' H' → SR K μ' st H' → XR K H' μ' x d → ∀ C, ClsIn K x.C C → E (.ref C) (some d) H'
  | .bad => False
section
variable {K : KW} {E : XK} {α β γ δ : Type} {R : Hp → Mu → α → β → Prop} {R' : Hp → Mu → γ → δ → Prop} {Q Q' : β → Hp → Prop} {μ μ' : Mu} {H H' : Hp} {st : Sto}
theorem PostG.mono {r : Res α} (h : PostG K E R Q μ H r) (i : ∀ b H', Q b H' → Q' b H') : PostG K E R Q' μ H r := by
  cases r with
  | ok a st => exact fun μ' H' b g s x => i _ _ (h μ' H' b g s x)
  | err x st => exact h
  | bad => exact h
theorem PostG.grow {r : Res α} (h : PostG K E R Q μ H r) (g : Gr μ H μ' H') : PostG K E R Q μ' H' r := by
  cases r with
  | ok a st => exact fun μ2 H2 b g2 s x => h μ2 H2 b (g.trans g2 fun a m => (s.ban a m).1) s x
  | err x st => exact fun μ2 H2 d g2 s x => h μ2 H2 d (g.trans g2 fun a m => (s.ban a m).1) s x
  | bad => exact h
theorem PostG.bind {m : M γ} {f : γ → M α} (h : PostG K E R Q μ H (M.bind m f st)) :
    PostG K E R' (fun b H' => ∃ μ' st' a, Gr μ H μ' H' ∧ SR K μ' st' H' ∧ R' H' μ' a b ∧ PostG K E R Q μ' H' (f a st')) μ H (m st) := by
  unfold M.bind at h
  cases e : m st with
  | ok a st' =>
    rw [e] at h
    exact fun μ' H' b g s r => ⟨μ', st', a, g, s, r, h.grow g⟩
  | err x st' =>
    rw [e] at h
    exact h
  | bad =>
    rw [e] at h
    exact h.elim
theorem PostG.bindAt {m : M γ} {f : γ → M α} (h : PostG K E R Q μ H (M.bind m f st)) (g0 : Gr μ H μ' H') :
    PostG K E R' (fun b H2 => ∃ μ2 st' a, Gr μ' H' μ2 H2 ∧ SR K μ2 st' H2 ∧ R' H2 μ2 a b ∧ PostG K E R Q μ H (f a st')) μ' H' (m st) := by
  unfold M.bind at h
  cases e : m st with
  | ok a st' =>
    rw [e] at h
    exact fun μ2 H2 b g s r => ⟨μ2, st', a, g, s, r, h⟩
  | err x st' =>
    rw [e] at h
    exact PostG.grow (r := .err x st') h g0
  | bad =>
    rw [e] at h
    exact h.elim
theorem PostG.calm {m : M α} (h : PostG K E R Q μ H (M.calm m st)) {E' : XK} : PostG K E' R Q μ H (m st) := by
  unfold M.calm at h
  cases e : m st with
  | ok a st' => rw [e] at h; exact h
  | err x st' => rw [e] at h; exact h.elim
  | bad => rw [e] at h; exact h.elim
end
structure ER (K : PySem.W.Frag) (H : Hp) (μ : Mu) (ρ : Rho) (σ : St) : Prop where
  len : ρ.length = σ.length
  get : ∀ (i : Nat) (p : PV), ρ[i]? = some (some p) → ∃ v, σ[i]? = some (some v) ∧ VR K H μ p v
theorem ER.mono {K : PySem.W.Frag} {H H' : Hp} {μ μ' : Mu} {ρ : Rho} {σ : St} (g : Gr μ H μ' H') (e : ER K H μ ρ σ) : ER K H' μ' ρ σ :=
  ⟨e.len, fun i p h => let ⟨v, h1, h2⟩ := e.get i p h; ⟨v, h1, VR.mono g p v h2⟩⟩
theorem ER.set {K : PySem.W.Frag} {H : Hp} {μ : Mu} {ρ : Rho} {σ : St} (e : ER K H μ ρ σ) {p : PV} {v : V} (r : VR K H μ p v) (i : Nat) : ER K H μ (ρ.set i (some p)) (σ.set i (some v)) := by
  refine ⟨by simp [e.len], fun j q h => ?_⟩
  by_cases hj : i = j
  · subst hj
    by_cases hi : i < ρ.length
    · rw [List.getElem?_set_self hi] at h
      cases h
      exact ⟨v, List.getElem?_set_self (by rw [← e.len]; exact hi), r⟩
    · rw [List.getElem?_eq_none (by simpa using hi)] at h
      cases h
  · rw [List.getElem?_set_ne hj] at h
    obtain ⟨w, h1, h2⟩ := e.get j q h
    exact ⟨w, by rw [List.getElem?_set_ne hj]; exact h1, h2⟩
theorem ER.unset {K : PySem.W.Frag} {H : Hp} {μ : Mu} {ρ : Rho} {σ : St} (e : ER K H μ ρ σ) (i : Nat) : ER K H μ (ρ.set i none) (σ.set i none) := by
  refine ⟨by simp [e.len], fun j q h => ?_⟩
  by_cases hj : i = j
  · subst hj
    by_cases hi : i < ρ.length
    · rw [List.getElem?_set_self hi] at h
      cases h
    · rw [List.getElem?_eq_none (by simpa using hi)] at h
      cases h
  · rw [List.getElem?_set_ne hj] at h
    obtain ⟨w, h1, h2⟩ := e.get j q h
    exact ⟨w, by rw [List.getElem?_set_ne hj]; exact h1, h2⟩
def PostS (K : KW) (W : WX) (D : Ends) (μ : Mu) (H : Hp) : Res Fl → Prop
  | .ok (.next ρ) st => ∀ μ' H' σ', Gr μ H μ' H' → SR K μ' st H' → ER K H' μ' ρ σ' → D.nx σ' H'
  | .ok (.ret p) st => ∀ μ' H' v, Gr μ H μ' H' → SR K μ' st H' → VR K H' μ' p v → D.rt v H'
  | .ok (.brk ρ) st => ∀ μ' H' σ', Gr μ H μ' H' → SR K μ' st H' → ER K H' μ' ρ σ' → D.bk σ' H'
  | .ok (.cont ρ) st => ∀ μ' H' σ', Gr μ H μ' H' → SR K μ' st H' → ER K H' μ' ρ σ' → D.ct σ' H'
  | .ok (.exc x ρ) st => ∀ μ' H' σ' d, Gr μ H μ' H' → SR K μ' st H' → ER K H' μ' ρ σ' → XR K H' μ' x d → ∀ C, ClsIn K x.C C → W (.ref C) (some d) σ' H'
  | .err _ _ => False
  | .bad => False
theorem PostS.grow {K : KW} {W : WX} {D : Ends} {μ μ' : Mu} {H H' : Hp} {r : Res Fl} (h : PostS K W D μ H r) (g : Gr μ H μ' H') : PostS K W D μ' H' r := by
  cases r with
  | ok f st =>
    cases f with
    | next ρ => exact fun μ2 H2 σ g2 s e => h μ2 H2 σ (g.trans g2 fun a m => (s.ban a m).1) s e
    | ret p => exact fun μ2 H2 v g2 s e => h μ2 H2 v (g.trans g2 fun a m => (s.ban a m).1) s e
    | brk ρ => exact fun μ2 H2 σ g2 s e => h μ2 H2 σ (g.trans g2 fun a m => (s.ban a m).1) s e
    | cont ρ => exact fun μ2 H2 σ g2 s e => h μ2 H2 σ (g.trans g2 fun a m => (s.ban a m).1) s e
    | exc x ρ => exact fun μ2 H2 σ d g2 s e z => h μ2 H2 σ d (g.trans g2 fun a m => (s.ban a m).1) s e z
  | err x st => exact h
  | bad => exact h

def tM (K : KW) (W : WX) (m : Rho → M PV) : TE := fun σ H Q => ∃ μ st ρ, ER K H μ ρ σ ∧ SR K μ st H ∧ PostG K (fun c d H' => W c d σ H') (VR K) Q μ H (m ρ st)
def tMT (K : KW) (W : WX) (m : Rho → M Bool) : TT := fun σ H Q => ∃ μ st ρ, ER K H μ ρ σ ∧ SR K μ st H ∧ PostG K (fun c d H' => W c d σ H') (fun _ _ a b => a = b) Q μ H (m ρ st)
def tMA (K : KW) (W : WX) (m : Rho → M (List PV)) : TA := fun σ H Q => ∃ μ st ρ, ER K H μ ρ σ ∧ SR K μ st H ∧ PostG K (fun c d H' => W c d σ H') (VRs K) Q μ H (m ρ st)
def RF (K : PySem.W.Frag) (H : Hp) (μ : Mu) (ps : List PV) (v : V) : Prop := VR K H μ (.lst ps) v
def tMS (K : KW) (W : WX) (m : Rho → M Fl) : TS := fun D σ H => ∃ μ st ρ, ER K H μ ρ σ ∧ SR K μ st H ∧ PostS K W D μ H (m ρ st)
def ME (X : Cx) (W : WX) (e : Expr) (m : Rho → M PV) : Prop := PE X e (tM (kw X) W m)
def MT (X : Cx) (W : WX) (e : Expr) (m : Rho → M Bool) : Prop := PT X e (tMT (kw X) W m)
def MW (X : Cx) (W : WX) (e : Expr) (m : Rho → M Bool) : Prop := PW X e (tMT (kw X) W m)
def MA (X : Cx) (W : WX) (es : List Expr) (m : Rho → M (List PV)) : Prop := PA X es (tMA (kw X) W m)
def MS (X : Cx) (W : WX) (s : Stmt) (m : Rho → M Fl) : Prop := PS X s (tMS (kw X) W m)
def MSs (X : Cx) (W : WX) (s : List Stmt) (m : Rho → M Fl) : Prop := PSs X s (tMS (kw X) W m)
section
variable {X : Cx}
theorem PE.imp {e : Expr} {t t' : TE} (h : PE X e t) (i : ∀ σ H Q, t' σ H Q → t σ H Q) : PE X e t' := ⟨fun pins s σ H Q I q => h.run pins s σ H Q I (i σ H Q q)⟩
theorem PT.imp {e : Expr} {t t' : TT} (h : PT X e t) (i : ∀ σ H Q, t' σ H Q → t σ H Q) : PT X e t' := ⟨fun pins s σ H Q I q => h.run pins s σ H Q I (i σ H Q q)⟩
theorem PW.imp {e : Expr} {t t' : TT} (h : PW X e t) (i : ∀ σ H Q, t' σ H Q → t σ H Q) : PW X e t' := ⟨fun wh pins s σ H Q I q => h.run wh pins s σ H Q I (i σ H Q q)⟩
theorem PA.imp {es : List Expr} {t t' : TA} (h : PA X es t) (i : ∀ σ H Q, t' σ H Q → t σ H Q) : PA X es t' := ⟨fun pos pins s σ H Q I q => h.run pos pins s σ H Q I (i σ H Q q)⟩
theorem PS.imp {st : Stmt} {t t' : TS} (h : PS X st t) (i : ∀ D σ H, t' D σ H → t D σ H) : PS X st t' := ⟨fun pins s σ H D I q => h.run pins s σ H D I (i D σ H q)⟩
theorem PSs.imp {st : List Stmt} {t t' : TS} (h : PSs X st t) (i : ∀ D σ H, t' D σ H → t D σ H) : PSs X st t' := ⟨fun pins s σ H D I q => h.run pins s σ H D I (i D σ H q)⟩
end
end MP

set_option maxRecDepth 100000
namespace MP
open PySem L2
section
variable {K : KW} {W : WX} {α β : Type}
def onErr (ρ : Rho) (m : M α) (k : α → M Fl) : M Fl := fun st => match m st with
  | .ok a st' => k a st'
  | .err x st' => .ok (.exc x ρ) st'
  | .bad => .bad
theorem PostS.onErr {R : Hp → Mu → α → β → Prop} {D : Ends} {μ : Mu} {H : Hp} {ρ : Rho} {σ : St} {m : M α} {k : α → M Fl} {st : Sto} (h : PostS K W D μ H (onErr ρ m k st)) (er : ER K H μ ρ σ) :
    PostG K (fun c d H' => W c d σ H') R (fun b H' => ∃ μ' st' a, Gr μ H μ' H' ∧ SR K μ' st' H' ∧ R H' μ' a b ∧ PostS K W D μ' H' (k a st')) μ H (m st) := by
  unfold MP.onErr at h
  cases e : m st with
  | ok a st' =>
    rw [e] at h
    exact fun μ' H' b g s r => ⟨μ', st', a, g, s, r, h.grow g⟩
  | err x st' =>
    rw [e] at h
    exact fun μ' H' d g s r => h μ' H' σ d g s (er.mono g) r
  | bad =>
    rw [e] at h
    exact h.elim
end

section
variable {X : Cx} {W : WX} {e a b : Expr} {pos : Pos}
theorem gl_of {x : Str} (h : X.env.kindOf x = some .globalImplicit) : Gl X x := h
def eVar (i : Nat) : Rho → M PV := fun ρ => match ρ[i]? with
  | some (some p) => M.ret p
  | _ => M.fail
def eC (p : PV) : Rho → M PV := fun _ => M.ret p
theorem me_var (i : Nat) {x : Str} (hN : X.N[i]? = some x := by kernel_rfl) (hv : Vis X.env.scope x := by first | exact Or.inl rfl | exact Or.inr (Or.inl rfl) | exact Or.inr (Or.inr rfl)) (hd : (x == ("__debug__" : Str)) = false := by kernel_rfl)
    (hcd : (x == ("__classdict__" : Str)) = false := by kernel_rfl) : ME X W (.Name x pos) (eVar i) := PE.imp (pv (X := X) (pos := pos) i hN hv hd hcd) fun σ H Q ⟨μ, st, ρ, er, sr, h⟩ => by
  unfold eVar at h
  cases e : ρ[i]? with
  | none => rw [e] at h; exact h.elim
  | some o =>
    rw [e] at h
    cases o with
    | none => exact h.elim
    | some p =>
      obtain ⟨v, h1, h2⟩ := er.get i p e
      exact ⟨v, h1, h μ H v (Gr.refl _ _) sr h2⟩
theorem me_c {p : PV} {v : V} (h : PE X e (tC v)) (r : ∀ H μ, VR X.K H μ p v) : ME X W e (eC p) := PE.imp h fun σ H Q ⟨μ, st, ρ, er, sr, q⟩ => q μ H v (Gr.refl _ _) sr (r H μ)
theorem me_int {i : Int} {j : Nat} : ME X W (.Constant (.int i) j pos) (eC (.int i)) := me_c pe_int fun _ _ => rfl
theorem me_bl {b : Bool} {j : Nat} : ME X W (.Constant (.bool b) j pos) (eC (.bl b)) := me_c pe_bl fun _ _ => rfl
theorem me_non {j : Nat} : ME X W (.Constant .none j pos) (eC .non) := me_c pe_non fun _ _ => rfl
theorem me_str {x : Str} {j : Nat} (l : List Nat) (h : x = ⟨l.toArray⟩) : ME X W (.Constant (.str x) j pos) (eC (.str l)) := me_c pe_str fun _ _ => by rw [h]; exact rfl
theorem me_globI {x : Str} {i : Int} {t : Tok} (hg : Gl X x) (hm : X.mg x = some (.int i t)) (hd : (x == ("__debug__" : Str)) = false := by kernel_rfl) : ME X W (.Name x pos) (eC (.int i)) :=
  me_c (pe_glob (v := .int i) hg hm ⟨t, rfl⟩ hd) fun _ _ => rfl
theorem me_globS {x : Str} {l : List Nat} {t : Tok} (hg : Gl X x) (hm : X.mg x = some (.str ⟨l.toArray⟩ t)) (hd : (x == ("__debug__" : Str)) = false := by kernel_rfl) : ME X W (.Name x pos) (eC (.str l)) :=
  me_c (pe_glob (v := .str ⟨l.toArray⟩) hg hm ⟨t, rfl⟩ hd) fun _ _ => rfl
theorem me_globR {x : Str} {a : Addr} (hg : Gl X x) (hm : X.mg x = some (.ref a)) (hd : (x == ("__debug__" : Str)) = false := by kernel_rfl) : ME X W (.Name x pos) (eC (.gl a)) :=
  me_c (pe_glob (v := .ref a) hg hm rfl hd) fun _ _ => rfl
theorem me_globT {x : Str} {a : Addr} {ps : List PV} {vs : List V} (hg : Gl X x) (hm : X.mg x = some (.ref a)) (hk : KT X.K a vs) (r : ∀ H μ, VRs X.K H μ ps vs) (hd : (x == ("__debug__" : Str)) = false := by kernel_rfl) : ME X W (.Name x pos) (eC (.tup ps)) :=
  me_c (pe_glob (v := .ref a) hg hm rfl hd) fun H μ => (show ∃ a' vs', V.ref a = .ref a' ∧ TupAt X.K H μ a' vs' ∧ VRs X.K H μ ps vs' from ⟨a, vs, rfl, .inr hk, r H μ⟩)
theorem me_ty {x : Str} {T : String} (hg : Gl X x) (hm : X.mg x = none) (hv : bootBuiltins x = some (.type T)) (hn : x ≠ "__name__" := by decide +kernel) (hd : (x == ("__debug__" : Str)) = false := by kernel_rfl) : ME X W (.Name x pos) (eC (.ty T)) :=
  me_c (pe_bltn (v := .ty T) hg hm hv rfl hn hd) fun _ _ => rfl

def T2 (K : KW) (r : R2) (g : PV → PV → M PV) : Prop :=
  ∀ (μ : Mu) (st : Sto) (H : Hp) (x y : PV) (u v : V) (E : XK) (Q : VK), SR K μ st H → VR K H μ x u → VR K H μ y v → PostG K E (VR K) Q μ H (g x y st) → r u v H Q
def T1 (K : KW) (r : V → Hp → VK → Prop) (g : PV → M PV) : Prop :=
  ∀ (μ : Mu) (st : Sto) (H : Hp) (x : PV) (u : V) (E : XK) (Q : VK), SR K μ st H → VR K H μ x u → PostG K E (VR K) Q μ H (g x st) → r u H Q
def TL (K : KW) (r : List V → Hp → VK → Prop) (g : List PV → M PV) : Prop :=
  ∀ (μ : Mu) (st : Sto) (H : Hp) (xs : List PV) (us : List V) (E : XK) (Q : VK), SR K μ st H → VRs K H μ xs us → PostG K E (VR K) Q μ H (g xs st) → r us H Q
def eBin (g : PV → PV → M PV) (ma mb : Rho → M PV) : Rho → M PV := fun ρ => M.bind (ma ρ) fun x => M.bind (mb ρ) fun y => g x y
def eUn (g : PV → M PV) (ma : Rho → M PV) : Rho → M PV := fun ρ => M.bind (ma ρ) g
theorem two_imp {ma mb : Rho → M PV} {g : PV → PV → M PV} {r : R2} (t : T2 (kw X) r g) : ∀ σ H Q, tM (kw X) W (eBin g ma mb) σ H Q → tOp r (tM (kw X) W ma) (tM (kw X) W mb) σ H Q := fun σ H Q ⟨μ, st, ρ, er, sr, h⟩ =>
  ⟨μ, st, ρ, er, sr, (PostG.bind h).mono fun u H1 ⟨μ1, st1, x, g1, s1, rx, h1⟩ => ⟨μ1, st1, ρ, er.mono g1, s1, (PostG.bind h1).mono fun v H2 ⟨μ2, st2, y, g2, s2, ry, h2⟩ => t μ2 st2 H2 x y u v _ Q s2 (VR.mono g2 x u rx) ry h2⟩⟩
theorem me_bin {op : Operator} {r : R2} {g : PV → PV → M PV} {ma mb : Rho → M PV} (ho : OpR X (binaryOp op) r) (t : T2 (kw X) r g) (ha : ME X W a ma) (hb : ME X W b mb) : ME X W (.BinOp a op b pos) (eBin g ma mb) :=
  PE.imp (pe_op ho ha hb) (two_imp t)
theorem me_cmp {op : CmpOp} {r : R2} {g : PV → PV → M PV} {ma mb : Rho → M PV} (ho : OpR X (compareOp op) r) (t : T2 (kw X) r g) (ha : ME X W a ma) (hb : ME X W b mb) (hm : behindInMarks op b = false) : ME X W (.Compare a [op] [b] pos) (eBin g ma mb) :=
  PE.imp (pe_cmpR ho ha hb hm) (two_imp t)
theorem me_un {op : UnaryOp} {r : V → Hp → VK → Prop} {g : PV → M PV} {ma : Rho → M PV} (ho : UnR X (unaryOp op) r) (t : T1 (kw X) r g) (ha : ME X W a ma) : ME X W (.UnaryOp op a pos) (eUn g ma) :=
  PE.imp (pe_un ho ha) fun σ H Q ⟨μ, st, ρ, er, sr, h⟩ => ⟨μ, st, ρ, er, sr, (PostG.bind h).mono fun u H1 ⟨μ1, st1, x, g1, s1, rx, h1⟩ => t μ1 st1 H1 x u _ Q s1 rx h1⟩
theorem me_ix {r : R2} {g : PV → PV → M PV} {ma mb : Rho → M PV} (ho : IxR X r) (t : T2 (kw X) r g) (ha : ME X W a ma) (hb : ME X W b mb) (hs : PlainIx b) : ME X W (.Subscript a b pos) (eBin g ma mb) :=
  PE.imp (pe_ix ho ha hb hs) (two_imp t)

def asB : PV → M Bool
  | .bl b => M.ret b
  | _ => M.fail
def eB (m : Rho → M PV) : Rho → M Bool := fun ρ => M.bind (m ρ) asB
theorem asB_post {K : KW} {E : XK} {Q : Bool → Hp → Prop} {μ : Mu} {H : Hp} {st : Sto} {p : PV} {v : V} (sr : SR K μ st H) (r : VR K H μ p v) (h : PostG K E (fun _ _ (a : Bool) b => a = b) Q μ H (asB p st)) : ∃ k, v = .bl k ∧ Q k H := by
  cases p with
  | bl b => exact ⟨b, r, h μ H b (Gr.refl _ _) sr rfl⟩
  | _ => exact h.elim
theorem test_imp {m : Rho → M PV} : ∀ σ H Q, tMT (kw X) W (eB m) σ H Q → tTest (tM (kw X) W m) σ H Q := fun σ H Q ⟨μ, st, ρ, er, sr, h⟩ =>
  ⟨μ, st, ρ, er, sr, (PostG.bind h).mono fun u H1 ⟨μ1, st1, x, g1, s1, rx, h1⟩ => asB_post s1 rx h1⟩
theorem mt_cmp {op : CmpOp} {r : R2} {g : PV → PV → M PV} {ma mb : Rho → M PV} (ho : OpR X (compareOp op) r) (t : T2 (kw X) r g) (ha : ME X W a ma) (hb : ME X W b mb) (hm : behindInMarks op b = false) : MT X W (.Compare a [op] [b] pos) (eB (eBin g ma mb)) :=
  PT.imp (pt_cmpR ho ha hb hm) fun σ H Q h => by
    have q := test_imp (X := X) (W := W) (m := eBin g ma mb) σ H Q h
    exact two_imp t σ H _ q
theorem mt_val {m : Rho → M PV} (h : ME X W e m) (he : ∀ whole, isTrue e X.env whole = (do let v ← whole; standAt e.pos; holding [v] (truthy v)) := by intro _; rfl) : MT X W e (eB m) :=
  PT.imp (pt_val h he) fun σ H Q h => test_imp (X := X) (W := W) (m := m) σ H Q h
variable {tA tB' : Rho → M Bool} {rest : List Expr}
def tAndM (t u : Rho → M Bool) : Rho → M Bool := fun ρ => M.bind (t ρ) fun c => if c = true then u ρ else M.ret false
def tOrM (t u : Rho → M Bool) : Rho → M Bool := fun ρ => M.bind (t ρ) fun c => if c = true then M.ret true else u ρ
def tNotM (t : Rho → M Bool) : Rho → M Bool := fun ρ => M.bind (t ρ) fun c => M.ret (!c)
theorem mw_and1 (ha : MT X W a tA) : MW X W (.BoolOp .And [a] pos) tA := pw_and1 ha
theorem mw_or1 (ha : MT X W a tA) : MW X W (.BoolOp .Or [a] pos) tA := pw_or1 ha
theorem mw_and (ha : MT X W a tA) (hb : MW X W (.BoolOp .And (b :: rest) pos) tB') : MW X W (.BoolOp .And (a :: b :: rest) pos) (tAndM tA tB') :=
  PW.imp (pw_and ha hb) fun σ H Q ⟨μ, st, ρ, er, sr, h⟩ => ⟨μ, st, ρ, er, sr, (PostG.bind h).mono fun c H1 ⟨μ1, st1, c', g1, s1, ec, h1⟩ => by
    subst ec
    cases c' with
    | true => rw [if_pos rfl] at h1 ⊢; exact ⟨μ1, st1, ρ, er.mono g1, s1, h1⟩
    | false => rw [if_neg Bool.false_ne_true] at h1 ⊢; exact h1 μ1 H1 false (Gr.refl _ _) s1 rfl⟩
theorem mw_or (ha : MT X W a tA) (hb : MW X W (.BoolOp .Or (b :: rest) pos) tB') : MW X W (.BoolOp .Or (a :: b :: rest) pos) (tOrM tA tB') :=
  PW.imp (pw_or ha hb) fun σ H Q ⟨μ, st, ρ, er, sr, h⟩ => ⟨μ, st, ρ, er, sr, (PostG.bind h).mono fun c H1 ⟨μ1, st1, c', g1, s1, ec, h1⟩ => by
    subst ec
    cases c' with
    | true => rw [if_pos rfl] at h1 ⊢; exact h1 μ1 H1 true (Gr.refl _ _) s1 rfl
    | false => rw [if_neg Bool.false_ne_true] at h1 ⊢; exact ⟨μ1, st1, ρ, er.mono g1, s1, h1⟩⟩
theorem mt_of (h : MW X W e tA) : MT X W e tA := PW.pt h
theorem mt_not (ha : MT X W a tA) : MT X W (.UnaryOp .Not a pos) (tNotM tA) :=
  PT.imp (pt_not ha) fun σ H Q ⟨μ, st, ρ, er, sr, h⟩ => ⟨μ, st, ρ, er, sr, (PostG.bind h).mono fun c H1 ⟨μ1, st1, c', g1, s1, ec, h1⟩ => by
    subst ec
    exact h1 μ1 H1 _ (Gr.refl _ _) s1 rfl⟩
def eAndV (ma mb : Rho → M PV) : Rho → M PV := fun ρ => M.bind (ma ρ) fun x => M.bind (asB x) fun c => if c = true then mb ρ else M.ret (.bl false)
def eOrV (ma mb : Rho → M PV) : Rho → M PV := fun ρ => M.bind (ma ρ) fun x => M.bind (asB x) fun c => if c = true then M.ret (.bl true) else mb ρ
def eNotV (ma : Rho → M PV) : Rho → M PV := fun ρ => M.bind (ma ρ) fun x => M.bind (asB x) fun c => M.ret (.bl (!c))
theorem asB_bind {α β : Type} {K : KW} {E : XK} {R : Hp → Mu → α → β → Prop} {Q : β → Hp → Prop} {μ : Mu} {H : Hp} {st : Sto} {p : PV} {v : V} {f : Bool → M α} (r : VR K H μ p v) (h : PostG K E R Q μ H (M.bind (asB p) f st)) :
    ∃ k, v = .bl k ∧ PostG K E R Q μ H (f k st) := by
  cases p with
  | bl b => exact ⟨b, r, h⟩
  | _ => exact h.elim
theorem me_one {op : BoolOp} {m : Rho → M PV} (h : ME X W a m) : ME X W (.BoolOp op [a] pos) m := pe_one h
theorem me_and {ma mb : Rho → M PV} (ha : ME X W a ma) (hb : ME X W (.BoolOp .And (b :: rest) pos) mb) : ME X W (.BoolOp .And (a :: b :: rest) pos) (eAndV ma mb) :=
  PE.imp (pe_and ha hb) fun σ H Q ⟨μ, st, ρ, er, sr, h⟩ => ⟨μ, st, ρ, er, sr, (PostG.bind h).mono fun u H1 ⟨μ1, st1, x, g1, s1, rx, h1⟩ => by
    obtain ⟨k, e, h2⟩ := asB_bind rx h1
    refine ⟨k, e, ?_⟩
    cases k with
    | true => rw [if_pos rfl] at h2 ⊢; exact ⟨μ1, st1, ρ, er.mono g1, s1, h2⟩
    | false => rw [if_neg Bool.false_ne_true] at h2 ⊢; exact h2 μ1 H1 _ (Gr.refl _ _) s1 rfl⟩
theorem me_or {ma mb : Rho → M PV} (ha : ME X W a ma) (hb : ME X W (.BoolOp .Or (b :: rest) pos) mb) : ME X W (.BoolOp .Or (a :: b :: rest) pos) (eOrV ma mb) :=
  PE.imp (pe_or ha hb) fun σ H Q ⟨μ, st, ρ, er, sr, h⟩ => ⟨μ, st, ρ, er, sr, (PostG.bind h).mono fun u H1 ⟨μ1, st1, x, g1, s1, rx, h1⟩ => by
    obtain ⟨k, e, h2⟩ := asB_bind rx h1
    refine ⟨k, e, ?_⟩
    cases k with
    | true => rw [if_pos rfl] at h2 ⊢; exact h2 μ1 H1 _ (Gr.refl _ _) s1 rfl
    | false => rw [if_neg Bool.false_ne_true] at h2 ⊢; exact ⟨μ1, st1, ρ, er.mono g1, s1, h2⟩⟩
theorem me_not {ma : Rho → M PV} (ha : ME X W a ma) : ME X W (.UnaryOp .Not a pos) (eNotV ma) :=
  PE.imp (pe_not ha) fun σ H Q ⟨μ, st, ρ, er, sr, h⟩ => ⟨μ, st, ρ, er, sr, (PostG.bind h).mono fun u H1 ⟨μ1, st1, x, g1, s1, rx, h1⟩ => by
    obtain ⟨k, e, h2⟩ := asB_bind rx h1
    exact ⟨k, e, h2 μ1 H1 _ (Gr.refl _ _) s1 rfl⟩⟩
def eIf (t : Rho → M Bool) (ma mb : Rho → M PV) : Rho → M PV := fun ρ => M.bind (t ρ) fun c => if c = true then ma ρ else mb ρ
theorem me_ifExp {c : Expr} {t : Rho → M Bool} {ma mb : Rho → M PV} (hc : MT X W c t) (ha : ME X W a ma) (hb : ME X W b mb) : ME X W (.IfExp c a b pos) (eIf t ma mb) :=
  PE.imp (pe_ifExp hc ha hb) fun σ H Q ⟨μ, st, ρ, er, sr, h⟩ => ⟨μ, st, ρ, er, sr, (PostG.bind h).mono fun c H1 ⟨μ1, st1, c', g1, s1, ec, h1⟩ => by
    subst ec
    cases c' with
    | true => rw [if_pos rfl] at h1 ⊢; exact ⟨μ1, st1, ρ, er.mono g1, s1, h1⟩
    | false => rw [if_neg Bool.false_ne_true] at h1 ⊢; exact ⟨μ1, st1, ρ, er.mono g1, s1, h1⟩⟩

def aNil : Rho → M (List PV) := fun _ => M.ret []
def aCons (m : Rho → M PV) (r : Rho → M (List PV)) : Rho → M (List PV) := fun ρ => M.bind (m ρ) fun x => M.bind (r ρ) fun xs => M.ret (x :: xs)
theorem ma_nil : MA X W [] aNil := PA.imp pa_nil fun σ H Q ⟨μ, st, ρ, er, sr, h⟩ => h μ H [] (Gr.refl _ _) sr rfl
theorem ma_cons {es : List Expr} {m : Rho → M PV} {r : Rho → M (List PV)} (ha : ME X W e m) (hr : MA X W es r) (hs : starEach (e :: es) X.env = (false, eval e X.env) :: starEach es X.env := by kernel_rfl) : MA X W (e :: es) (aCons m r) :=
  PA.imp (pa_cons ha hr hs) fun σ H Q ⟨μ, st, ρ, er, sr, h⟩ => ⟨μ, st, ρ, er, sr, (PostG.bind h).mono fun u H1 ⟨μ1, st1, x, g1, s1, rx, h1⟩ =>
    ⟨μ1, st1, ρ, er.mono g1, s1, (PostG.bind h1).mono fun us H2 ⟨μ2, st2, xs, g2, s2, rxs, h2⟩ => h2 μ2 H2 _ (Gr.refl _ _) s2 (VRs.cons (VR.mono g2 x u rx) rxs)⟩⟩
def spM (K : KW) (m : List PV → M PV) (n : Nat) : Sp := fun vs H Q E => ∃ μ st ps, SR K μ st H ∧ VRs K H μ ps vs ∧ ps.length = n ∧ PostG K E (VR K) Q μ H (m ps st)
def eCall (f : List PV → M PV) (m : Rho → M (List PV)) : Rho → M PV := fun ρ => M.bind (m ρ) f
def aLen (n : Nat) (m : Rho → M (List PV)) : Prop := ∀ ρ st xs st', m ρ st = .ok xs st' → xs.length = n
theorem aLen_nil : aLen 0 aNil := fun ρ st xs st' h => by cases h; rfl
theorem aLen_cons {n : Nat} {m : Rho → M PV} {r : Rho → M (List PV)} (h : aLen n r) : aLen (n + 1) (aCons m r) := fun ρ st xs st' e => by
  unfold aCons M.bind at e
  cases e1 : m ρ st with
  | ok a s1 =>
    rw [e1] at e
    dsimp only at e
    cases e2 : r ρ s1 with
    | ok b s2 =>
      rw [e2] at e
      cases e
      rw [List.length_cons, h ρ s1 b _ e2]
    | err x s2 => rw [e2] at e; cases e
    | bad => rw [e2] at e; cases e
  | err x s1 => rw [e1] at e; cases e
  | bad => rw [e1] at e; cases e
theorem PostG.lens {K : KW} {E : XK} {Q : List V → Hp → Prop} {μ : Mu} {H : Hp} {n : Nat} {m : Rho → M (List PV)} {ρ : Rho} {st : Sto} (hl : aLen n m) (h : PostG K E (fun H μ (ps : List PV) vs => VRs K H μ ps vs ∧ ps.length = n) Q μ H (m ρ st)) :
    PostG K E (VRs K) Q μ H (m ρ st) := by
  cases e : m ρ st with
  | ok a s' => rw [e] at h; exact fun μ' H' b g s r => h μ' H' b g s ⟨r, hl ρ st a s' e⟩
  | err x s' => rw [e] at h; exact h
  | bad => rw [e] at h; exact h
theorem me_call {x : Str} {f : Addr} {fd : FuncData} {ps : List Str} {k n : Nat} {p : Pos} {es : List Expr} {ma : Rho → M (List PV)} {mf : List PV → M PV} (F : FnOk X.prog X.w X.K X.mg X.base (L2.CX X.prog X.w) k f fd ps (spM (kw X) mf n)) (hr : Room k X.A) (hg : Gl X x) (hm : X.mg x = some (.ref f))
    (hk : PySem.W.keepIn X.K (.ref f) = true) (hb : Binds X.K fd ps []) (tk : Takes X W) (ha : MA X W (e :: es) ma) (hl : aLen n ma) (hdb : (x == ("__debug__" : Str)) = false := by kernel_rfl)
    (he : starEach (e :: es) X.env = (false, eval e X.env) :: starEach es X.env := by kernel_rfl) (hpl : (backTo pos (starEach es X.env)).any (·.1) = false := by kernel_rfl) :
    ME X W (.Call (.Name x p) (e :: es) [] pos) (eCall mf ma) :=
  PE.imp (pe_callSD (dvs := []) (ds := []) (E := WE W) F hr hg hm hk hb .nil (fun σ => passAt tk σ) ha hdb he hpl) fun σ H Q ⟨μ, st, ρ, er, sr, h⟩ =>
    ⟨μ, st, ρ, er, sr, PostG.lens hl ((PostG.bind h).mono fun us H1 ⟨μ1, st1, xs, g1, s1, ⟨rxs, hn⟩, h1⟩ => ⟨μ1, st1, xs, s1, by rw [List.append_nil]; exact rxs, hn, h1⟩)⟩
theorem me_callB {x : Str} {id : String} {r : List V → Hp → VK → Prop} {g : List PV → M PV} {p : Pos} {es : List Expr} {ma : Rho → M (List PV)} (hc : CallR X (.builtin id) r) (t : TL (kw X) r g) (hg : Gl X x) (hm : X.mg x = none) (hv : bootBuiltins x = some (.builtin id)) (ha : MA X W (e :: es) ma)
    (hn : x ≠ "__name__" := by decide +kernel) (hdb : (x == ("__debug__" : Str)) = false := by kernel_rfl) (he : starEach (e :: es) X.env = (false, eval e X.env) :: starEach es X.env := by kernel_rfl) (hpl : (backTo pos (starEach es X.env)).any (·.1) = false := by kernel_rfl) :
    ME X W (.Call (.Name x p) (e :: es) [] pos) (eCall g ma) :=
  PE.imp (pe_callB hc hg hm hv ha hn hdb he hpl) fun σ H Q ⟨μ, st, ρ, er, sr, h⟩ =>
    ⟨μ, st, ρ, er, sr, (PostG.bind h).mono fun us H1 ⟨μ1, st1, xs, g1, s1, rxs, h1⟩ => t μ1 st1 H1 xs us _ Q s1 rxs h1⟩
theorem me_callTy {x : Str} {T : String} {r : List V → Hp → VK → Prop} {g : List PV → M PV} {p : Pos} {es : List Expr} {ma : Rho → M (List PV)} (hc : CallR X (.type T) r) (t : TL (kw X) r g) (hg : Gl X x) (hm : X.mg x = none) (hv : bootBuiltins x = some (.type T)) (ha : MA X W (e :: es) ma)
    (hn : x ≠ "__name__" := by decide +kernel) (hdb : (x == ("__debug__" : Str)) = false := by kernel_rfl) (he : starEach (e :: es) X.env = (false, eval e X.env) :: starEach es X.env := by kernel_rfl) (hpl : (backTo pos (starEach es X.env)).any (·.1) = false := by kernel_rfl) :
    ME X W (.Call (.Name x p) (e :: es) [] pos) (eCall g ma) :=
  PE.imp (pe_callTy hc hg hm hv ha hn hdb he hpl) fun σ H Q ⟨μ, st, ρ, er, sr, h⟩ =>
    ⟨μ, st, ρ, er, sr, (PostG.bind h).mono fun us H1 ⟨μ1, st1, xs, g1, s1, rxs, h1⟩ => t μ1 st1 H1 xs us _ Q s1 rxs h1⟩
end

section
variable {X : Cx} {W : WX} {e a b : Expr} {pos : Pos} {s : Stmt} {rest : List Stmt} {m m' : Rho → M Fl} {me : Rho → M PV}
def sNext : Rho → M Fl := fun ρ => M.ret (.next ρ)
def sSeq (m m' : Rho → M Fl) : Rho → M Fl := fun ρ st => match m ρ st with
  | .ok (.next ρ') st' => m' ρ' st'
  | r => r
theorem mss_nil : MSs X W [] sNext := PSs.imp pss_nil fun D σ H ⟨μ, st, ρ, er, sr, h⟩ => h μ H σ (Gr.refl _ _) sr er
theorem mss_cons (h1 : MS X W s m) (h2 : MSs X W rest m') : MSs X W (s :: rest) (sSeq m m') :=
  PSs.imp (pss_cons h1 h2) fun D σ H ⟨μ, st, ρ, er, sr, h⟩ => ⟨μ, st, ρ, er, sr, by
    unfold sSeq at h
    cases q : m ρ st with
    | ok f st' =>
      rw [q] at h
      cases f with
      | next ρ' => exact fun μ' H' σ' g s' e' => ⟨μ', st', ρ', e', s', PostS.grow h g⟩
      | ret p => exact h
      | brk ρ' => exact h
      | cont ρ' => exact h
      | exc x ρ' => exact h
    | err x st' => rw [q] at h; exact h
    | bad => rw [q] at h; exact h⟩
theorem mss_one (h1 : MS X W s m) : MSs X W [s] m := PSs.imp (pss_one h1) fun _ _ _ h => h
def sPass : Rho → M Fl := fun ρ => M.ret (.next ρ)
def sBreak : Rho → M Fl := fun ρ => M.ret (.brk ρ)
def sCont : Rho → M Fl := fun ρ => M.ret (.cont ρ)
theorem ms_pass : MS X W (.Pass pos) sPass := PS.imp ps_pass fun D σ H ⟨μ, st, ρ, er, sr, h⟩ => h μ H σ (Gr.refl _ _) sr er
theorem ms_break : MS X W (.Break pos) sBreak := PS.imp ps_break fun D σ H ⟨μ, st, ρ, er, sr, h⟩ => h μ H σ (Gr.refl _ _) sr er
theorem ms_continue : MS X W (.Continue pos) sCont := PS.imp ps_continue fun D σ H ⟨μ, st, ρ, er, sr, h⟩ => h μ H σ (Gr.refl _ _) sr er
def sDrop (me : Rho → M PV) : Rho → M Fl := fun ρ => onErr ρ (me ρ) fun _ => M.ret (.next ρ)
theorem ms_expr (he : ME X W e me) (hs : swapsWith e none pos.line X.env = pure false := by kernel_rfl) : MS X W (.Expr e pos) (sDrop me) :=
  PS.imp (ps_expr he hs) fun D σ H ⟨μ, st, ρ, er, sr, h⟩ => ⟨μ, st, ρ, er, sr, (PostS.onErr h er).mono fun u H1 ⟨μ1, st1, x, g1, s1, rx, h1⟩ => h1 μ1 H1 σ (Gr.refl _ _) s1 (er.mono g1)⟩
def sRet (me : Rho → M PV) : Rho → M Fl := fun ρ => onErr ρ (me ρ) fun v => M.ret (.ret v)
theorem ms_ret (he : ME X W e me) : MS X W (.Return (some e) pos) (sRet me) :=
  PS.imp (ps_ret he) fun D σ H ⟨μ, st, ρ, er, sr, h⟩ => ⟨μ, st, ρ, er, sr, (PostS.onErr h er).mono fun u H1 ⟨μ1, st1, x, g1, s1, rx, h1⟩ => h1 μ1 H1 u (Gr.refl _ _) s1 rx⟩
def sRetN : Rho → M Fl := fun _ => M.ret (.ret .non)
theorem ms_retN : MS X W (.Return none pos) sRetN := PS.imp ps_retN fun D σ H ⟨μ, st, ρ, er, sr, h⟩ => h μ H .non (Gr.refl _ _) sr rfl
def sIf (t : Rho → M Bool) (m m' : Rho → M Fl) : Rho → M Fl := fun ρ => onErr ρ (t ρ) fun c => if c = true then m ρ else m' ρ
theorem ms_if {c : Expr} {sa sb : List Stmt} {t : Rho → M Bool} (hc : MT X W c t) (ha : MSs X W sa m) (hb : MSs X W sb m') : MS X W (.If c sa sb pos) (sIf t m m') :=
  PS.imp (ps_if hc ha hb) fun D σ H ⟨μ, st, ρ, er, sr, h⟩ => ⟨μ, st, ρ, er, sr, (PostS.onErr h er).mono fun c H1 ⟨μ1, st1, c', g1, s1, ec, h1⟩ => by
    subst ec
    cases c' with
    | true => rw [if_pos rfl] at h1 ⊢; exact ⟨μ1, st1, ρ, er.mono g1, s1, h1⟩
    | false => rw [if_neg Bool.false_ne_true] at h1 ⊢; exact ⟨μ1, st1, ρ, er.mono g1, s1, h1⟩⟩
abbrev GM := PV → Rho → M Rho
def tMG (K : KW) (W : WX) (g : GM) : TG := fun v σ H Q => ∃ μ st ρ p, ER K H μ ρ σ ∧ SR K μ st H ∧ VR K H μ p v ∧ PostG K (fun c d H' => W c d σ H') (ER K) Q μ H (g p ρ st)
def MG (X : Cx) (W : WX) (tg : Expr) (g : GM) : Prop := PG X tg (tMG (kw X) W g)
theorem PG.imp {tg : Expr} {t t' : TG} (h : PG X tg t) (i : ∀ v σ H Q, t' v σ H Q → t v σ H Q) : PG X tg t' := ⟨fun pins s σ H v u Q I r q => h.run pins s σ H v u Q I r (i v σ H Q q)⟩
def gN (i : Nat) : GM := fun p ρ => M.ret (ρ.set i (some p))
theorem mg_name {i : Nat} {x : Str} (hN : X.N.Nodup) (hi : X.N[i]? = some x) (hx : Loc X.env.scope x) (hf : X.fn x = true ∨ X.env.scope.names.lookup x = some .local := by first | exact .inl rfl | exact .inr rfl | assumption) : MG X W (.Name x pos) (gN i) :=
  PG.imp (pg_name hN hi hx hf) fun v σ H Q ⟨μ, st, ρ, p, er, sr, rv, h⟩ => h μ H _ (Gr.refl _ _) sr (er.set rv i)
abbrev GsM := List PV → Rho → M Rho
def tMGs (K : KW) (W : WX) (g : GsM) : TGs := fun vs σ H Q => ∃ μ st ρ ps, ER K H μ ρ σ ∧ SR K μ st H ∧ VRs K H μ ps vs ∧ PostG K (fun c d H' => False) (ER K) Q μ H (g ps ρ st)
def MGs (X : Cx) (W : WX) (tgs : List Expr) (g : GsM) : Prop := PGs X tgs (tMGs (kw X) W g)
theorem PGs.imp {tg : List Expr} {t t' : TGs} (h : PGs X tg t) (i : ∀ v σ H Q, t' v σ H Q → t v σ H Q) : PGs X tg t' := ⟨fun pins s σ H v u Q I r q => h.run pins s σ H v u Q I r (i v σ H Q q)⟩
def gsNil : GsM := fun ps ρ => match ps with
  | [] => M.ret ρ
  | _ => M.fail
def gsCons (g : GM) (r : GsM) : GsM := fun ps ρ => match ps with
  | p :: ps => M.bind (M.calm (g p ρ)) fun ρ1 => r ps ρ1
  | [] => M.fail
theorem mgs_nil : MGs X W [] gsNil := PGs.imp pgs_nil fun vs σ H Q ⟨μ, st, ρ, ps, er, sr, rv, h⟩ => by
  cases ps with
  | nil => exact ⟨rv, h μ H σ (Gr.refl _ _) sr er⟩
  | cons p ps => exact h.elim
theorem mgs_cons {es : List Expr} {g : GM} {r : GsM} (h1 : MG X W e g) (h2 : MGs X W es r) (hs : (assignEach (e :: es) X.env).map (·.2) = assign e X.env :: (assignEach es X.env).map (·.2) := by kernel_rfl) : MGs X W (e :: es) (gsCons g r) :=
  PGs.imp (pgs_cons h1 h2 hs) fun vs σ H Q ⟨μ, st, ρ, ps, er, sr, rv, h⟩ => by
    cases ps with
    | nil => exact h.elim
    | cons p ps =>
      obtain ⟨v, t, ev, rp, rt⟩ := (show ∃ v r, vs = v :: r ∧ VR X.K H μ p v ∧ VRs X.K H μ ps r from rv)
      refine ⟨v, t, ev, μ, st, ρ, p, er, sr, rp, ?_⟩
      have q := PostG.bind (R' := ER X.K) h
      exact (PostG.calm q).mono fun σ1 H1 ⟨μ1, st1, ρ1, g1, s1, e1, h3⟩ => ⟨μ1, st1, ρ1, ps, e1, s1, VRs.mono g1 ps t rt, h3⟩
def gT (n : Nat) (r : GsM) : GM := fun p ρ => match p with
  | .tup xs => if xs.length = n then M.calm (r xs ρ) else M.fail
  | _ => M.fail
theorem mg_tup {es : List Expr} {k n : Nat} {r : GsM} (hc : X.calm = true) (h : MGs X W es r) (hn : (assignEach es X.env).length = n := by kernel_rfl) (hst : (assignEach es X.env).findIdx? (·.1) = none := by kernel_rfl) : MG X W (.Tuple es k pos) (gT n r) :=
  PG.imp (pg_tup hc h hn hst) fun v σ H Q ⟨μ, st, ρ, p, er, sr, rv, h⟩ => by
    cases p with
    | tup xs =>
      obtain ⟨a, vs, ev, ta, rs⟩ := (show ∃ a vs, v = .ref a ∧ TupAt X.K H μ a vs ∧ VRs X.K H μ xs vs from rv)
      have h' : PostG (kw X) (fun c d H' => W c d σ H') (ER X.K) Q μ H ((if xs.length = n then M.calm (r xs ρ) else M.fail) st) := h
      by_cases hx : xs.length = n
      · rw [if_pos hx] at h'
        exact ⟨a, vs, ev, ta.sq, by rw [← VRs.length rs]; exact hx, μ, st, ρ, xs, er, sr, rs, PostG.calm h'⟩
      · rw [if_neg hx] at h'
        exact h'.elim
    | _ => exact h.elim
def gTL (n : Nat) (r : GsM) : GM := fun p ρ => match p with
  | .tup xs => if xs.length = n then M.calm (r xs ρ) else M.fail
  | .lst xs => if xs.length = n then M.calm (r xs ρ) else M.fail
  | _ => M.fail
theorem PG.or {tg : Expr} {t t' : TG} (h : PG X tg t) (h' : PG X tg t') : PG X tg (fun v σ H Q => t v σ H Q ∨ t' v σ H Q) := ⟨fun pins s σ H v u Q I r q => by
  rcases q with q | q
  · exact h.run pins s σ H v u Q I r q
  · exact h'.run pins s σ H v u Q I r q⟩
theorem mg_tupL {es : List Expr} {k n : Nat} {r : GsM} (hc : X.calm = true) (h : MGs X W es r) (hn : (assignEach es X.env).length = n := by kernel_rfl) (hst : (assignEach es X.env).findIdx? (·.1) = none := by kernel_rfl) : MG X W (.Tuple es k pos) (gTL n r) :=
  PG.imp (PG.or (pg_tup hc h hn hst) (pg_unl hc h hn hst)) fun v σ H Q ⟨μ, st, ρ, p, er, sr, rv, h⟩ => by
    cases p with
    | tup xs =>
      obtain ⟨a, vs, ev, ta, rs⟩ := (show ∃ a vs, v = .ref a ∧ TupAt X.K H μ a vs ∧ VRs X.K H μ xs vs from rv)
      have h' : PostG (kw X) (fun c d H' => W c d σ H') (ER X.K) Q μ H ((if xs.length = n then M.calm (r xs ρ) else M.fail) st) := h
      by_cases hx : xs.length = n
      · rw [if_pos hx] at h'
        exact .inl ⟨a, vs, ev, ta.sq, by rw [← VRs.length rs]; exact hx, μ, st, ρ, xs, er, sr, rs, PostG.calm h'⟩
      · rw [if_neg hx] at h'
        exact h'.elim
    | lst xs =>
      obtain ⟨a, vs, ev, ta, rs⟩ := (show ∃ a vs, v = .ref a ∧ LstAt H μ a vs ∧ VRs X.K H μ xs vs from rv)
      have h' : PostG (kw X) (fun c d H' => W c d σ H') (ER X.K) Q μ H ((if xs.length = n then M.calm (r xs ρ) else M.fail) st) := h
      by_cases hx : xs.length = n
      · rw [if_pos hx] at h'
        exact .inr ⟨a, vs, ev, ta.sq, by rw [← VRs.length rs]; exact hx, μ, st, ρ, xs, er, sr, rs, PostG.calm h'⟩
      · rw [if_neg hx] at h'
        exact h'.elim
    | _ => exact h.elim
def sAsg (me : Rho → M PV) (g : GM) : Rho → M Fl := fun ρ => onErr ρ (me ρ) fun v => onErr ρ (g v ρ) fun ρ' => M.ret (.next ρ')
theorem asg_imp {g : GM} {me : Rho → M PV} : ∀ D σ H, tMS (kw X) W (sAsg me g) D σ H → tAsg (tM (kw X) W me) (tMG (kw X) W g) D σ H := fun D σ H ⟨μ, st, ρ, er, sr, h⟩ =>
  ⟨μ, st, ρ, er, sr, (PostS.onErr h er).mono fun u H1 ⟨μ1, st1, x, g1, s1, rx, h1⟩ => ⟨μ1, st1, ρ, x, er.mono g1, s1, rx, (PostS.onErr h1 (er.mono g1)).mono fun σ2 H2 ⟨μ2, st2, ρ2, g2, s2, e2, h2⟩ => h2 μ2 H2 σ2 (Gr.refl _ _) s2 e2⟩⟩
theorem ms_asg {tg : Expr} {g : GM} (he : ME X W e me) (hg : MG X W tg g) (hs : swapsWithSole [tg] e pos.line X.env = pure false := by kernel_rfl) (hw : swappedStores [tg] e X.env = pure none := by kernel_rfl)
    (h1 : (assignEach [tg] X.env).map (·.2) = [assign tg X.env] := by kernel_rfl) : MS X W (.Assign [tg] e pos) (sAsg me g) := PS.imp (ps_asg he hg hs hw h1) asg_imp
def sSet (i : Nat) (me : Rho → M PV) : Rho → M Fl := fun ρ => onErr ρ (me ρ) fun v => M.ret (.next (ρ.set i (some v)))
theorem ms_set {i : Nat} {x : Str} {pos' : Pos} (hN : X.N.Nodup) (hi : X.N[i]? = some x) (hx : Loc X.env.scope x) (he : ME X W e me) (hs : swapsWith e (some (.Name x pos')) pos.line X.env = pure false := by kernel_rfl)
    (hf : X.fn x = true ∨ X.env.scope.names.lookup x = some .local := by first | exact .inl rfl | exact .inr rfl | assumption) : MS X W (.Assign [.Name x pos'] e pos) (sSet i me) :=
  PS.imp (ps_set hN hi hx he hs hf) fun D σ H ⟨μ, st, ρ, er, sr, h⟩ => ⟨μ, st, ρ, er, sr, (PostS.onErr h er).mono fun u H1 ⟨μ1, st1, x, g1, s1, rx, h1⟩ => h1 μ1 H1 _ (Gr.refl _ _) s1 ((er.mono g1).set rx i)⟩

def turnL (k : Rho → M Fl) (m : M Fl) : M Fl := fun st => match m st with
  | .ok (.next ρ') st' => k ρ' st'
  | .ok (.cont ρ') st' => k ρ' st'
  | .ok (.brk ρ') st' => .ok (.next ρ') st'
  | r => r
def forL (g : GM) (b : Rho → M Fl) : List PV → Rho → M Fl
  | [], ρ => M.ret (.next ρ)
  | p :: ps, ρ => onErr ρ (g p ρ) fun ρ1 => turnL (forL g b ps) (b ρ1)
def Sup (K : KW) (J : It) (ps : List PV) (μ0 : Mu) (H0 : Hp) : Prop :=
  ∀ μ H st, Gr μ0 H0 μ H → SR K μ st H → (∀ (i : Nat) (p : PV), ps[i]? = some p → J.go i H ∧ ∀ x H', J.yld i H x H' → Gr μ H μ H' ∧ SR K μ st H' ∧ VR K H' μ p x) ∧ J.stop ps.length H
theorem for_imp {K : KW} {W : WX} {D : Ends} {J : It} {ps : List PV} {g : GM} {b : Rho → M Fl} {μ : Mu} {H : Hp} {σ : St} {ρ : Rho} {st : Sto} (su : Sup K J ps μ H) (er : ER K H μ ρ σ) (sr : SR K μ st H) (h : PostS K W D μ H (forL g b ps ρ st)) :
    ∃ V : Nat → Nat → St → Hp → Prop, (∃ m, V 0 m σ H) ∧ ∀ i m σ H, V i m σ H →
      (J.stop i H ∧ D.nx σ H) ∨ (J.go i H ∧ ∃ N : St → Hp → Prop, (∀ σ' H', N σ' H' → ∃ m', m' < m ∧ V (i + 1) m' σ' H') ∧ ∀ x H', J.yld i H x H' → tMG K W g x σ H' fun σ2 H2 => tMS K W b { D with nx := N, ct := N, bk := D.nx } σ2 H2) := by
  refine ⟨fun i m σ' H' => m = ps.length - i ∧ i ≤ ps.length ∧ ∃ μ' st' ρ', Gr μ H μ' H' ∧ ER K H' μ' ρ' σ' ∧ SR K μ' st' H' ∧ PostS K W D μ' H' (forL g b (ps.drop i) ρ' st'), ⟨ps.length, by simp, Nat.zero_le _, μ, st, ρ, Gr.refl _ _, er, sr, by rw [List.drop_zero]; exact h⟩, ?_⟩
  rintro i m σ1 H1 ⟨rfl, hi, μ1, st1, ρ1, g1, e1, s1, h1⟩
  by_cases hlt : i < ps.length
  · have hp : ps[i]? = some ps[i] := by simp [hlt]
    obtain ⟨go, yl⟩ := (su μ1 H1 st1 g1 s1).1 i ps[i] hp
    refine .inr ⟨go, fun σ' H' => ∃ μ' st' ρ', Gr μ H μ' H' ∧ ER K H' μ' ρ' σ' ∧ SR K μ' st' H' ∧ PostS K W D μ' H' (forL g b (ps.drop (i + 1)) ρ' st'), fun σ' H' q => ⟨ps.length - (i + 1), by omega, rfl, hlt, q⟩, fun x H' y => ?_⟩
    obtain ⟨g2, s2, rx⟩ := yl x H' y
    rw [List.drop_eq_getElem_cons hlt] at h1
    unfold forL at h1
    refine ⟨μ1, st1, ρ1, ps[i], e1.mono g2, s2, rx, (PostS.onErr (PostS.grow h1 g2) (e1.mono g2)).mono fun σ3 H3 ⟨μ3, st3, ρ3, g3, s3, e3, h3⟩ => ⟨μ3, st3, ρ3, e3, s3, ?_⟩⟩
    have gg := (g1.trans g2 fun a m => (s2.ban a m).1).trans g3 fun a m => (s3.ban a m).1
    unfold turnL at h3
    cases q : b ρ3 st3 with
    | ok f st' =>
      rw [q] at h3
      cases f with
      | next ρ' => exact fun μ' H' σ' g4 s4 e4 => ⟨μ', st', ρ', gg.trans g4 (fun a m => (s4.ban a m).1), e4, s4, PostS.grow h3 g4⟩
      | cont ρ' => exact fun μ' H' σ' g4 s4 e4 => ⟨μ', st', ρ', gg.trans g4 (fun a m => (s4.ban a m).1), e4, s4, PostS.grow h3 g4⟩
      | brk ρ' => exact h3
      | ret p => exact h3
      | exc x ρ' => exact h3
    | err x st' => rw [q] at h3; exact h3
    | bad => rw [q] at h3; exact h3
  · have e : i = ps.length := by omega
    subst e
    rw [List.drop_length] at h1
    exact .inl ⟨(su μ1 H1 st1 g1 s1).2, h1 μ1 H1 σ1 (Gr.refl _ _) s1 e1⟩
def tMI (K : KW) (W : WX) (m : Rho → M (List PV)) : TI := fun σ H R => ∃ μ st ρ, ER K H μ ρ σ ∧ SR K μ st H ∧ PostG K (fun c d H' => W c d σ H') (fun H μ ps (J : It) => Sup K J ps μ H) R μ H (m ρ st)
def MI (X : Cx) (W : WX) (tg iter : Expr) (m : Rho → M (List PV)) : Prop := PI X tg iter (tMI (kw X) W m)
theorem PI.imp {tg iter : Expr} {t t' : TI} (h : PI X tg iter t) (i : ∀ σ H R, t' σ H R → t σ H R) : PI X tg iter t' := ⟨fun pins s σ H R I q => h.run pins s σ H R I (i σ H R q)⟩
def sFor (mi : Rho → M (List PV)) (g : GM) (b : Rho → M Fl) : Rho → M Fl := fun ρ => onErr ρ (mi ρ) fun ps => forL g b ps ρ
theorem ms_for {tg iter : Expr} {body : List Stmt} {mi : Rho → M (List PV)} {g : GM} (hp : PassesOwn (model X.prog X.w) X.A X.env X.xe) (hc : X.calm = true) (hi : MI X W tg iter mi) (hg : MG X W tg g) (hb : MSs X W body m)
    (hs : ∀ x, foldedSetIterable iter X.env x = pure x := by intro _; kernel_rfl) : MS X W (.For tg iter body [] pos) (sFor mi g m) :=
  PS.imp (ps_for hp hc hi hg hb hs) fun D σ H ⟨μ, st, ρ, er, sr, h⟩ => ⟨μ, st, ρ, er, sr, (PostS.onErr h er).mono fun J H1 ⟨μ1, st1, ps, g1, s1, su, h1⟩ => for_imp su (er.mono g1) s1 h1⟩
def whileF (t : Rho → M Bool) (b : Rho → M Fl) : Nat → Rho → M Fl
  | 0, _ => M.fail
  | n + 1, ρ => onErr ρ (t ρ) fun c => if c = true then turnL (whileF t b n) (b ρ) else M.ret (.next ρ)
theorem ms_while {c : Expr} {body : List Stmt} {t : Rho → M Bool} (n : Nat) (hp : PassesOwn (model X.prog X.w) X.A X.env X.xe) (hc : MT X W c t) (hb : MSs X W body m) : MS X W (.While c body [] pos) (whileF t m n) :=
  PS.imp (ps_while hp hc hb) fun D σ H h => by
    refine ⟨fun n σ H => tMS (kw X) W (whileF t m n) D σ H, ⟨n, h⟩, ?_⟩
    rintro n σ H ⟨μ, st, ρ, er, sr, h⟩
    cases n with
    | zero => exact h.elim
    | succ n =>
      unfold whileF at h
      refine ⟨μ, st, ρ, er, sr, (PostS.onErr h er).mono fun c H1 ⟨μ1, st1, c', g1, s1, ec, h1⟩ => ?_⟩
      subst ec
      cases c' with
      | false =>
        rw [if_neg Bool.false_ne_true] at h1 ⊢
        exact h1 μ1 H1 σ (Gr.refl _ _) s1 (er.mono g1)
      | true =>
        rw [if_pos rfl] at h1 ⊢
        refine ⟨fun σ' H' => tMS (kw X) W (whileF t m n) D σ' H', fun σ' H' q => ⟨n, Nat.lt_succ_self _, q⟩, μ1, st1, ρ, er.mono g1, s1, ?_⟩
        unfold turnL at h1
        cases q : m ρ st1 with
        | ok f st' =>
          rw [q] at h1
          cases f with
          | next ρ' => exact fun μ' H' σ' g4 s4 e4 => ⟨μ', st', ρ', e4, s4, PostS.grow h1 g4⟩
          | cont ρ' => exact fun μ' H' σ' g4 s4 e4 => ⟨μ', st', ρ', e4, s4, PostS.grow h1 g4⟩
          | brk ρ' => exact h1
          | ret p => exact h1
          | exc x ρ' => exact h1
        | err x st' => rw [q] at h1; exact h1
        | bad => rw [q] at h1; exact h1
end

def runB (m : Rho → M Fl) (n : Nat) (ps : List PV) : M PV := fun st => match m (ps.map some ++ List.replicate (n - ps.length) none) st with
  | .ok (.next _) st' => .ok .non st'
  | .ok (.ret p) st' => .ok p st'
  | .ok (.exc x _) st' => .err x st'
  | _ => .bad
theorem er_start {K : PySem.W.Frag} {H : Hp} {μ : Mu} {N : List Str} {ps : List PV} {vs : List V} (r : VRs K H μ ps vs) : ER K H μ (ps.map some ++ List.replicate (N.length - ps.length) none) (L2.start N vs) := by
  have hl := VRs.length r
  refine ⟨by unfold L2.start; simp [hl], fun i p h => ?_⟩
  by_cases hi : i < ps.length
  · rw [List.getElem?_append_left (by simpa using hi), List.getElem?_map] at h
    cases q : ps[i]? with
    | none => rw [q] at h; cases h
    | some p' =>
      rw [q] at h
      cases h
      obtain ⟨v, e1, e2⟩ := VRs.get r q
      refine ⟨v, ?_, e2⟩
      unfold L2.start
      rw [List.getElem?_append_left (by simpa [← hl] using hi), List.getElem?_map, e1]
      rfl
  · rw [List.getElem?_append_right (by simpa using hi), List.getElem?_replicate] at h
    split at h <;> cases h
theorem def_ok {P : Program} {w : World} {K : PySem.W.Frag} {mg : Str → Option Value} {base : Heap} {x qual : Str} {st : Stmt} {f : Addr} {fd : FuncData} {N ps : List Str} {k : Nat} {m : Rho → M Fl} (F : Fun K x qual st f fd) (S : FnScope N ps (defScope st))
    (hb : ∀ (cdv : Value) (A : Around) (outer : List Env) (s : Shared) (H : Hp) (E : XK), Room k (A.deeper (PyProof.Rows.envOfC qual (defScope st) s.heap.objs.size f cdv)) →
      MSs (cxOf (L2.CX P w) P w K mg base N qual (defScope st) f cdv A outer s H E) (fun c d _ H => E c d H) (defBody st) m) :
    FnOk P w K mg base (L2.CX P w) (k + 1) f fd ps (spM ⟨w, K⟩ (runB m N.length) ps.length) := by
  refine F.okX S (fun vs H Q E h => ?_) (fun cdv A outer s H vs Q E hr h => ?_)
  · obtain ⟨μ, st, qs, _, r, hn, _⟩ := h
    rw [← VRs.length r, hn]
  · refine ⟨_, hb cdv A outer s H E hr, ?_⟩
    obtain ⟨μ, st, qs, sr, r, hn, h⟩ := h
    refine ⟨μ, st, _, er_start r, sr, ?_⟩
    unfold runB at h
    cases q : m (qs.map some ++ List.replicate (N.length - qs.length) none) st with
    | ok fl st' =>
      rw [q] at h
      cases fl with
      | next ρ' => exact fun μ' H' σ' g s e => h μ' H' .non g s rfl
      | ret p => exact h
      | brk ρ' => exact h.elim
      | cont ρ' => exact h.elim
      | exc x ρ' => exact fun μ' H' σ' d g s e z => h μ' H' d g s z
    | err x st' => rw [q] at h; exact h.elim
    | bad => rw [q] at h; exact h.elim
end MP

set_option maxRecDepth 100000
set_option maxHeartbeats 4000000
namespace MP
open PySem L2 PySem.Spec PyProof.Rows
theorem tuple_mul1 (l : Addr) (items : Array Value) (n : Nat) (dd : Option Addr) (sl : Array (Option Value)) (u : Tok) :
    Meets (Builtin.«tuple.__mul__» ⟨[.ref l, .int 1 u], []⟩) (fun _ R s => s.heap.get? l = some { cls := .type "tuple", dict := dd, data := .seq items n, slots := sl } ∧ R (.ok (.ret (Value.ref l))) s) :=
  .of_wp fun prog w A R s h => by
    obtain ⟨hp, g, d, tk, os⟩ := s
    obtain ⟨hl, h⟩ := h
    have f1 := AutoSeq1.idx_int
    wp_walk using wpAny_loadPart' hl
    exact ⟨_, rfl, h⟩
theorem tuple_mul0 (l : Addr) (items : Array Value) (n : Nat) (dd : Option Addr) (sl : Array (Option Value)) (x : Int) (u : Tok) (c0 : (decide (x < -(2 ^ 63)) || decide (x ≥ 2 ^ 63)) = false) (c1 : (items.isEmpty || x == 1) = false) (c2 : (decide (x ≤ 0) || items.isEmpty) = true) :
    Meets (Builtin.«tuple.__mul__» ⟨[.ref l, .int x u], []⟩) (fun _ R s => s.heap.get? l = some { cls := .type "tuple", dict := dd, data := .seq items n, slots := sl } ∧
      R (.ok (.ret (Value.ref s.heap.objs.size))) { s with heap := s.heap.push { cls := Value.type "tuple", data := Data.seq #[] }, toks := s.toks }) :=
  .of_wp fun prog w A R s h => by
    obtain ⟨hp, g, d, tk, os⟩ := s
    obtain ⟨hl, h⟩ := h
    have f1 := AutoSeq1.idx_int
    wp_walk using wpAny_loadPart' hl
    repeat (first
      | (refine wpAny_ite_false (decide_eq_false (by rw [c0]; exact Bool.false_ne_true)) ?_; wp_walk using wpAny_loadPart' hl)
      | (refine wpAny_ite_false (decide_eq_false (by rw [c1]; exact Bool.false_ne_true)) ?_; wp_walk using wpAny_loadPart' hl)
      | (refine wpAny_ite_true (decide_eq_true (by rw [c2])) ?_; wp_walk using wpAny_loadPart' hl))
    exact ⟨_, rfl, h⟩
def rRepL (K : PySem.W.Frag) : R2 := fun x y H Q => ∃ l k xs, x = .ref l ∧ y = .int k ∧ SqT K H l xs ∧ ((k = 1 ∧ Q (.ref l) H) ∨ (xs ≠ [] ∧ k ≤ 0 ∧ -1000000 ≤ k ∧ ∀ p, H p = none → Q (.ref p) (upd H p (.tup []))))
theorem op_repL {X : Cx} : OpR X (binaryOp .Mult) (rRepL X.K) := by
  intro pins s σ H x y v u Q I rx ry h
  obtain ⟨l, k, xs, rfl, rfl, hT, h⟩ := h
  cases rx
  obtain ⟨t, rfl⟩ := ry
  obtain ⟨its, r, ⟨⟨cls, dd, data, sl⟩, ho, hc, n, hd⟩, hs⟩ := I.tuple hT
  simp only at hc hd
  subst hc hd
  have hle : its.length = xs.length := r.length.symm
  rcases h with ⟨rfl, q⟩ | ⟨hne, h1, h2, q⟩
  · refine wpAny_binaryOp_repeat_ref (T := "tuple") (U := "int") (by decide) ⟨_, ho, rfl⟩ (fun s' => typeIs_int s' 1 t) noFill_tuple_mul F.fills_int_mul F.slot_int_rmul repeat_tuple F.slot_int_index.lookup
      (call_meets F.slot_int_rmul (typeIs_int s 1 t) F.entry_int_rmul (F.args_int_rmul_2 _ _) (int_rmul_tuple 1 t l its.toArray n dd sl)
        ⟨ho, rfl, ⟨_, ho, rfl⟩, call_meets F.slot_tuple_mul ⟨_, ho, rfl⟩ F.entry_tuple_mul (F.args_tuple_mul_2 _ _) (tuple_mul1 l its.toArray n dd sl t) ⟨ho, ?_⟩⟩)
    exact ⟨.ref l, H, I, rfl, q⟩
  · have hn : its ≠ [] := fun e => hne (by
      rw [e] at hle
      exact List.eq_nil_of_length_eq_zero hle.symm)
    have hi : its.toArray.isEmpty = false := by
      cases its with
      | nil => exact absurd rfl hn
      | cons a b => rfl
    have c0 : (decide (k < -(2 ^ 63)) || decide (k ≥ 2 ^ 63)) = false := by
      rw [decide_eq_false (by omega), decide_eq_false (by omega)] <;> rfl
    have c1 : (its.toArray.isEmpty || k == 1) = false := by
      rw [hi, Bool.false_or]
      exact beq_eq_false_iff_ne.mpr (by omega)
    have c2 : (decide (k ≤ 0) || its.toArray.isEmpty) = true := by
      rw [hi, Bool.or_false]
      exact decide_eq_true (by omega)
    refine wpAny_binaryOp_repeat_ref (T := "tuple") (U := "int") (by decide) ⟨_, ho, rfl⟩ (fun s' => typeIs_int s' k t) noFill_tuple_mul F.fills_int_mul F.slot_int_rmul repeat_tuple F.slot_int_index.lookup
      (call_meets F.slot_int_rmul (typeIs_int s k t) F.entry_int_rmul (F.args_int_rmul_2 _ _) (int_rmul_tuple k t l its.toArray n dd sl)
        ⟨ho, rfl, ⟨_, ho, rfl⟩, call_meets F.slot_tuple_mul ⟨_, ho, rfl⟩ F.entry_tuple_mul (F.args_tuple_mul_2 _ _) (tuple_mul0 l its.toArray n dd sl k t c0 c1 c2) ⟨ho, ?_⟩⟩)
    refine ⟨.ref s.heap.objs.size, _, I.laid (t' := s.toks) (o := .tup []) (fun b ob q => Heap.get?_push_of_some _ q) (Nat.le_refl _) ?_, rfl, q _ (I.hok.fresh (Nat.le_refl _))⟩
    exact ⟨by rw [sizeLine_eq]; simp, _, .nil, IsTup.new _ _⟩
end MP

set_option maxRecDepth 100000
set_option maxHeartbeats 1000000
namespace MP
open PySem L2
abbrev SZ : Nat := 16777216
theorem sz_eq : sizeLine = SZ := sizeLine_eq
section
variable {K : KW} {H : Hp} {μ : Mu} {st : Sto} {E : XK} {Q : VK} {x y : PV} {u v : V}
theorem post_tup {ps : List PV} {vs : List V} {p : Addr} (sr : SR K μ st H) (r : VRs K H μ ps vs) (hp : H p = none) (h : PostG K E (VR K) Q μ H (.ok (.tup ps) st)) : Q (.ref p) (upd H p (.tup vs)) :=
  h μ _ _ (gr_new hp) (sr.new hp) (show ∃ a ws, V.ref p = .ref a ∧ TupAt K (upd H p (.tup vs)) μ a ws ∧ VRs K (upd H p (.tup vs)) μ ps ws from ⟨p, vs, rfl, .inl ⟨upd_same, sr.free hp⟩, VRs.mono (gr_new hp) ps vs r⟩)
theorem post_lst {ps : List PV} {vs : List V} {p : Addr} (sr : SR K μ st H) (r : VRs K H μ ps vs) (hp : H p = none) (h : PostG K E (VR K) Q μ H (.ok (.lst ps) st)) : Q (.ref p) (upd H p (.lst vs)) :=
  h μ _ _ (gr_new hp) (sr.new hp) (show ∃ a ws, V.ref p = .ref a ∧ LstAt (upd H p (.lst vs)) μ a ws ∧ VRs K (upd H p (.lst vs)) μ ps ws from ⟨p, vs, rfl, ⟨upd_same, sr.free hp⟩, VRs.mono (gr_new hp) ps vs r⟩)
theorem post_cell {c : Cell} {o : HO} {p : Addr} (h : PostG K E (VR K) Q μ H (.ok (.loc st.length) (st ++ [c]))) (sr : SR K μ st H) (hp : H p = none) (hc : CR K (upd H p o) (μ.add p) p c) : Q (.ref p) (upd H p o) :=
  h _ _ _ (gr_alloc hp) (sr.alloc hp hc) (show ∃ a, V.ref p = .ref a ∧ (μ.add p).l[st.length]? = some a from ⟨p, rfl, by rw [← sr.len]; simp [Mu.add]⟩)
theorem post_same {p : PV} (h : PostG K E (VR K) Q μ H (.ok p st)) (sr : SR K μ st H) (r : VR K H μ p v) : Q v H := h μ H v (Gr.refl _ _) sr r
theorem lst_at {K : PySem.W.Frag} {ps : List PV} (r : VR K H μ (.lst ps) v) : ∃ a vs, v = .ref a ∧ LstAt H μ a vs ∧ VRs K H μ ps vs := r
theorem frz_at {K : PySem.W.Frag} {ps : List PV} (r : VR K H μ (.frz ps) v) : ∃ a vs, v = .ref a ∧ FrzAt K H μ a vs ∧ VRs K H μ ps vs := r
theorem tup_at {K : PySem.W.Frag} {ps : List PV} (r : VR K H μ (.tup ps) v) : ∃ a vs, v = .ref a ∧ TupAt K H μ a vs ∧ VRs K H μ ps vs := r
theorem loc_at {K : PySem.W.Frag} {n : Nat} (r : VR K H μ (.loc n) v) : ∃ a, v = .ref a ∧ μ.l[n]? = some a := r
def listOf (p : PV) (st : Sto) : Option (List PV) := match p with
  | .lst xs => some xs
  | .loc n => match st[n]? with
    | some (.lst xs) => some xs
    | _ => none
  | _ => none
theorem listOf_at {ps : List PV} (sr : SR K μ st H) (r : VR K H μ x v) (h : listOf x st = some ps) : ∃ a vs, v = .ref a ∧ H a = some (.lst vs) ∧ VRs K H μ ps vs := by
  cases x with
  | lst xs =>
    cases h
    obtain ⟨a, vs, e, l, rs⟩ := lst_at r
    exact ⟨a, vs, e, l.1, rs⟩
  | loc n =>
    obtain ⟨a, e, ha⟩ := loc_at r
    unfold listOf at h
    dsimp only at h
    cases q : st[n]? with
    | none => rw [q] at h; cases h
    | some c =>
      rw [q] at h
      cases c with
      | lst xs =>
        cases h
        obtain ⟨vs, h1, h2⟩ := sr.cell n _ a q ha
        exact ⟨a, vs, e, h1, h2⟩
      | dct kvs => cases h
      | ins C fs => cases h
      | dcl kvs => cases h
      | dcn kvs => cases h
      | lck kvs => cases h
  | _ => cases h
def seqOf (p : PV) (st : Sto) : Option (List PV) := match p with
  | .lst xs => some xs
  | .frz xs => some xs
  | .tup xs => some xs
  | .loc n => match st[n]? with
    | some (.lst xs) => some xs
    | _ => none
  | _ => none
theorem seqOf_at {ps : List PV} (sr : SR K μ st H) (r : VR K H μ x v) (h : seqOf x st = some ps) : ∃ a vs, v = .ref a ∧ (SqL K H a vs ∨ SqT K H a vs) ∧ VRs K H μ ps vs := by
  cases x with
  | lst xs =>
    cases h
    obtain ⟨a, vs, e, l, rs⟩ := lst_at r
    exact ⟨a, vs, e, .inl l.sq, rs⟩
  | frz xs =>
    cases h
    obtain ⟨a, vs, e, l, rs⟩ := frz_at r
    exact ⟨a, vs, e, .inl l.sq, rs⟩
  | tup xs =>
    cases h
    obtain ⟨a, vs, e, l, rs⟩ := tup_at r
    exact ⟨a, vs, e, .inr l.sq, rs⟩
  | loc n =>
    obtain ⟨a, vs, e, l, rs⟩ := listOf_at sr r (show listOf (.loc n) st = some ps from h)
    exact ⟨a, vs, e, .inl (SqL.of l), rs⟩
  | _ => cases h
theorem VRs.atI {K : PySem.W.Frag} {ps : List PV} {vs : List V} {i : Int} {p : PV} (r : VRs K H μ ps vs) (h : L2.atI ps i = some p) : ∃ w, L2.atI vs i = some w ∧ VR K H μ p w := by
  unfold L2.atI at h ⊢
  rw [VRs.length r] at h
  cases q : ixN vs.length i with
  | none => rw [q] at h; cases h
  | some j =>
    rw [q] at h
    exact VRs.get r h
end

def addV (x y : PV) : M PV := match x, y with
  | .int i, .int j => M.ret (.int (i + j))
  | .str a, .str b => if a.length + b.length ≤ SZ then M.ret (.str (a ++ b)) else M.fail
  | .tup a, .tup b => if a.length + b.length ≤ SZ then M.ret (.tup (a ++ b)) else M.fail
  | x, y => fun st => match listOf x st, listOf y st with
    | some a, some b => if a.length + b.length ≤ SZ then .ok (.lst (a ++ b)) st else .bad
    | _, _ => .bad
def rAddM (K : PySem.W.Frag) : R2 := fun x y H Q => (∃ i j, x = .int i ∧ y = .int j ∧ Q (.int (i + j)) H) ∨ (∃ i j, x = .str i ∧ y = .str j ∧ i.length + j.length ≤ sizeLine ∧ Q (.str (i ++ j)) H) ∨ rCatA K x y H Q ∨ rCat x y H Q
theorem op_addM {X : Cx} : OpR X (binaryOp .Add) (rAddM X.K) := op_add.or (op_add_str.or (op_catA.or op_cat))
theorem str_app (a b : List Nat) : (⟨a.toArray⟩ : Str) ++ (⟨b.toArray⟩ : Str) = ⟨(a ++ b).toArray⟩ := by
  show (⟨a.toArray ++ b.toArray⟩ : Str) = ⟨(a ++ b).toArray⟩
  simp
theorem str_len (a : List Nat) : (⟨a.toArray⟩ : Str).length = a.length := by
  show a.toArray.size = a.length
  simp
theorem add_list {K : KW} {μ : Mu} {st : Sto} {H : Hp} {x y : PV} {u v : V} {E : XK} {Q : VK} (sr : SR K μ st H) (rx : VR K H μ x u) (ry : VR K H μ y v)
    (h : PostG K E (VR K) Q μ H (match listOf x st, listOf y st with
    | some a, some b => if a.length + b.length ≤ SZ then .ok (.lst (a ++ b)) st else .bad
    | _, _ => .bad)) : rCat u v H Q := by
  cases q1 : listOf x st with
  | none => rw [q1] at h; exact h.elim
  | some a =>
    cases q2 : listOf y st with
    | none => rw [q1, q2] at h; exact h.elim
    | some b =>
      rw [q1, q2] at h
      dsimp only at h
      by_cases hz : a.length + b.length ≤ SZ
      · rw [if_pos hz] at h
        obtain ⟨p, vs, rfl, h1, r1⟩ := listOf_at sr rx q1
        obtain ⟨p', vs', rfl, h2, r2⟩ := listOf_at sr ry q2
        exact ⟨p, p', vs, vs', rfl, rfl, h1, h2, by rw [← VRs.length r1, ← VRs.length r2, sz_eq]; exact hz, fun q hq => post_lst sr (VRs.append r1 r2) hq h⟩
      · rw [if_neg hz] at h
        exact h.elim
theorem t_add {K : KW} : T2 K (rAddM K) addV := by
  intro μ st H x y u v E Q sr rx ry h
  cases x with
  | int i =>
    cases y with
    | int j =>
      cases (show u = V.int _ from rx); cases (show v = V.int _ from ry)
      exact .inl ⟨_, _, rfl, rfl, post_same h sr rfl⟩
    | _ => exact .inr (.inr (.inr (add_list sr rx ry h)))
  | str a =>
    cases y with
    | str b =>
      cases (show u = V.str ⟨a.toArray⟩ from rx); cases (show v = V.str ⟨b.toArray⟩ from ry)
      unfold addV at h
      dsimp only at h
      by_cases hz : a.length + b.length ≤ SZ
      · rw [if_pos hz] at h
        exact .inr (.inl ⟨_, _, rfl, rfl, by rw [str_len, str_len, sz_eq]; exact hz, by rw [str_app]; exact post_same h sr rfl⟩)
      · rw [if_neg hz] at h
        exact h.elim
    | _ => exact .inr (.inr (.inr (add_list sr rx ry h)))
  | tup a =>
    cases y with
    | tup b =>
      obtain ⟨p, vs, rfl, h1, r1⟩ := tup_at rx
      obtain ⟨p', vs', rfl, h2, r2⟩ := tup_at ry
      unfold addV at h
      dsimp only at h
      by_cases hz : a.length + b.length ≤ SZ
      · rw [if_pos hz] at h
        refine .inr (.inr (.inl ⟨p, p', vs, vs', rfl, rfl, h1.sq, h2.sq, by rw [← VRs.length r1, ← VRs.length r2, sz_eq]; exact hz, fun e => ?_, fun _ e => ?_, fun _ _ q hq => post_tup sr (VRs.append r1 r2) hq h⟩))
        · have ea : a = [] := (VRs.nil_iff r1).mp e
          subst ea
          exact post_same h sr ry
        · have eb : b = [] := (VRs.nil_iff r2).mp e
          subst eb
          rw [List.append_nil] at h
          exact post_same h sr rx
      · rw [if_neg hz] at h
        exact h.elim
    | _ => exact .inr (.inr (.inr (add_list sr rx ry h)))
  | _ => exact .inr (.inr (.inr (add_list sr rx ry h)))
def subV (x y : PV) : M PV := match x, y with
  | .int i, .int j => M.ret (.int (i - j))
  | _, _ => M.fail
theorem t_sub {K : KW} : T2 K (rI0 fun i j => .int (i - j)) subV := by
  intro μ st H x y u v E Q sr rx ry h
  unfold subV at h
  split at h
  · cases (show u = V.int _ from rx); cases (show v = V.int _ from ry)
    exact ⟨_, _, rfl, rfl, post_same h sr rfl⟩
  · exact h.elim
def mulOk (i j : Int) : Bool := decide (-18446744073709551616 < i ∧ i < 18446744073709551616) || decide (-18446744073709551616 < j ∧ j < 18446744073709551616)
def mulV (x y : PV) : M PV := match x, y with
  | .int i, .int j => if mulOk i j = true then M.ret (.int (i * j)) else M.fail
  | .tup a, .int k => if a ≠ [] ∧ -1000000 ≤ k ∧ k ≤ 1000 ∧ a.length ≤ 1000 then M.ret (.tup (List.replicate k.toNat a).flatten) else M.fail
  | _, _ => M.fail
theorem VRs.rep {K : PySem.W.Frag} {H : Hp} {μ : Mu} {ps : List PV} {vs : List V} (r : VRs K H μ ps vs) : ∀ k : Nat, VRs K H μ (List.replicate k ps).flatten (List.replicate k vs).flatten
  | 0 => rfl
  | k + 1 => by
    rw [List.replicate_succ, List.replicate_succ, List.flatten_cons, List.flatten_cons]
    exact VRs.append r (VRs.rep r k)
theorem t_mul {K : KW} : T2 K (fun x y H Q => rI CMul (fun i j => .int (i * j)) x y H Q ∨ (rRepT K x y H Q ∨ rRepL K x y H Q)) mulV := by
  intro μ st H x y u v E Q sr rx ry h
  unfold mulV at h
  split at h
  · rename_i i j
    cases (show u = V.int i from rx); cases (show v = V.int j from ry)
    by_cases hz : mulOk i j = true
    · rw [if_pos hz] at h
      refine .inl ⟨_, _, rfl, rfl, ?_, post_same h sr rfl⟩
      unfold mulOk at hz
      rw [Bool.or_eq_true, decide_eq_true_eq, decide_eq_true_eq] at hz
      exact hz
    · rw [if_neg hz] at h
      exact h.elim
  · rename_i a k
    obtain ⟨p, vs, rfl, h1, r1⟩ := tup_at rx
    cases (show v = V.int k from ry)
    by_cases hz : a ≠ [] ∧ -1000000 ≤ k ∧ k ≤ 1000 ∧ a.length ≤ 1000
    · rw [if_pos hz] at h
      have hn : vs ≠ [] := fun e => hz.1 ((VRs.nil_iff r1).mp e)
      by_cases h2 : 2 ≤ k
      · exact .inr (.inl ⟨p, k, vs, rfl, rfl, h1.sq, hn, h2, hz.2.2.1, by rw [← VRs.length r1]; exact hz.2.2.2, fun q hq => post_tup sr (VRs.rep r1 _) hq h⟩)
      · by_cases h3 : k = 1
        · subst h3
          have e : (List.replicate (1 : Int).toNat a).flatten = a := by simp
          rw [e] at h
          exact .inr (.inr ⟨p, 1, vs, rfl, rfl, h1.sq, .inl ⟨rfl, post_same h sr rx⟩⟩)
        · have e : (List.replicate k.toNat a).flatten = [] := by rw [show k.toNat = 0 by omega]; rfl
          rw [e] at h
          exact .inr (.inr ⟨p, k, vs, rfl, rfl, h1.sq, .inr ⟨hn, by omega, hz.2.1, fun q hq => post_tup (ps := []) sr (show VRs K H μ [] [] from rfl) hq h⟩⟩)
    · rw [if_neg hz] at h
      exact h.elim
  · exact h.elim
def fdivV (x y : PV) : M PV := match x, y with
  | .int i, .int j => if (j ≠ 0 ∧ j.natAbs < 1073741824) ∨ (0 < j ∧ j.natAbs.log2 < 9000) then M.ret (.int (i.fdiv j)) else M.fail
  | _, _ => M.fail
theorem t_fdiv {K : KW} : T2 K (fun x y H Q => rI CDivN (fun i j => .int (i.fdiv j)) x y H Q ∨ rI CDivW (fun i j => .int (i / j)) x y H Q) fdivV := by
  intro μ st H x y u v E Q sr rx ry h
  unfold fdivV at h
  split at h
  · rename_i i j
    cases (show u = V.int i from rx); cases (show v = V.int j from ry)
    by_cases hz : (j ≠ 0 ∧ j.natAbs < 1073741824) ∨ (0 < j ∧ j.natAbs.log2 < 9000)
    · rw [if_pos hz] at h
      rcases hz with hz | hz
      · exact .inl ⟨_, _, rfl, rfl, hz, post_same h sr rfl⟩
      · refine .inr ⟨_, _, rfl, rfl, hz, ?_⟩
        have q := post_same (v := V.int (i.fdiv j)) h sr rfl
        rw [Int.fdiv_eq_ediv_of_nonneg i (by omega)] at q
        exact q
    · rw [if_neg hz] at h
      exact h.elim
  · exact h.elim
def modV (x y : PV) : M PV := match x, y with
  | .int i, .int j => if j ≠ 0 then M.ret (.int (i.fmod j)) else M.fail
  | _, _ => M.fail
theorem t_mod {K : KW} : T2 K (rI (fun _ j => j ≠ 0) fun i j => .int (i.fmod j)) modV := by
  intro μ st H x y u v E Q sr rx ry h
  unfold modV at h
  split at h
  · rename_i i j
    cases (show u = V.int i from rx); cases (show v = V.int j from ry)
    by_cases hz : j ≠ 0
    · rw [if_pos hz] at h
      exact ⟨_, _, rfl, rfl, hz, post_same h sr rfl⟩
    · rw [if_neg hz] at h
      exact h.elim
  · exact h.elim
def powV (x y : PV) : M PV := match x, y with
  | .int i, .int j => if 0 ≤ j ∧ j ≤ 1000000 ∧ i.natAbs < 18446744073709551616 then M.ret (.int (i ^ j.toNat)) else M.fail
  | _, _ => M.fail
theorem t_pow {K : KW} : T2 K (rI CPow fun i j => .int (i ^ j.toNat)) powV := by
  intro μ st H x y u v E Q sr rx ry h
  unfold powV at h
  split at h
  · rename_i i j
    cases (show u = V.int i from rx); cases (show v = V.int j from ry)
    by_cases hz : 0 ≤ j ∧ j ≤ 1000000 ∧ i.natAbs < 18446744073709551616
    · rw [if_pos hz] at h
      exact ⟨_, _, rfl, rfl, hz, post_same h sr rfl⟩
    · rw [if_neg hz] at h
      exact h.elim
  · exact h.elim
def negV (x : PV) : M PV := match x with
  | .int i => M.ret (.int (-i))
  | _ => M.fail
theorem t_neg {K : KW} : T1 K (rU fun i => .int (-i)) negV := by
  intro μ st H x u E Q sr rx h
  unfold negV at h
  split at h
  · cases (show u = V.int _ from rx)
    exact ⟨_, rfl, post_same h sr rfl⟩
  · exact h.elim
section
variable {X : Cx} {W : WX} {a b : Expr} {pos : Pos} {ma mb : Rho → M PV}
theorem me_add (ha : ME X W a ma) (hb : ME X W b mb) : ME X W (.BinOp a .Add b pos) (eBin addV ma mb) := me_bin op_addM t_add ha hb
theorem me_sub (ha : ME X W a ma) (hb : ME X W b mb) : ME X W (.BinOp a .Sub b pos) (eBin subV ma mb) := me_bin op_sub t_sub ha hb
theorem me_mul (ha : ME X W a ma) (hb : ME X W b mb) : ME X W (.BinOp a .Mult b pos) (eBin mulV ma mb) := me_bin (op_mul.or (op_repT.or op_repL)) t_mul ha hb
theorem me_fdiv (ha : ME X W a ma) (hb : ME X W b mb) : ME X W (.BinOp a .FloorDiv b pos) (eBin fdivV ma mb) := me_bin (op_fdivN.or op_fdivW) t_fdiv ha hb
theorem me_mod (ha : ME X W a ma) (hb : ME X W b mb) : ME X W (.BinOp a .Mod b pos) (eBin modV ma mb) := me_bin op_modN t_mod ha hb
theorem me_pow (ha : ME X W a ma) (hb : ME X W b mb) : ME X W (.BinOp a .Pow b pos) (eBin powV ma mb) := me_bin op_pow t_pow ha hb
theorem me_neg (ha : ME X W a ma) : ME X W (.UnaryOp .USub a pos) (eUn negV ma) := me_un un_neg t_neg ha
end
def ltV (p : Int → Int → Bool) (x y : PV) : M PV := match x, y with
  | .int i, .int j => M.ret (.bl (p i j))
  | _, _ => M.fail
theorem t_cmpI {K : KW} (p : Int → Int → Bool) : T2 K (rI0 fun i j => .bl (p i j)) (ltV p) := by
  intro μ st H x y u v E Q sr rx ry h
  unfold ltV at h
  split at h
  · cases (show u = V.int _ from rx); cases (show v = V.int _ from ry)
    exact ⟨_, _, rfl, rfl, post_same h sr rfl⟩
  · exact h.elim
abbrev ltI : PV → PV → M PV := ltV fun i j => decide (i < j)
abbrev leI : PV → PV → M PV := ltV fun i j => decide (i ≤ j)
abbrev gtI : PV → PV → M PV := ltV fun i j => decide (j < i)
abbrev geI : PV → PV → M PV := ltV fun i j => decide (j ≤ i)
mutual
def eqb : PV → PV → Bool
  | .non, .non => true
  | .bl a, .bl b => a == b
  | .bl a, .int j => (if a then 1 else 0) == j
  | .int i, .bl b => i == (if b then 1 else 0)
  | .int i, .int j => i == j
  | .str x, .str y => x == y
  | .lst xs, .lst ys => eqbs xs ys
  | .tup xs, .tup ys => eqbs xs ys
  | _, _ => false
def eqbs : List PV → List PV → Bool
  | [], [] => true
  | x :: xs, y :: ys => eqb x y && eqbs xs ys
  | _, _ => false
end
mutual
def toD : PV → Option PyData
  | .non => some .none
  | .bl b => some (.bool b)
  | .int i => some (.int i)
  | .str x => some (.str ⟨x.toArray⟩)
  | .lst xs => (toDs xs).map .list
  | .tup xs => (toDs xs).map .tuple
  | _ => none
def toDs : List PV → Option (List PyData)
  | [] => some []
  | x :: xs => match toD x, toDs xs with
    | some d, some ds => some (d :: ds)
    | _, _ => none
end
end MP

set_option maxRecDepth 100000
set_option maxHeartbeats 1000000
namespace MP
open PySem L2
def lookP : List (PV × PV) → PV → Option PV
  | [], _ => none
  | p :: r, k => if p.1 = k then some p.2 else lookP r k
def putP (kvs : List (PV × PV)) (k v : PV) : List (PV × PV) :=
  if (kvs.any fun kv => decide (kv.1 = k)) = true then kvs.map (fun kv => if kv.1 = k then (kv.1, v) else kv) else kvs ++ [(k, v)]
section
variable {K : PySem.W.Frag} {H : Hp} {μ : Mu}
theorem valueAt_nil {κ : Type} [DecidableEq κ] {k : κ} : valueAt ([] : List (κ × Value)) k = none := rfl
theorem valueAt_pos {κ : Type} [DecidableEq κ] {x : κ × Value} {r : List (κ × Value)} {k : κ} (e : x.1 = k) : valueAt (x :: r) k = some x.2 := by simp [valueAt, List.find?_cons, e]
theorem valueAt_neg {κ : Type} [DecidableEq κ] {x : κ × Value} {r : List (κ × Value)} {k : κ} (e : ¬ x.1 = k) : valueAt (x :: r) k = valueAt r k := by simp [valueAt, List.find?_cons, e]
theorem atKey_pos {κ : Type} [DecidableEq κ] {x : κ × Addr × Value} {r : List (κ × Addr × Value)} {k : κ} (e : x.1 = k) : atKey (x :: r) k = some x.2 := by simp [atKey, List.find?_cons, e]
theorem atKey_neg {κ : Type} [DecidableEq κ] {x : κ × Addr × Value} {r : List (κ × Addr × Value)} {k : κ} (e : ¬ x.1 = k) : atKey (x :: r) k = atKey r k := by simp [atKey, List.find?_cons, e]
theorem lf_dec {p k : PV} {x l : Leaf} (h : lfOf p = some x) (hk : lfOf k = some l) : (x = l) = (p = k) := by
  refine propext ⟨fun e => ?_, fun e => ?_⟩
  · rw [← e] at hk; exact lfOf_inj h hk
  · rw [e, hk] at h; exact (Option.some.inj h).symm
theorem nk_dec {p k : PV} {x l : NestedKey} (h : nkT p = some x) (hk : nkT k = some l) : (x = l) = (p = k) := by
  refine propext ⟨fun e => ?_, fun e => ?_⟩
  · rw [← e] at hk; exact nkT_inj h hk
  · rw [e, hk] at h; exact (Option.some.inj h).symm
theorem LRs.look {k : PV} {l : Leaf} (hk : lfOf k = some l) {kvs : List (PV × PV)} {xs : List (Leaf × Value)} (r : LRs K H μ kvs xs) :
    ∃ o : Option V, RelO o (valueAt xs l) ∧ (∀ p, lookP kvs k = some p → ∃ v, o = some v ∧ VR K H μ p v) ∧ (lookP kvs k = none → o = none) := by
  unfold LRs at r
  induction r with
  | nil => exact ⟨none, trivial, fun p h => (by cases h), fun _ => rfl⟩
  | @cons p x ps xs h t ih =>
    obtain ⟨h1, v, h2, h3⟩ := h
    unfold lookP
    by_cases e : p.1 = k
    · have e' : x.1 = l := by rw [lf_dec h1 hk]; exact e
      rw [if_pos e, valueAt_pos e']
      exact ⟨some v, h3, fun q hq => by cases hq; exact ⟨v, rfl, h2⟩, fun h => (by cases h)⟩
    · have e' : ¬ x.1 = l := by rw [lf_dec h1 hk]; exact e
      rw [if_neg e, valueAt_neg e']
      exact ih
theorem NRs.look {k : PV} {l : NestedKey} (hk : nkT k = some l) {kvs : List (PV × PV)} {xs : List (NestedKey × Addr × Value)} (r : NRs K H μ kvs xs) :
    ∃ o : Option V, RelO o ((atKey xs l).map (·.2)) ∧ (∀ p, lookP kvs k = some p → ∃ v, o = some v ∧ VR K H μ p v) ∧ (lookP kvs k = none → o = none) := by
  unfold NRs at r
  induction r with
  | nil => exact ⟨none, trivial, fun p h => (by cases h), fun _ => rfl⟩
  | @cons p x ps xs h t ih =>
    obtain ⟨h1, _, v, h2, h3⟩ := h
    unfold lookP
    by_cases e : p.1 = k
    · have e' : x.1 = l := by rw [nk_dec h1 hk]; exact e
      rw [if_pos e, atKey_pos e']
      exact ⟨some v, h3, fun q hq => by cases hq; exact ⟨v, rfl, h2⟩, fun h => (by cases h)⟩
    · have e' : ¬ x.1 = l := by rw [nk_dec h1 hk]; exact e
      rw [if_neg e, atKey_neg e']
      exact ih
theorem LRs.any {k : PV} {l : Leaf} (hk : lfOf k = some l) {kvs : List (PV × PV)} {xs : List (Leaf × Value)} (r : LRs K H μ kvs xs) : (xs.any fun x => decide (x.1 = l)) = (kvs.any fun x => decide (x.1 = k)) := by
  unfold LRs at r
  induction r with
  | nil => rfl
  | cons h t ih => rw [List.any_cons, List.any_cons, ih]; simp only [lf_dec h.1 hk]
theorem NRs.any {k : PV} {l : NestedKey} (hk : nkT k = some l) {kvs : List (PV × PV)} {xs : List (NestedKey × Addr × Value)} (r : NRs K H μ kvs xs) : (atKey xs l).isSome = (kvs.any fun x => decide (x.1 = k)) := by
  unfold NRs at r
  induction r with
  | nil => rfl
  | @cons p x ps xs h t ih =>
    rw [List.any_cons]
    by_cases e : p.1 = k
    · have e' : x.1 = l := by rw [nk_dec h.1 hk]; exact e
      rw [atKey_pos e', decide_eq_true e]; rfl
    · have e' : ¬ x.1 = l := by rw [nk_dec h.1 hk]; exact e
      rw [atKey_neg e', decide_eq_false e, ih]; rfl
theorem LRs.put {k p : PV} {l : Leaf} {v : V} {r : Value} (hk : lfOf k = some l) (rp : VR K H μ p v) (rv : RelV v r) {kvs : List (PV × PV)} {xs : List (Leaf × Value)} (h : LRs K H μ kvs xs) : LRs K H μ (putP kvs k p) (stored xs l r) := by
  unfold putP stored
  rw [h.any hk]
  split
  · next hsome =>
    clear hsome
    unfold LRs at h ⊢
    induction h with
    | nil => exact .nil
    | @cons q x qs xs h t ih =>
      rw [List.map_cons, List.map_cons]
      refine .cons ?_ ih
      simp only [lf_dec h.1 hk]
      by_cases e : q.1 = k
      · rw [if_pos e, if_pos e]; exact ⟨h.1, v, rp, rv⟩
      · rw [if_neg e, if_neg e]; exact h
  · exact Paired.snoc h ⟨hk, v, rp, rv⟩
theorem NRs.put {k p : PV} {l : NestedKey} {b : Addr} {v : V} {r : Value} (hk : nkT k = some l) (rk : VR K H μ k (.ref b)) (rp : VR K H μ p v) (rv : RelV v r) {kvs : List (PV × PV)} {xs : List (NestedKey × Addr × Value)} (h : NRs K H μ kvs xs) :
    NRs K H μ (putP kvs k p) (storedH xs l b r) := by
  unfold putP storedH
  rw [h.any hk]
  split
  · next hsome =>
    clear hsome
    unfold NRs at h ⊢
    induction h with
    | nil => exact .nil
    | @cons q x qs xs h t ih =>
      rw [List.map_cons, List.map_cons]
      refine .cons ?_ ih
      unfold putAt
      simp only [nk_dec h.1 hk]
      by_cases e : q.1 = k
      · rw [if_pos e, if_pos e]; exact ⟨h.1, h.2.1, v, rp, rv⟩
      · rw [if_neg e, if_neg e]; exact h
  · exact Paired.snoc h ⟨hk, rk, v, rp, rv⟩
theorem putP_len (kvs : List (PV × PV)) (k v : PV) : (putP kvs k v).length ≤ kvs.length + 1 := by
  unfold putP
  split
  · rw [List.length_map]; omega
  · rw [List.length_append]; simp
theorem stored_nodup {κ : Type} [DecidableEq κ] {xs : List (κ × Value)} {l : κ} {r : Value} (h : (xs.map (·.1)).Nodup) : ((stored xs l r).map (·.1)).Nodup := by
  unfold stored
  split
  · have e : (xs.map fun kv => if kv.1 = l then (kv.1, r) else kv).map (·.1) = xs.map (·.1) := by
      rw [List.map_map]; apply List.map_congr_left; intro x _; simp only [Function.comp]; split <;> rfl
    rw [e]; exact h
  · next q =>
    rw [List.map_append, List.nodup_append]
    refine ⟨h, by simp, fun a ha b hb => ?_⟩
    simp at hb
    subst hb
    rintro rfl
    apply q
    obtain ⟨x, hx, rfl⟩ := List.mem_map.mp ha
    exact List.any_eq_true.mpr ⟨x, hx, by simp⟩
theorem storedH_nodup {κ : Type} [DecidableEq κ] {xs : List (κ × Addr × Value)} {l : κ} {b : Addr} {r : Value} (h : (xs.map (·.1)).Nodup) : ((storedH xs l b r).map (·.1)).Nodup := by
  unfold storedH
  split
  · have e : (xs.map (putAt l r)).map (·.1) = xs.map (·.1) := by
      rw [List.map_map]; apply List.map_congr_left; intro x _; simp only [Function.comp, putAt]; split <;> rfl
    rw [e]; exact h
  · next q =>
    rw [List.map_append, List.nodup_append]
    refine ⟨h, by simp, fun a ha c hc => ?_⟩
    simp at hc
    subst hc
    rintro rfl
    apply q
    obtain ⟨x, hx, rfl⟩ := List.mem_map.mp ha
    unfold atKey
    rw [Option.isSome_map]
    exact List.find?_isSome.mpr ⟨x, hx, by simp⟩
end
section
variable {X : Cx} {pins : List (Addr × Obj)} {σ : L2.St} {H : Hp} {s : Shared} {μ : Mu}
mutual
theorem nk_is (I : Inv X pins σ H s) : ∀ (p : PV) (k : NestedKey) (v : V) (u : Value), nkOf p = some k → VR X.K H μ p v → RelV v u → NestedIs s.heap k u
  | .non, k, v, u, h, r, q => by
    cases (show some NestedKey.none = some k by rw [← h]; rfl)
    cases (show v = V.non from r)
    cases (show u = Value.none from q)
    exact .none
  | .int i, k, v, u, h, r, q => by
    cases (show some (NestedKey.num i) = some k by rw [← h]; rfl)
    cases (show v = V.int i from r)
    obtain ⟨t, rfl⟩ := (show ∃ t, u = Value.int i t from q)
    exact .int i t
  | .str x, k, v, u, h, r, q => by
    cases (show some (NestedKey.text ⟨x.toArray⟩) = some k by rw [← h]; rfl)
    cases (show v = V.str ⟨x.toArray⟩ from r)
    obtain ⟨t, rfl⟩ := (show ∃ t, u = Value.str ⟨x.toArray⟩ t from q)
    exact .text _ t
  | .tup xs, k, v, u, h, r, q => by
    obtain ⟨ks, e1, rfl⟩ := nkOf_tup h
    obtain ⟨a, vs, rfl, t, rs⟩ := (show ∃ a vs, v = .ref a ∧ TupAt X.K H μ a vs ∧ VRs X.K H μ xs vs from r)
    cases (show u = Value.ref a from q)
    obtain ⟨its, r', ⟨o, ho, hc, n, hd⟩, _⟩ := I.tuple t.sq
    exact .tup ho hc hd (by simpa using nks_is I xs ks vs its e1 rs r')
  | .bl _, _, _, _, h, _, _ => by cases h
  | .ty _, _, _, _, h, _, _ => by cases h
  | .gl _, _, _, _, h, _, _ => by cases h
  | .lst _, _, _, _, h, _, _ => by cases h
  | .frz _, _, _, _, h, _, _ => by cases h
  | .loc _, _, _, _, h, _, _ => by cases h
theorem nks_is (I : Inv X pins σ H s) : ∀ (ps : List PV) (ks : List NestedKey) (vs : List V) (us : List Value), nksOf ps = some ks → VRs X.K H μ ps vs → Vals vs us → NestedAll s.heap ks us
  | [], ks, vs, us, h, r, q => by
    cases (show some ([] : List NestedKey) = some ks by rw [← h]; rfl)
    cases (show vs = [] from r)
    cases q
    exact .nil
  | p :: ps, ks, vs, us, h, r, q => by
    obtain ⟨k, t, e1, e2, rfl⟩ := nksOf_cons h
    obtain ⟨v, vs', rfl, r1, r2⟩ := (show ∃ v r, vs = v :: r ∧ VR X.K H μ p v ∧ VRs X.K H μ ps r from r)
    cases q with
    | cons q1 q2 => exact .cons (nk_is I p k v _ e1 r1 q1) (nks_is I ps t vs' _ e2 r2 q2)
end
end
def NK (K : PySem.W.Frag) (H : Hp) (k : NestedKey) (b : Addr) : Prop := ∃ μ p, nkT p = some k ∧ VR K H μ p (.ref b)
theorem NK.is {X : Cx} {pins : List (Addr × Obj)} {σ : L2.St} {H : Hp} {s : Shared} (I : Inv X pins σ H s) {k : NestedKey} {b : Addr} (h : NK X.K H k b) : (nestedKind X.prog X.w).is s.heap k b := by
  obtain ⟨μ, p, h1, h2⟩ := h
  obtain ⟨h3, h4⟩ := nkT_of h1
  exact ⟨nk_is I p k _ _ h3 h2 rfl, h4⟩
def GGet (K : KW) (H : Hp) (a : Addr) (y : V) (o : Option V) : Prop :=
  (∃ xs k, H a = some (leafD K.w a xs) ∧ (a == sysModules) = false ∧ (xs.map (·.1)).Nodup ∧ (∀ u, RelV y u → Leaf.isOf k u = true) ∧ RelO o (valueAt xs k)) ∨
  (∃ xs k b, H a = some (nestD K.w a xs) ∧ (a == sysModules) = false ∧ (xs.map (·.1)).Nodup ∧ (∀ x ∈ xs, NK K H x.1 x.2.1) ∧ y = .ref b ∧ NK K H k b ∧ RelO o ((atKey xs k).map (·.2)))
def GPut (K : KW) (H : Hp) (a : Addr) (y v : V) (Q : Hp → Prop) : Prop :=
  (∃ xs k, H a = some (leafD K.w a xs) ∧ (a == sysModules) = false ∧ (xs.map (·.1)).Nodup ∧ xs.length ≤ sizeLine ∧ (∀ u, RelV y u → Leaf.isOf k u = true) ∧ ∀ r, RelV v r → Q (upd H a (leafD K.w a (stored xs k r)))) ∨
  (∃ xs k b, H a = some (nestD K.w a xs) ∧ (a == sysModules) = false ∧ (xs.map (·.1)).Nodup ∧ xs.length ≤ sizeLine ∧ (∀ x ∈ xs, NK K H x.1 x.2.1) ∧ y = .ref b ∧ NK K H k b ∧ ∀ r, RelV v r → Q (upd H a (nestD K.w a (storedH xs k b r))))
section
variable {X : Cx} {pins : List (Addr × Obj)} {σ : L2.St} {H : Hp} {s : Shared} {a : Addr} {A : Around} {E : Value → Shared → Prop} {y v : V} {o : Option V} {u r : Value}
theorem leaf_rd {xs : List (Leaf × Value)} (I : Inv X pins σ H s) (e : H a = some (leafD X.w a xs)) (nd : (xs.map (·.1)).Nodup) : s.heap.DictOf (leafKind X.prog X.w) a xs := by
  obtain ⟨⟨o, es, ep, h1, h2, h3, h4⟩, h5, h6⟩ := (show ObjOk X.prog X.w H s.heap a (leafD X.w a xs) from I.hok a _ e)
  refine ⟨o, es, ep, h1, h2, h3, ?_, ?_, nd⟩
  · intro z hz
    have hz' : z ∈ es.toList := by simpa using hz
    clear h3 nd e h6 h5
    generalize es.toList = l at h4 hz'
    induction h4 with
    | nil => cases hz'
    | @cons e x es' xs' q t ih =>
      rcases List.mem_cons.mp hz' with rfl | hz'
      · exact ⟨x.1, q.1, q.2.1⟩
      · exact ih hz'
  · clear h3 nd e h6 h5
    generalize es.toList = l at h4
    induction h4 with
    | nil => exact .nil
    | cons q t ih => exact .cons q.1 q.2.2 ih
theorem nest_rd {xs : List (NestedKey × Addr × Value)} (I : Inv X pins σ H s) (e : H a = some (nestD X.w a xs)) (nd : (xs.map (·.1)).Nodup) (hk : ∀ x ∈ xs, NK X.K H x.1 x.2.1) : s.heap.DictOfH (nestedKind X.prog X.w) a xs := by
  obtain ⟨⟨o, es, ep, h1, h2, h3, h4⟩, _, _⟩ := (show ObjOk X.prog X.w H s.heap a (nestD X.w a xs) from I.hok a _ e)
  exact ⟨o, es, ep, h1, h2, h3, h4, fun x hx => (hk x hx).is I, nd⟩
theorem leafD_stay {w : World} {xs : List (Leaf × Value)} : ∀ h1 h2 : Heap, (∃ o es ep, h1.get? a = some o ∧ o.ExactDict ∧ o.data = .dict es ep ∧ Paired (entL w) es.toList xs) → (∀ o, h1.get? a = some o → h2.get? a = some o) → (∃ o es ep, h2.get? a = some o ∧ o.ExactDict ∧ o.data = .dict es ep ∧ Paired (entL w) es.toList xs) :=
  fun h1 h2 ⟨o, es, ep, q1, q2⟩ k => ⟨o, es, ep, k o q1, q2⟩
theorem nestD_stay {w : World} {xs : List (NestedKey × Addr × Value)} : ∀ h1 h2 : Heap, (∃ o es ep, h1.get? a = some o ∧ o.ExactDict ∧ o.data = .dict es ep ∧ es.toList = xs.map (entN w)) → (∀ o, h1.get? a = some o → h2.get? a = some o) → (∃ o es ep, h2.get? a = some o ∧ o.ExactDict ∧ o.data = .dict es ep ∧ es.toList = xs.map (entN w)) :=
  fun h1 h2 ⟨o, es, ep, q1, q2⟩ k => ⟨o, es, ep, k o q1, q2⟩
theorem leaf_ok {P : Program} {w : World} {H' : Hp} {h' : Heap} {xs : List (Leaf × Value)} (dd : h'.DictOf (leafKind P w) a xs) : ObjOk P w H' h' a (leafD w a xs) := by
  obtain ⟨o, es, ep, h1, h2, h3, h4, h5, nd⟩ := dd
  refine ⟨⟨o, es, ep, h1, h2, h3, ?_⟩, ⟨o, h1⟩, leafD_stay⟩
  have h4' : ∀ e ∈ es.toList, ∃ k, (leafKind P w).is k e.key = true ∧ e.hash = (leafKind P w).hash k := fun e he => h4 e (by simpa using he)
  clear h3 h4 nd
  generalize es.toList = l at h4' h5
  induction h5 with
  | nil => exact .nil
  | @cons e kv es' kvs' q1 q2 t ih =>
    refine .cons ⟨q1, ?_, q2⟩ (ih fun z hz => h4' z (List.mem_cons_of_mem _ hz))
    obtain ⟨k, e1, e2⟩ := h4' e List.mem_cons_self
    rw [e2, (leafKind P w).inj _ _ _ q1 e1]
    rfl
theorem nest_ok {P : Program} {w : World} {H' : Hp} {h' : Heap} {xs : List (NestedKey × Addr × Value)} (dd : h'.DictOfH (nestedKind P w) a xs) : ObjOk P w H' h' a (nestD w a xs) := by
  obtain ⟨o, es, ep, h1, h2, h3, h4, _, _⟩ := dd
  exact ⟨⟨o, es, ep, h1, h2, h3, h4⟩, ⟨o, h1⟩, nestD_stay⟩
theorem room1 (hu : A.units + 64 < cLine) : (nestedKind X.prog X.w).room A.in1 := by
  show A.units + 1 + 8 < cLine
  omega
theorem g_getItem {Q : Value → Shared → Prop} (hu : A.units + 64 < cLine) (I : Inv X pins σ H s) (g : GGet (kw X) H a y (some v)) (ry : RelV y u) (h : ∀ w' s', Inv X pins σ H s' → RelV v w' → Q w' s') :
    wpAny (model X.prog X.w) A (getItem (.ref a) u) Q E s := by
  rcases g with ⟨xs, k, e, hs, nd, hk, ro⟩ | ⟨xs, k, b, e, hs, nd, hks, rfl, hb, ro⟩
  · have dd := leaf_rd I e nd
    obtain ⟨w', hw, rw'⟩ := RelO.some_of (v := v) (o := valueAt xs k) ro
    exact wpAny_getItem_of (hk u ry) dd.mapOf hw (h w' _ (I.tok _) rw')
  · cases (show u = Value.ref b from ry)
    have dd := nest_rd I e nd hks
    obtain ⟨w', hw, rw'⟩ := RelO.some_of (v := v) (o := (atKey xs k).map (·.2)) ro
    obtain ⟨p, hp, hp2⟩ := Option.map_eq_some_iff.mp hw
    refine wpAny_getItem_heap (room1 hu) (hb.is I) dd hp ?_
    rw [hp2]
    exact h w' _ (I.tok _) rw'
theorem g_in {Q : Value → Shared → Prop} (hu : A.units + 64 < cLine) (I : Inv X pins σ H s) (g : GGet (kw X) H a y o) (ry : RelV y u) (h : ∀ s', Inv X pins σ H s' → Q (.bool o.isSome) s') :
    wpAny (model X.prog X.w) A (compareOp .In u (.ref a)) Q E s := by
  rcases g with ⟨xs, k, e, hs, nd, hk, ro⟩ | ⟨xs, k, b, e, hs, nd, hks, rfl, hb, ro⟩
  · refine wpAny_in_of (hk u ry) hs (leaf_rd I e nd).mapOf ?_
    rw [← ro.isSome_eq]
    exact h _ (I.tok _)
  · cases (show u = Value.ref b from ry)
    refine wpAny_in_heap (room1 hu) (hb.is I) hs (nest_rd I e nd hks) ?_
    have q := ro.isSome_eq
    rw [Option.isSome_map] at q
    rw [← q]
    exact h _ (I.tok _)
theorem g_notIn {Q : Value → Shared → Prop} (hu : A.units + 64 < cLine) (I : Inv X pins σ H s) (g : GGet (kw X) H a y o) (ry : RelV y u) (h : ∀ s', Inv X pins σ H s' → Q (.bool (!o.isSome)) s') :
    wpAny (model X.prog X.w) A (compareOp .NotIn u (.ref a)) Q E s := by
  rcases g with ⟨xs, k, e, hs, nd, hk, ro⟩ | ⟨xs, k, b, e, hs, nd, hks, rfl, hb, ro⟩
  · refine wpAny_notIn_of (hk u ry) hs (leaf_rd I e nd).mapOf ?_
    rw [← ro.isSome_eq]
    exact h _ (I.tok _)
  · cases (show u = Value.ref b from ry)
    refine PyProof.Rows.wpAny_notIn_heap (room1 hu) (hb.is I) hs (nest_rd I e nd hks) ?_
    have q := ro.isSome_eq
    rw [Option.isSome_map] at q
    rw [← q]
    exact h _ (I.tok _)
theorem g_typeIs (I : Inv X pins σ H s) (g : GGet (kw X) H a y o) : s.TypeIs (.ref a) "dict" := by
  rcases g with ⟨xs, k, e, hs, nd, hk, ro⟩ | ⟨xs, k, b, e, hs, nd, hks, rfl, hb, ro⟩
  · exact (leaf_rd I e nd).typeIs
  · exact (nest_rd I e nd hks).typeIs
theorem g_get1 {Q : Value → Shared → Prop} (hu : A.units + 64 < cLine) (I : Inv X pins σ H s) (g : GGet (kw X) H a y o) (ry : RelV y u) (h : ∀ w' s', Inv X pins σ H s' → RelV (o.getD .non) w' → Q w' s') :
    wpAny (model X.prog X.w) A (call (.builtin "dict.get") [.ref a, u]) Q E s := by
  rcases g with ⟨xs, k, e, hs, nd, hk, ro⟩ | ⟨xs, k, b, e, hs, nd, hks, rfl, hb, ro⟩
  · have dd := leaf_rd I e nd
    exact call_meetsIn PySem.F.slot_dict_get dd.typeIs PySem.F.entry_dict_get (PySem.F.args_dict_get_2 _ _) (meets_dict_get (leafKind X.prog X.w) a (hk u ry) hs) ⟨_, dd.mapOf, h _ _ (I.tok _) (ro.getD rfl)⟩
  · cases (show u = Value.ref b from ry)
    have dd := nest_rd I e nd hks
    exact call_meetsIn PySem.F.slot_dict_get dd.typeIs PySem.F.entry_dict_get (PySem.F.args_dict_get_2 _ _) (meetsH_dict_get (nestedKind X.prog X.w) a b hs) ⟨room1 hu, k, xs, hb.is I, dd, h _ _ (I.tok _) (ro.getD rfl)⟩
theorem g_setItem {Q : Unit → Shared → Prop} {QH : Hp → Prop} (hu : A.units + 64 < cLine) (I : Inv X pins σ H s) (g : GPut (kw X) H a y v QH) (ry : RelV y u) (rv : RelV v r) (h : ∀ H' s', Inv X pins σ H' s' → QH H' → Q () s') :
    wpAny (model X.prog X.w) A (setItem (.ref a) u r) Q E s := by
  rcases g with ⟨xs, k, e, hs, nd, hz, hk, q⟩ | ⟨xs, k, b, e, hs, nd, hz, hks, rfl, hb, q⟩
  · refine wpAny_setItem_pairs (hsz := hz) (hk u ry) (leaf_rd I e nd) fun h' dd' sb => h _ _ ?_ (q r rv)
    have he : ∃ q, h'.get? a = some q := let ⟨q, _, _, hq, _⟩ := dd'; ⟨q, hq⟩
    exact d_write I (by rw [e]; exact True.intro) sb he (leaf_ok dd')
  · cases (show u = Value.ref b from ry)
    refine wpAny_setItem_heap (hsz := hz) (room1 hu) (hb.is I) (nest_rd I e nd hks) fun h' dd' sb => h _ _ ?_ (q r rv)
    have he : ∃ q, h'.get? a = some q := let ⟨q, _, _, hq, _⟩ := dd'; ⟨q, hq⟩
    exact d_write I (by rw [e]; exact True.intro) sb he (nest_ok dd')
end
section
variable {K : KW} {H : Hp} {μ : Mu} {a : Addr} {kvs : List (PV × PV)} {k p : PV} {y v : V}
theorem lf_V {l : Leaf} (h : lfOf k = some l) (r : VR K H μ k y) : ∀ u, RelV y u → Leaf.isOf l u = true := by
  intro u q
  cases k with
  | non => cases h; cases (show y = V.non from r); cases (show u = Value.none from q); rfl
  | int i =>
    cases h; cases (show y = V.int i from r)
    obtain ⟨t, rfl⟩ := (show ∃ t, u = Value.int i t from q)
    simp [Leaf.isOf]
  | str x =>
    cases h; cases (show y = V.str ⟨x.toArray⟩ from r)
    obtain ⟨t, rfl⟩ := (show ∃ t, u = Value.str ⟨x.toArray⟩ t from q)
    simp [Leaf.isOf, Value.isStrOf]
  | _ => cases h
theorem nk_ref {l : NestedKey} (h : nkT k = some l) (r : VR K H μ k y) : ∃ b, y = .ref b := by
  cases k with
  | tup xs => obtain ⟨b, vs, e, _⟩ := (show ∃ a vs, y = .ref a ∧ TupAt K H μ a vs ∧ VRs K H μ xs vs from r); exact ⟨b, e⟩
  | _ => cases h
theorem NRs.nk {xs : List (NestedKey × Addr × Value)} (r : NRs K H μ kvs xs) : ∀ x ∈ xs, NK K H x.1 x.2.1 := by
  unfold NRs at r
  induction r with
  | nil => intro x h; cases h
  | @cons p x ps xs h t ih =>
    intro z hz
    rcases List.mem_cons.mp hz with rfl | hz
    · exact ⟨μ, p.1, h.1, h.2.1⟩
    · exact ih z hz
theorem CR.getL (c : CR K H μ a (.dcl kvs)) {l : Leaf} (hk : lfOf k = some l) (rk : VR K H μ k y) :
    ∃ o, GGet K H a y o ∧ (∀ p, lookP kvs k = some p → ∃ v, o = some v ∧ VR K H μ p v) ∧ (lookP kvs k = none → o = none) := by
  obtain ⟨xs, e, hs, hz, r, nd⟩ := c
  obtain ⟨o, ro, h1, h2⟩ := r.look hk
  exact ⟨o, .inl ⟨xs, l, e, hs, nd, lf_V hk rk, ro⟩, h1, h2⟩
theorem CR.getN (c : CR K H μ a (.dcn kvs)) {l : NestedKey} (hk : nkT k = some l) (rk : VR K H μ k y) :
    ∃ o, GGet K H a y o ∧ (∀ p, lookP kvs k = some p → ∃ v, o = some v ∧ VR K H μ p v) ∧ (lookP kvs k = none → o = none) := by
  obtain ⟨xs, e, hs, hz, r, nd⟩ := c
  obtain ⟨o, ro, h1, h2⟩ := r.look hk
  obtain ⟨b, rfl⟩ := nk_ref hk rk
  exact ⟨o, .inr ⟨xs, l, b, e, hs, nd, r.nk, rfl, ⟨μ, k, hk, rk⟩, ro⟩, h1, h2⟩
theorem CR.putL {Q : Hp → Prop} {n : Nat} (c : CR K H μ a (.dcl kvs)) (ha : μ.l[n]? = some a) {l : Leaf} (hk : lfOf k = some l) (hz : kvs.length < sizeLine) (rk : VR K H μ k y) (rv : VR K H μ p v) (h : ∀ o, CR K (upd H a o) μ a (.dcl (putP kvs k p)) → Q (upd H a o)) : GPut K H a y v Q := by
  obtain ⟨xs, e, hs, hz', r, nd⟩ := c
  have hl : xs.length = kvs.length := (Paired.length r).symm
  have hz2 := putP_len kvs k p
  exact .inl ⟨xs, l, e, hs, nd, by omega, lf_V hk rk, fun rr q => h _ ⟨_, upd_same, hs, by omega, (r.put hk rv q).mono (gv_put ha), stored_nodup nd⟩⟩
theorem CR.putN {Q : Hp → Prop} {n : Nat} (c : CR K H μ a (.dcn kvs)) (ha : μ.l[n]? = some a) {l : NestedKey} (hk : nkT k = some l) (hz : kvs.length < sizeLine) (rk : VR K H μ k y) (rv : VR K H μ p v) (h : ∀ o, CR K (upd H a o) μ a (.dcn (putP kvs k p)) → Q (upd H a o)) : GPut K H a y v Q := by
  obtain ⟨xs, e, hs, hz', r, nd⟩ := c
  have hl : xs.length = kvs.length := (Paired.length r).symm
  have hz2 := putP_len kvs k p
  obtain ⟨b, rfl⟩ := nk_ref hk rk
  exact .inr ⟨xs, l, b, e, hs, nd, by omega, r.nk, rfl, ⟨μ, k, hk, rk⟩, fun rr q => h _ ⟨_, upd_same, hs, by omega, (r.put hk rk rv q).mono (gv_put ha), storedH_nodup nd⟩⟩
end
end MP

set_option maxRecDepth 100000
set_option maxHeartbeats 1000000
namespace MP
open PySem L2
mutual
theorem eqb_eqv : ∀ (x y : PV) (d e : PyData), toD x = some d → toD y = some e → PyData.eqv d e = eqb x y
  | .non, y, d, e, h1, h2 => by
    cases h1
    cases y <;> simp [toD] at h2 <;> (try (obtain ⟨z, _, rfl⟩ := h2)) <;> (try subst h2) <;> simp [PyData.eqv, eqb]
  | .bl a, y, d, e, h1, h2 => by
    cases h1
    cases y <;> simp [toD] at h2 <;> (try (obtain ⟨z, _, rfl⟩ := h2)) <;> (try subst h2) <;> simp [PyData.eqv, eqb]
  | .int a, y, d, e, h1, h2 => by
    cases h1
    cases y <;> simp [toD] at h2 <;> (try (obtain ⟨z, _, rfl⟩ := h2)) <;> (try subst h2) <;> simp [PyData.eqv, eqb]
  | .str a, y, d, e, h1, h2 => by
    cases h1
    cases y <;> simp [toD] at h2 <;> (try (obtain ⟨z, _, rfl⟩ := h2)) <;> (try subst h2) <;> simp [PyData.eqv, eqb]
    rw [Bool.eq_iff_iff]
    simp
  | .tup xs, y, d, e, h1, h2 => by
    simp [toD] at h1
    obtain ⟨ds, q, rfl⟩ := h1
    cases y <;> simp [toD] at h2 <;> (try (obtain ⟨z, qz, rfl⟩ := h2)) <;> (try subst h2) <;> simp [PyData.eqv, eqb]
    exact eqbs_eqv xs _ ds z q qz
  | .lst xs, y, d, e, h1, h2 => by
    simp [toD] at h1
    obtain ⟨ds, q, rfl⟩ := h1
    cases y <;> simp [toD] at h2 <;> (try (obtain ⟨z, qz, rfl⟩ := h2)) <;> (try subst h2) <;> simp [PyData.eqv, eqb]
    exact eqbs_eqv xs _ ds z q qz
  | .ty _, _, _, _, h1, _ => by cases h1
  | .gl _, _, _, _, h1, _ => by cases h1
  | .frz _, _, _, _, h1, _ => by cases h1
  | .loc _, _, _, _, h1, _ => by cases h1
theorem eqbs_eqv : ∀ (xs ys : List PV) (ds es : List PyData), toDs xs = some ds → toDs ys = some es → PyData.eqvAll ds es = eqbs xs ys
  | [], ys, ds, es, h1, h2 => by
    cases h1
    cases ys with
    | nil => cases h2; simp [PyData.eqvAll, eqbs]
    | cons y ys =>
      unfold toDs at h2
      cases q1 : toD y with
      | none => rw [q1] at h2; cases h2
      | some d =>
        cases q2 : toDs ys with
        | none => rw [q1, q2] at h2; cases h2
        | some r => rw [q1, q2] at h2; cases h2; simp [PyData.eqvAll, eqbs]
  | x :: xs, ys, ds, es, h1, h2 => by
    unfold toDs at h1
    cases p1 : toD x with
    | none => rw [p1] at h1; cases h1
    | some d =>
      cases p2 : toDs xs with
      | none => rw [p1, p2] at h1; cases h1
      | some r =>
        rw [p1, p2] at h1
        cases h1
        cases ys with
        | nil => cases h2; simp [PyData.eqvAll, eqbs]
        | cons y ys =>
          unfold toDs at h2
          cases q1 : toD y with
          | none => rw [q1] at h2; cases h2
          | some d' =>
            cases q2 : toDs ys with
            | none => rw [q1, q2] at h2; cases h2
            | some r' =>
              rw [q1, q2] at h2
              cases h2
              simp [PyData.eqvAll, eqbs, eqb_eqv x y d d' p1 q1, eqbs_eqv xs ys r r' p2 q2]
end
section
variable {K : PySem.W.Frag} {H : Hp} {μ : Mu}
mutual
theorem dp_of : ∀ (x : PV) (v : V) (d : PyData), VR K H μ x v → toD x = some d → Dp K H v d
  | .non, v, d, r, h => by cases h; cases (show v = .non from r); exact .non
  | .bl b, v, d, r, h => by cases h; cases (show v = .bl b from r); exact .bl b
  | .int b, v, d, r, h => by cases h; cases (show v = .int b from r); exact .int b
  | .str b, v, d, r, h => by cases h; cases (show v = .str ⟨b.toArray⟩ from r); exact .str _
  | .tup xs, v, d, r, h => by
    obtain ⟨a, vs, rfl, t, rs⟩ := tup_at r
    simp [toD] at h
    obtain ⟨ds, q, rfl⟩ := h
    exact .tup t.sq (dps_of xs vs ds rs q)
  | .lst xs, v, d, r, h => by
    obtain ⟨a, vs, rfl, t, rs⟩ := lst_at r
    simp [toD] at h
    obtain ⟨ds, q, rfl⟩ := h
    exact .lst t.sq (dps_of xs vs ds rs q)
  | .ty _, _, _, _, h => by cases h
  | .gl _, _, _, _, h => by cases h
  | .frz _, _, _, _, h => by cases h
  | .loc _, _, _, _, h => by cases h
theorem dps_of : ∀ (xs : List PV) (vs : List V) (ds : List PyData), VRs K H μ xs vs → toDs xs = some ds → DpAll K H vs ds
  | [], vs, ds, r, h => by cases h; cases (show vs = [] from r); exact .nil
  | x :: xs, vs, ds, r, h => by
    obtain ⟨v, t, rfl, r1, r2⟩ := (show ∃ v t, vs = v :: t ∧ VR K H μ x v ∧ VRs K H μ xs t from r)
    unfold toDs at h
    cases p1 : toD x with
    | none => rw [p1] at h; cases h
    | some d =>
      cases p2 : toDs xs with
      | none => rw [p1, p2] at h; cases h
      | some ds' =>
        rw [p1, p2] at h
        cases h
        exact .cons (dp_of x v d r1 p1) (dps_of xs t ds' r2 p2)
end
end
mutual
def layP : PV → Bool
  | .non => true
  | .bl _ => true
  | .int _ => true
  | .str x => x.all fun c => decide (c < 1114112)
  | .tup xs => layPs xs
  | .lst xs => layPs xs
  | _ => false
def layPs : List PV → Bool
  | [] => true
  | x :: xs => layP x && layPs xs
end
mutual
def depP : PV → Nat
  | .tup xs => depPs xs + 1
  | .lst xs => depPs xs + 1
  | _ => 0
def depPs : List PV → Nat
  | [] => 0
  | x :: xs => max (depP x) (depPs xs)
end
mutual
theorem lay_toD : ∀ (x : PV), layP x = true → ∃ d, toD x = some d ∧ d.canLay0 = true ∧ d.depth = depP x
  | .non, _ => ⟨_, rfl, by simp [PyData.canLay0], by simp [PyData.depth, depP]⟩
  | .bl b, _ => ⟨_, rfl, by simp [PyData.canLay0], by simp [PyData.depth, depP]⟩
  | .int b, _ => ⟨_, rfl, by simp [PyData.canLay0], by simp [PyData.depth, depP]⟩
  | .str x, h => ⟨_, rfl, by
      simp only [PyData.canLay0, PyData.strOk]
      simp [layP] at h
      simpa using h, by simp [PyData.depth, depP]⟩
  | .tup xs, h => by
    obtain ⟨ds, e, c, p⟩ := lays_toD xs (by simpa [layP] using h)
    exact ⟨.tuple ds, by simp [toD, e], by simpa [PyData.canLay0] using c, by simp [PyData.depth, depP, p]⟩
  | .lst xs, h => by
    obtain ⟨ds, e, c, p⟩ := lays_toD xs (by simpa [layP] using h)
    exact ⟨.list ds, by simp [toD, e], by simpa [PyData.canLay0] using c, by simp [PyData.depth, depP, p]⟩
  | .ty _, h => by simp [layP] at h
  | .gl _, h => by simp [layP] at h
  | .frz _, h => by simp [layP] at h
  | .loc _, h => by simp [layP] at h
theorem lays_toD : ∀ (xs : List PV), layPs xs = true → ∃ ds, toDs xs = some ds ∧ PyData.canLayAll0 ds = true ∧ PyData.depthAll ds = depPs xs
  | [], _ => ⟨[], rfl, by simp [PyData.canLayAll0], by simp [PyData.depthAll, depPs]⟩
  | x :: xs, h => by
    have h' : layP x = true ∧ layPs xs = true := by simpa [layPs] using h
    obtain ⟨d, e, c, p⟩ := lay_toD x h'.1
    obtain ⟨ds, e2, c2, p2⟩ := lays_toD xs h'.2
    exact ⟨d :: ds, by simp [toDs, e, e2], by simp [PyData.canLayAll0, c, c2], by simp [PyData.depthAll, depPs, p, p2]⟩
end
def shal (x : PV) (st : Sto) : PV := match x with
  | .frz xs => .lst xs
  | .loc n => match st[n]? with
    | some (.lst xs) => .lst xs
    | _ => .loc n
  | _ => x
def scalP : PV → PV → Bool
  | .non, .non => true | .non, .int _ => true | .int _, .non => true | .non, .bl _ => true | .bl _, .non => true | .non, .str _ => true | .str _, .non => true
  | .int _, .int _ => true | .bl _, .bl _ => true | .str _, .str _ => true
  | .int _, .str _ => true | .str _, .int _ => true | .bl _, .str _ => true | .str _, .bl _ => true
  | _, _ => false
def cmpOk (x y : PV) (st : Sto) : Bool := scalP x y || (layP (shal x st) && layP (shal y st) && decide (depP (shal x st) ≤ 64) && decide (depP (shal y st) ≤ 64))
def lenNe (x y : PV) (st : Sto) : Bool := match shal x st, shal y st with
  | .lst a, .lst b => decide (a.length ≠ b.length)
  | _, _ => false
def eqM (x y : PV) : M PV := fun st => if cmpOk x y st = true then .ok (.bl (eqb (shal x st) (shal y st))) st else if lenNe x y st = true then .ok (.bl false) st else .bad
def neM (x y : PV) : M PV := fun st => if cmpOk x y st = true then .ok (.bl (!eqb (shal x st) (shal y st))) st else if lenNe x y st = true then .ok (.bl true) st else .bad
theorem shal_lst {K : KW} {H : Hp} {μ : Mu} {st : Sto} {x : PV} {v : V} {xs : List PV} (sr : SR K μ st H) (r : VR K H μ x v) (h : shal x st = .lst xs) : ∃ a vs, v = .ref a ∧ SqL K H a vs ∧ VRs K H μ xs vs := by
  cases x with
  | lst ys =>
    cases h
    obtain ⟨a, vs, e, l, rs⟩ := lst_at r
    exact ⟨a, vs, e, l.sq, rs⟩
  | frz ys =>
    cases h
    obtain ⟨a, vs, e, l, rs⟩ := frz_at r
    exact ⟨a, vs, e, l.sq, rs⟩
  | loc n =>
    obtain ⟨a, e, ha⟩ := loc_at r
    unfold shal at h
    dsimp only at h
    cases q : st[n]? with
    | none => rw [q] at h; cases h
    | some c =>
      rw [q] at h
      cases c with
      | lst ys =>
        cases h
        obtain ⟨vs, h1, h2⟩ := sr.cell n _ a q ha
        exact ⟨a, vs, e, SqL.of h1, h2⟩
      | dct kvs => cases h
      | ins C fs => cases h
      | dcl kvs => cases h
      | dcn kvs => cases h
      | lck kvs => cases h
  | _ => cases h
theorem dp_shal {K : KW} {H : Hp} {μ : Mu} {st : Sto} {x : PV} {v : V} {d : PyData} (sr : SR K μ st H) (r : VR K H μ x v) (h : toD (shal x st) = some d) : Dp K H v d := by
  cases x with
  | frz xs =>
    obtain ⟨a, vs, rfl, t, rs⟩ := frz_at r
    have h' : toD (.lst xs) = some d := h
    simp [toD] at h'
    obtain ⟨ds, q, rfl⟩ := h'
    exact .lst t.sq (dps_of xs vs ds rs q)
  | loc n =>
    obtain ⟨a, rfl, ha⟩ := loc_at r
    unfold shal at h
    dsimp only at h
    cases q : st[n]? with
    | none => rw [q] at h; cases h
    | some c =>
      rw [q] at h
      cases c with
      | lst xs =>
        obtain ⟨vs, h1, h2⟩ := sr.cell n _ a q ha
        have h' : toD (.lst xs) = some d := h
        simp [toD] at h'
        obtain ⟨ds, q, rfl⟩ := h'
        exact .lst (SqL.of h1) (dps_of xs vs ds h2 q)
      | dct kvs => cases h
      | ins C fs => cases h
      | dcl kvs => cases h
      | dcn kvs => cases h
      | lck kvs => cases h
  | non => exact dp_of _ _ _ r h
  | bl b => exact dp_of _ _ _ r h
  | int b => exact dp_of _ _ _ r h
  | str b => exact dp_of _ _ _ r h
  | tup b => exact dp_of _ _ _ r h
  | lst b => exact dp_of _ _ _ r h
  | ty b => cases h
  | gl b => cases h
theorem scal_eq {K : PySem.W.Frag} {H : Hp} {μ : Mu} {st : Sto} {x y : PV} {u v : V} (rx : VR K H μ x u) (ry : VR K H μ y v) (h : scalP x y = true) : scal u v = true ∧ decide (u = v) = eqb (shal x st) (shal y st) := by
  cases x <;> cases y <;> simp [scalP] at h <;> cases rx <;> cases ry <;> simp [scal, eqb, shal] <;> (rw [Bool.eq_iff_iff]; simp)
def rEqM0 (K : PySem.W.Frag) (n : Bool) : R2 := fun x y H Q => (scal x y = true ∧ Q (.bl (if n then !decide (x = y) else decide (x = y))) H) ∨ ∃ d e, Dp K H x d ∧ Dp K H y e ∧ (SeqAt.shaped d = true ∧ SeqAt.shaped e = true ∧ Q (.bl (if n then !PyData.eqv d e else PyData.eqv d e)) H)
def rEqN (K : PySem.W.Frag) (n : Bool) : R2 := fun x y H Q => ∃ a b xs ys, x = .ref a ∧ y = .ref b ∧ SqL K H a xs ∧ SqL K H b ys ∧ xs.length ≠ ys.length ∧ Q (.bl n) H
def rEqM (K : PySem.W.Frag) (n : Bool) : R2 := fun x y H Q => rEqM0 K n x y H Q ∨ rEqN K n x y H Q
theorem op_eqN {X : Cx} (hu : X.A.units + 64 < cLine) : OpR X (compareOp .Eq) (rEqN X.K false) := by
  intro pins s σ H x y v u Q I rx ry h
  obtain ⟨a, b, xs, ys, rfl, rfl, hx, hy, hne, q⟩ := h
  cases rx
  cases ry
  obtain ⟨its, r1, p1, _⟩ := I.list hx
  obtain ⟨its2, r2, p2, _⟩ := I.list hy
  exact SeqAt.RcAt.lists_lengths p1.isList p2.isList (by have e1 := r1.length; have e2 := r2.length; simp; omega) (by omega) X.prog X.w X.xe _ ⟨.bl false, H, I, rfl, q⟩
theorem op_neN {X : Cx} (hu : X.A.units + 64 < cLine) : OpR X (compareOp .NotEq) (rEqN X.K true) := by
  intro pins s σ H x y v u Q I rx ry h
  obtain ⟨a, b, xs, ys, rfl, rfl, hx, hy, hne, q⟩ := h
  cases rx
  cases ry
  obtain ⟨its, r1, p1, _⟩ := I.list hx
  obtain ⟨its2, r2, p2, _⟩ := I.list hy
  exact SeqAt.RcNeAt.lists_lengths p1.isList p2.isList (by have e1 := r1.length; have e2 := r2.length; simp; omega) (by omega) X.prog X.w X.xe _ ⟨.bl true, H, I, rfl, q⟩
theorem op_eqM {X : Cx} (hu : X.A.units + 64 < cLine) : OpR X (compareOp .Eq) (rEqM X.K false) := (op_eq.or (op_eqD hu)).or (op_eqN hu)
theorem op_neM {X : Cx} (hu : X.A.units + 64 < cLine) : OpR X (compareOp .NotEq) (rEqM X.K true) := (op_ne.or (op_neD hu)).or (op_neN hu)
theorem t_eqn {K : KW} {n : Bool} : T2 K (rEqM K n) (fun x y st => if cmpOk x y st = true then .ok (.bl (if n then !eqb (shal x st) (shal y st) else eqb (shal x st) (shal y st))) st else if lenNe x y st = true then .ok (.bl n) st else .bad) := by
  intro μ st H x y u v E Q sr rx ry h
  dsimp only at h
  by_cases hc : cmpOk x y st = true
  · rw [if_pos hc] at h
    have q := post_same (v := .bl (if n then !eqb (shal x st) (shal y st) else eqb (shal x st) (shal y st))) h sr rfl
    unfold cmpOk at hc
    rw [Bool.or_eq_true] at hc
    rcases hc with hc | hc
    · obtain ⟨h1, h2⟩ := scal_eq (st := st) rx ry hc
      exact .inl (.inl ⟨h1, by rw [h2]; exact q⟩)
    · simp only [Bool.and_eq_true, decide_eq_true_eq] at hc
      obtain ⟨⟨⟨l1, l2⟩, d1⟩, d2⟩ := hc
      obtain ⟨d, e1, c1, p1⟩ := lay_toD _ l1
      obtain ⟨e, e2, c2, p2⟩ := lay_toD _ l2
      refine .inl (.inr ⟨d, e, dp_shal sr rx e1, dp_shal sr ry e2, ?_, ?_, ?_⟩)
      · unfold SeqAt.shaped
        rw [c1, p1]
        simpa using d1
      · unfold SeqAt.shaped
        rw [c2, p2]
        simpa using d2
      · rw [eqb_eqv _ _ d e e1 e2]
        exact q
  · rw [if_neg hc] at h
    by_cases hl : lenNe x y st = true
    · rw [if_pos hl] at h
      unfold lenNe at hl
      split at hl
      · rename_i xs ys e1 e2
        obtain ⟨a, vs, rfl, l1, r1⟩ := shal_lst sr rx e1
        obtain ⟨b, ws, rfl, l2, r2⟩ := shal_lst sr ry e2
        refine .inr ⟨a, b, vs, ws, rfl, rfl, l1, l2, ?_, post_same h sr rfl⟩
        rw [← VRs.length r1, ← VRs.length r2]
        exact of_decide_eq_true hl
      · cases hl
    · rw [if_neg hl] at h
      exact h.elim
theorem t_eq {K : KW} : T2 K (rEqM K false) eqM := t_eqn (n := false)
theorem t_ne {K : KW} : T2 K (rEqM K true) neM := t_eqn (n := true)
def nonP : PV → Bool
  | .non => true
  | _ => false
def isN (x y : PV) : M PV := match y with
  | .non => M.ret (.bl (nonP x))
  | .bl b => match x with
    | .bl a => M.ret (.bl (decide (a = b)))
    | _ => M.fail
  | _ => M.fail
def notN (x y : PV) : M PV := match y with
  | .non => M.ret (.bl (!nonP x))
  | .bl b => match x with
    | .bl a => M.ret (.bl (!decide (a = b)))
    | _ => M.fail
  | _ => M.fail
theorem non_dec {K : PySem.W.Frag} {H : Hp} {μ : Mu} {x : PV} {v : V} (r : VR K H μ x v) : decide (v = .non) = nonP x := by
  cases x with
  | non => cases (show v = .non from r); rfl
  | bl b => cases (show v = .bl b from r); rfl
  | int b => cases (show v = .int b from r); rfl
  | str b => cases (show v = .str ⟨b.toArray⟩ from r); rfl
  | ty b => cases (show v = .ty b from r); rfl
  | gl b => cases (show v = .ref b from r); rfl
  | tup b => obtain ⟨a, vs, rfl, _⟩ := tup_at r; rfl
  | lst b => obtain ⟨a, vs, rfl, _⟩ := lst_at r; rfl
  | frz b => obtain ⟨a, vs, rfl, _⟩ := frz_at r; rfl
  | loc b => obtain ⟨a, rfl, _⟩ := loc_at r; rfl
theorem t_isN {K : KW} : T2 K (fun x y H Q => (y = .non ∧ Q (.bl (decide (x = .non))) H) ∨ ∃ a b, x = .bl a ∧ y = .bl b ∧ Q (.bl (decide (a = b))) H) isN := by
  intro μ st H x y u v E Q sr rx ry h
  unfold isN at h
  cases y with
  | non => exact .inl ⟨ry, by rw [non_dec rx]; exact post_same h sr rfl⟩
  | bl b =>
    cases x with
    | bl a => exact .inr ⟨a, b, rx, ry, post_same h sr rfl⟩
    | _ => exact h.elim
  | _ => exact h.elim
theorem t_notN {K : KW} : T2 K (fun x y H Q => (y = .non ∧ Q (.bl (!decide (x = .non))) H) ∨ ∃ a b, x = .bl a ∧ y = .bl b ∧ Q (.bl (!decide (a = b))) H) notN := by
  intro μ st H x y u v E Q sr rx ry h
  unfold notN at h
  cases y with
  | non => exact .inl ⟨ry, by rw [non_dec rx]; exact post_same h sr rfl⟩
  | bl b =>
    cases x with
    | bl a => exact .inr ⟨a, b, rx, ry, post_same h sr rfl⟩
    | _ => exact h.elim
  | _ => exact h.elim
section
variable {K : PySem.W.Frag} {H : Hp} {μ : Mu}
theorem key_dec {p k : PV} {p' k' : Key} (h : keyOf p = some p') (hk : keyOf k = some k') : (p' = k') = (p = k) := by
  refine propext ⟨fun e => ?_, fun e => ?_⟩
  · rw [← e] at hk
    exact keyOf_inj h hk
  · rw [e, hk] at h
    exact (Option.some.inj h).symm
theorem KRs.look {k : PV} {k' : Key} (hk : keyOf k = some k') : ∀ {kvs : List (PV × PV)} {kv : List (Key × V)}, KRs K H μ kvs kv → (∀ p, lookP kvs k = some p → ∃ v, valV kv k' = some v ∧ VR K H μ p v) ∧ (lookP kvs k = none → valV kv k' = none)
  | [], kv, h => by
    have e : kv = [] := h
    subst e
    exact ⟨fun p q => (nomatch q), fun _ => rfl⟩
  | p :: r, kv, h => by
    obtain ⟨k1, v, t, rfl, e1, rv, rt⟩ := h
    unfold lookP
    by_cases e : p.1 = k
    · have e' : k1 = k' := by rw [key_dec e1 hk]; exact e
      rw [if_pos e, valV_pos (p := (k1, v)) e']
      exact ⟨fun q hq => by cases hq; exact ⟨v, rfl, rv⟩, fun hq => (nomatch hq)⟩
    · have e' : ¬ k1 = k' := by rw [key_dec e1 hk]; exact e
      rw [if_neg e, valV_neg (p := (k1, v)) e']
      exact KRs.look hk rt
theorem KRs.any {k : PV} {k' : Key} (hk : keyOf k = some k') : ∀ {kvs : List (PV × PV)} {kv : List (Key × V)}, KRs K H μ kvs kv → (kv.any fun x => decide (x.1 = k')) = (kvs.any fun x => decide (x.1 = k))
  | [], kv, h => by have e : kv = [] := h; subst e; rfl
  | p :: r, kv, h => by
    obtain ⟨k1, v, t, rfl, e1, rv, rt⟩ := h
    rw [List.any_cons, List.any_cons, KRs.any hk rt]
    simp only [key_dec e1 hk]
theorem KRs.length : ∀ {kvs : List (PV × PV)} {kv : List (Key × V)}, KRs K H μ kvs kv → kvs.length = kv.length
  | [], kv, h => by have e : kv = [] := h; subst e; rfl
  | p :: r, kv, h => by
    obtain ⟨k1, v, t, rfl, e1, rv, rt⟩ := h
    rw [List.length_cons, List.length_cons, KRs.length rt]
theorem KRs.mapPut {k p : PV} {k' : Key} {v : V} (hk : keyOf k = some k') (r : VR K H μ p v) : ∀ {kvs : List (PV × PV)} {kv : List (Key × V)}, KRs K H μ kvs kv →
    KRs K H μ (kvs.map fun x => if x.1 = k then (x.1, p) else x) (kv.map fun x => if x.1 = k' then (x.1, v) else x)
  | [], kv, h => by have e : kv = [] := h; subst e; exact rfl
  | q :: t, kv, h => by
    obtain ⟨k1, w, t', rfl, e1, rv, rt⟩ := h
    rw [List.map_cons, List.map_cons]
    simp only [key_dec e1 hk]
    by_cases e : q.1 = k
    · rw [if_pos e, if_pos e]
      exact ⟨k1, v, _, rfl, e1, r, KRs.mapPut hk r rt⟩
    · rw [if_neg e, if_neg e]
      exact ⟨k1, w, _, rfl, e1, rv, KRs.mapPut hk r rt⟩
theorem KRs.snoc {k p : PV} {k' : Key} {v : V} (hk : keyOf k = some k') (r : VR K H μ p v) : ∀ {kvs : List (PV × PV)} {kv : List (Key × V)}, KRs K H μ kvs kv → KRs K H μ (kvs ++ [(k, p)]) (kv ++ [(k', v)])
  | [], kv, h => by have e : kv = [] := h; subst e; exact ⟨k', v, [], rfl, hk, r, rfl⟩
  | q :: t, kv, h => by
    obtain ⟨k1, w, t', rfl, e1, rv, rt⟩ := h
    exact ⟨k1, w, _, rfl, e1, rv, KRs.snoc hk r rt⟩
theorem KRs.put {k p : PV} {k' : Key} {v : V} {kvs : List (PV × PV)} {kv : List (Key × V)} (h : KRs K H μ kvs kv) (hk : keyOf k = some k') (r : VR K H μ p v) : KRs K H μ (putP kvs k p) (putK kv k' v) := by
  unfold putP putK
  rw [KRs.any hk h]
  split
  · exact KRs.mapPut hk r h
  · exact KRs.snoc hk r h
theorem keyOf_kV {k : PV} {k' : Key} {v : V} (hk : keyOf k = some k') (r : VR K H μ k v) : v = kV k' := by
  cases k with
  | int i => cases hk; exact r
  | str x => cases hk; exact r
  | _ => cases hk
end
def flatP : PV → Bool
  | .non => true
  | .bl _ => true
  | .int _ => true
  | .str _ => true
  | _ => false
def ng (n b : Bool) : Bool := if n then !b else b
def inM (n : Bool) (x y : PV) : M PV := fun st => match y with
  | .str z => match x with
    | .str [c] => .ok (.bl (ng n (decide (c ∈ z)))) st
    | _ => .bad
  | y => match seqOf y st with
    | some xs => if (flatP x && xs.all flatP) = true then .ok (.bl (ng n (xs.any fun p => eqb p x))) st else .bad
    | none => match y with
      | .loc m => match st[m]? with
        | some (.dct kvs) => if (keyOf x).isSome = true then .ok (.bl (ng n (lookP kvs x).isSome)) st else .bad
        | some (.dcl kvs) => if (lfOf x).isSome = true then .ok (.bl (ng n (lookP kvs x).isSome)) st else .bad
        | some (.dcn kvs) => if (nkT x).isSome = true then .ok (.bl (ng n (lookP kvs x).isSome)) st else .bad
        | _ => .bad
      | _ => .bad
theorem flat_eq {K : PySem.W.Frag} {H : Hp} {μ : Mu} {x y : PV} {u v : V} (rx : VR K H μ x u) (ry : VR K H μ y v) (fx : flatP x = true) (fy : flatP y = true) : flatV u = true ∧ flatV v = true ∧ L2.eqV u v = eqb x y := by
  cases x <;> simp [flatP] at fx <;> cases y <;> simp [flatP] at fy <;> cases rx <;> cases ry <;> simp [flatV, L2.eqV, eqb]
  rw [Bool.eq_iff_iff]
  simp
theorem flat_any {K : PySem.W.Frag} {H : Hp} {μ : Mu} {x : PV} {u : V} (rx : VR K H μ x u) (fx : flatP x = true) : ∀ {ps : List PV} {vs : List V}, VRs K H μ ps vs → ps.all flatP = true → vs.all flatV = true ∧ L2.inV u vs = ps.any fun p => eqb p x
  | [], vs, h, _ => by have e : vs = [] := h; subst e; exact ⟨rfl, rfl⟩
  | p :: ps, vs, h, hf => by
    obtain ⟨v, t, rfl, r1, r2⟩ := (show ∃ v t, vs = v :: t ∧ VR K H μ p v ∧ VRs K H μ ps t from h)
    rw [List.all_cons, Bool.and_eq_true] at hf
    obtain ⟨f1, f2, f3⟩ := flat_eq r1 rx hf.1 fx
    obtain ⟨g1, g2⟩ := flat_any rx fx r2 hf.2
    refine ⟨by rw [List.all_cons, f1, g1]; rfl, ?_⟩
    show (L2.eqV v u || L2.inV u t) = (eqb p x || ps.any fun q => eqb q x)
    rw [f3, g2]
def rInM (K : KW) (n : Bool) : R2 := fun x y H Q => (∃ (c : Nat) (z : Str), x = .str ⟨#[c]⟩ ∧ y = .str z ∧ Q (.bl (ng n (decide (c ∈ z.cps.toList)))) H) ∨ rIn K n x y H Q ∨ (∃ a o, y = .ref a ∧ DGet H a x o ∧ Q (.bl (ng n o.isSome)) H) ∨ ∃ a o, y = .ref a ∧ GGet K H a x o ∧ Q (.bl (ng n o.isSome)) H
theorem op_inD {X : Cx} (hu : X.A.units + 1 < cLine) : OpR X (compareOp .In) (fun x y H Q => ∃ a o, y = .ref a ∧ DGet H a x o ∧ Q (.bl (ng false o.isSome)) H) := by
  intro pins s σ H x y v u Q I rx ry h
  obtain ⟨a, o, rfl, g, q⟩ := h
  cases (show u = Value.ref a from ry)
  exact d_in hu I g rx fun s3 I3 => ⟨.bl o.isSome, H, I3, rfl, q⟩
theorem op_notInD {X : Cx} (hu : X.A.units + 1 < cLine) : OpR X (compareOp .NotIn) (fun x y H Q => ∃ a o, y = .ref a ∧ DGet H a x o ∧ Q (.bl (ng true o.isSome)) H) := by
  intro pins s σ H x y v u Q I rx ry h
  obtain ⟨a, o, rfl, g, q⟩ := h
  cases (show u = Value.ref a from ry)
  exact d_notIn hu I g rx fun s3 I3 => ⟨.bl (!o.isSome), H, I3, rfl, q⟩
theorem op_inG {X : Cx} (hu : X.A.units + 64 < cLine) : OpR X (compareOp .In) (fun x y H Q => ∃ a o, y = .ref a ∧ GGet (kw X) H a x o ∧ Q (.bl (ng false o.isSome)) H) := by
  intro pins s σ H x y v u Q I rx ry h
  obtain ⟨a, o, rfl, g, q⟩ := h
  cases (show u = Value.ref a from ry)
  exact g_in hu I g rx fun s3 I3 => ⟨.bl o.isSome, H, I3, rfl, q⟩
theorem op_notInG {X : Cx} (hu : X.A.units + 64 < cLine) : OpR X (compareOp .NotIn) (fun x y H Q => ∃ a o, y = .ref a ∧ GGet (kw X) H a x o ∧ Q (.bl (ng true o.isSome)) H) := by
  intro pins s σ H x y v u Q I rx ry h
  obtain ⟨a, o, rfl, g, q⟩ := h
  cases (show u = Value.ref a from ry)
  exact g_notIn hu I g rx fun s3 I3 => ⟨.bl (!o.isSome), H, I3, rfl, q⟩
theorem op_inM {X : Cx} (hu : X.A.units + 64 < cLine) : OpR X (compareOp .In) (rInM (kw X) false) := op_in_sign.or (op_in_seq.or ((op_inD (by omega)).or (op_inG hu)))
theorem op_notInM {X : Cx} (hu : X.A.units + 64 < cLine) : OpR X (compareOp .NotIn) (rInM (kw X) true) := op_notIn_sign.or (op_notIn_seq.or ((op_notInD (by omega)).or (op_notInG hu)))
theorem t_in {K : KW} {n : Bool} : T2 K (rInM K n) (inM n) := by
  intro μ st H x y u v E Q sr rx ry h
  have seqC : ∀ xs, seqOf y st = some xs → PostG K E (VR K) Q μ H (if (flatP x && xs.all flatP) = true then .ok (.bl (ng n (xs.any fun p => eqb p x))) st else .bad) → rInM K n u v H Q := by
    intro xs hs h
    by_cases hf : (flatP x && xs.all flatP) = true
    · rw [if_pos hf] at h
      rw [Bool.and_eq_true] at hf
      obtain ⟨a, vs, rfl, hq, rs⟩ := seqOf_at sr ry hs
      obtain ⟨g1, g2⟩ := flat_any rx hf.1 rs hf.2
      obtain ⟨f1, _, _⟩ := flat_eq rx rx hf.1 hf.1
      refine .inr (.inl ⟨a, vs, rfl, hq, f1, g1, ?_⟩)
      rw [g2]
      exact post_same h sr rfl
    · rw [if_neg hf] at h
      exact h.elim
  cases y with
  | str z =>
    cases (show v = V.str ⟨z.toArray⟩ from ry)
    cases x with
    | str c =>
      cases c with
      | nil => exact h.elim
      | cons c r =>
        cases r with
        | nil =>
          cases (show u = V.str ⟨[c].toArray⟩ from rx)
          refine .inl ⟨c, ⟨z.toArray⟩, rfl, rfl, ?_⟩
          have q := post_same (v := V.bl (ng n (decide (c ∈ z)))) h sr rfl
          simpa using q
        | cons c' r => exact h.elim
    | _ => exact h.elim
  | lst xs => exact seqC xs rfl h
  | frz xs => exact seqC xs rfl h
  | tup xs => exact seqC xs rfl h
  | loc m =>
    unfold inM at h
    dsimp only at h
    cases hs : seqOf (.loc m) st with
    | some xs => rw [hs] at h; exact seqC xs hs h
    | none =>
      rw [hs] at h
      dsimp only at h
      cases q : st[m]? with
      | none => rw [q] at h; exact h.elim
      | some c =>
        rw [q] at h
        cases c with
        | dct kvs =>
          dsimp only at h
          by_cases hk : (keyOf x).isSome = true
          · rw [if_pos hk] at h
            obtain ⟨k', ek⟩ := Option.isSome_iff_exists.mp hk
            obtain ⟨a, rfl, ha⟩ := loc_at ry
            obtain ⟨kv, h1, h2⟩ := sr.cell m _ a q ha
            refine .inr (.inr (.inl ⟨a, valV kv k', rfl, ?_, ?_⟩))
            · rw [keyOf_kV ek rx]
              exact DGet.k h1
            · obtain ⟨l1, l2⟩ := KRs.look ek h2
              have e : (valV kv k').isSome = (lookP kvs x).isSome := by
                cases hl : lookP kvs x with
                | none => rw [l2 hl]; rfl
                | some p => obtain ⟨w, ew, _⟩ := l1 p hl; rw [ew]; rfl
              rw [e]
              exact post_same h sr rfl
          · rw [if_neg hk] at h
            exact h.elim
        | lst xs => exact h.elim
        | ins C fs => exact h.elim
        | dcl kvs =>
          dsimp only at h
          by_cases hk : (lfOf x).isSome = true
          · rw [if_pos hk] at h
            obtain ⟨k', ek⟩ := Option.isSome_iff_exists.mp hk
            obtain ⟨a, rfl, ha⟩ := loc_at ry
            obtain ⟨o, g, l1, l2⟩ := (sr.cell m _ a q ha).getL ek rx
            refine .inr (.inr (.inr ⟨a, o, rfl, g, ?_⟩))
            have e : o.isSome = (lookP kvs x).isSome := by
              cases hl : lookP kvs x with
              | none => rw [l2 hl]; rfl
              | some p => obtain ⟨w, ew, _⟩ := l1 p hl; rw [ew]; rfl
            rw [e]
            exact post_same h sr rfl
          · rw [if_neg hk] at h
            exact h.elim
        | dcn kvs =>
          dsimp only at h
          by_cases hk : (nkT x).isSome = true
          · rw [if_pos hk] at h
            obtain ⟨k', ek⟩ := Option.isSome_iff_exists.mp hk
            obtain ⟨a, rfl, ha⟩ := loc_at ry
            obtain ⟨o, g, l1, l2⟩ := (sr.cell m _ a q ha).getN ek rx
            refine .inr (.inr (.inr ⟨a, o, rfl, g, ?_⟩))
            have e : o.isSome = (lookP kvs x).isSome := by
              cases hl : lookP kvs x with
              | none => rw [l2 hl]; rfl
              | some p => obtain ⟨w, ew, _⟩ := l1 p hl; rw [ew]; rfl
            rw [e]
            exact post_same h sr rfl
          · rw [if_neg hk] at h
            exact h.elim
        | lck kvs => exact h.elim
  | _ => exact h.elim
section
variable {X : Cx} {W : WX} {a b : Expr} {pos : Pos} {ma mb : Rho → M PV}
theorem me_lt (ha : ME X W a ma) (hb : ME X W b mb) : ME X W (.Compare a [.Lt] [b] pos) (eBin ltI ma mb) := me_cmp op_lt (t_cmpI _) ha hb (nomark _)
theorem me_le (ha : ME X W a ma) (hb : ME X W b mb) : ME X W (.Compare a [.LtE] [b] pos) (eBin leI ma mb) := me_cmp op_le (t_cmpI _) ha hb (nomark _)
theorem me_gt (ha : ME X W a ma) (hb : ME X W b mb) : ME X W (.Compare a [.Gt] [b] pos) (eBin gtI ma mb) := me_cmp op_gt (t_cmpI _) ha hb (nomark _)
theorem me_ge (ha : ME X W a ma) (hb : ME X W b mb) : ME X W (.Compare a [.GtE] [b] pos) (eBin geI ma mb) := me_cmp op_ge (t_cmpI _) ha hb (nomark _)
theorem me_eq (hu : X.A.units + 64 < cLine) (ha : ME X W a ma) (hb : ME X W b mb) : ME X W (.Compare a [.Eq] [b] pos) (eBin eqM ma mb) := me_cmp (op_eqM hu) t_eq ha hb (nomark _)
theorem me_ne (hu : X.A.units + 64 < cLine) (ha : ME X W a ma) (hb : ME X W b mb) : ME X W (.Compare a [.NotEq] [b] pos) (eBin neM ma mb) := me_cmp (op_neM hu) t_ne ha hb (nomark _)
theorem me_is (ha : ME X W a ma) (hb : ME X W b mb) : ME X W (.Compare a [.Is] [b] pos) (eBin isN ma mb) := me_cmp (op_isN.or op_is_bl) t_isN ha hb (nomark _)
theorem me_isnot (ha : ME X W a ma) (hb : ME X W b mb) : ME X W (.Compare a [.IsNot] [b] pos) (eBin notN ma mb) := me_cmp (op_notN.or op_isnot_bl) t_notN ha hb (nomark _)
theorem me_in (hu : X.A.units + 64 < cLine) (ha : ME X W a ma) (hb : ME X W b mb) (hm : behindInMarks .In b = false) : ME X W (.Compare a [.In] [b] pos) (eBin (inM false) ma mb) := me_cmp (op_inM hu) t_in ha hb hm
theorem me_notin (hu : X.A.units + 64 < cLine) (ha : ME X W a ma) (hb : ME X W b mb) (hm : behindInMarks .NotIn b = false) : ME X W (.Compare a [.NotIn] [b] pos) (eBin (inM true) ma mb) := me_cmp (op_notInM hu) t_in ha hb hm
theorem mt_lt (ha : ME X W a ma) (hb : ME X W b mb) : MT X W (.Compare a [.Lt] [b] pos) (eB (eBin ltI ma mb)) := mt_cmp op_lt (t_cmpI _) ha hb (nomark _)
theorem mt_le (ha : ME X W a ma) (hb : ME X W b mb) : MT X W (.Compare a [.LtE] [b] pos) (eB (eBin leI ma mb)) := mt_cmp op_le (t_cmpI _) ha hb (nomark _)
theorem mt_gt (ha : ME X W a ma) (hb : ME X W b mb) : MT X W (.Compare a [.Gt] [b] pos) (eB (eBin gtI ma mb)) := mt_cmp op_gt (t_cmpI _) ha hb (nomark _)
theorem mt_ge (ha : ME X W a ma) (hb : ME X W b mb) : MT X W (.Compare a [.GtE] [b] pos) (eB (eBin geI ma mb)) := mt_cmp op_ge (t_cmpI _) ha hb (nomark _)
theorem mt_eq (hu : X.A.units + 64 < cLine) (ha : ME X W a ma) (hb : ME X W b mb) : MT X W (.Compare a [.Eq] [b] pos) (eB (eBin eqM ma mb)) := mt_cmp (op_eqM hu) t_eq ha hb (nomark _)
theorem mt_ne (hu : X.A.units + 64 < cLine) (ha : ME X W a ma) (hb : ME X W b mb) : MT X W (.Compare a [.NotEq] [b] pos) (eB (eBin neM ma mb)) := mt_cmp (op_neM hu) t_ne ha hb (nomark _)
theorem mt_is (ha : ME X W a ma) (hb : ME X W b mb) : MT X W (.Compare a [.Is] [b] pos) (eB (eBin isN ma mb)) := mt_cmp (op_isN.or op_is_bl) t_isN ha hb (nomark _)
theorem mt_isnot (ha : ME X W a ma) (hb : ME X W b mb) : MT X W (.Compare a [.IsNot] [b] pos) (eB (eBin notN ma mb)) := mt_cmp (op_notN.or op_isnot_bl) t_notN ha hb (nomark _)
theorem mt_in (hu : X.A.units + 64 < cLine) (ha : ME X W a ma) (hb : ME X W b mb) (hm : behindInMarks .In b = false) : MT X W (.Compare a [.In] [b] pos) (eB (eBin (inM false) ma mb)) := mt_cmp (op_inM hu) t_in ha hb hm
theorem mt_notin (hu : X.A.units + 64 < cLine) (ha : ME X W a ma) (hb : ME X W b mb) (hm : behindInMarks .NotIn b = false) : MT X W (.Compare a [.NotIn] [b] pos) (eB (eBin (inM true) ma mb)) := mt_cmp (op_notInM hu) t_in ha hb hm
end
end MP

set_option maxRecDepth 100000
set_option maxHeartbeats 1000000
namespace MP
open PySem L2
def optM {α : Type} : Option α → M α
  | some a => M.ret a
  | none => M.fail
def dctOf (x : PV) (st : Sto) : Option (List (PV × PV)) := match x with
  | .loc n => match st[n]? with
    | some (.dct kvs) => some kvs
    | _ => none
  | _ => none
theorem dctOf_at {K : KW} {H : Hp} {μ : Mu} {st : Sto} {x : PV} {v : V} {kvs : List (PV × PV)} (sr : SR K μ st H) (r : VR K H μ x v) (h : dctOf x st = some kvs) :
    ∃ n a kv, x = .loc n ∧ v = .ref a ∧ μ.l[n]? = some a ∧ st[n]? = some (.dct kvs) ∧ H a = some (.dK kv) ∧ KRs K H μ kvs kv := by
  cases x with
  | loc n =>
    obtain ⟨a, rfl, ha⟩ := loc_at r
    unfold dctOf at h
    dsimp only at h
    cases q : st[n]? with
    | none => rw [q] at h; cases h
    | some c =>
      rw [q] at h
      cases c with
      | dct k =>
        cases h
        obtain ⟨kv, h1, h2⟩ := sr.cell n _ a q ha
        exact ⟨n, a, kv, rfl, rfl, ha, q, h1, h2⟩
      | lst xs => cases h
      | ins C fs => cases h
      | dcl kvs => cases h
      | dcn kvs => cases h
      | lck kvs => cases h
  | _ => cases h
def gdOf (x : PV) (y : PV) (st : Sto) : Option (List (PV × PV)) := match x with
  | .loc n => match st[n]? with
    | some (.dcl kvs) => if (lfOf y).isSome = true then some kvs else none
    | some (.dcn kvs) => if (nkT y).isSome = true then some kvs else none
    | _ => none
  | _ => none
theorem gdOf_at {K : KW} {H : Hp} {μ : Mu} {st : Sto} {x y : PV} {v u : V} {kvs : List (PV × PV)} (sr : SR K μ st H) (r : VR K H μ x v) (ry : VR K H μ y u) (h : gdOf x y st = some kvs) :
    ∃ a o, v = .ref a ∧ GGet K H a u o ∧ (∀ p, lookP kvs y = some p → ∃ v, o = some v ∧ VR K H μ p v) ∧ (lookP kvs y = none → o = none) := by
  cases x with
  | loc n =>
    obtain ⟨a, rfl, ha⟩ := loc_at r
    unfold gdOf at h
    dsimp only at h
    cases q : st[n]? with
    | none => rw [q] at h; cases h
    | some c =>
      rw [q] at h
      cases c with
      | dct k => cases h
      | lst xs => cases h
      | ins C fs => cases h
      | lck k => cases h
      | dcl k =>
        dsimp only at h
        by_cases hk : (lfOf y).isSome = true
        · rw [if_pos hk] at h
          cases h
          obtain ⟨k', ek⟩ := Option.isSome_iff_exists.mp hk
          obtain ⟨o, g⟩ := (sr.cell n _ a q ha).getL ek ry
          exact ⟨a, o, rfl, g⟩
        · rw [if_neg hk] at h; cases h
      | dcn k =>
        dsimp only at h
        by_cases hk : (nkT y).isSome = true
        · rw [if_pos hk] at h
          cases h
          obtain ⟨k', ek⟩ := Option.isSome_iff_exists.mp hk
          obtain ⟨o, g⟩ := (sr.cell n _ a q ha).getN ek ry
          exact ⟨a, o, rfl, g⟩
        · rw [if_neg hk] at h; cases h
  | _ => cases h
def ixM (x y : PV) : M PV := fun st => match seqOf x st with
  | some xs => match y with
    | .int i => optM (L2.atI xs i) st
    | _ => .bad
  | none => match x with
    | .str z => match y with
      | .int i => if z.length ≤ SZ then (match L2.atI z i with | some c => .ok (.str [c]) st | none => .bad) else .bad
      | _ => .bad
    | x => match dctOf x st with
      | some kvs => if (keyOf y).isSome = true then optM (lookP kvs y) st else .bad
      | none => match gdOf x y st with
        | some kvs => optM (lookP kvs y) st
        | none => .bad
def rIxM (K : KW) : R2 := fun x y H Q => (rIxL K x y H Q ∨ rIxT K x y H Q ∨ rIxS x y H Q) ∨ (∃ a v, x = .ref a ∧ DGet H a y (some v) ∧ Q v H) ∨ ∃ a v, x = .ref a ∧ GGet K H a y (some v) ∧ Q v H
theorem ix_dictG {X : Cx} (hu : X.A.units + 64 < cLine) : IxR X (fun x y H Q => ∃ a v, x = .ref a ∧ GGet (kw X) H a y (some v) ∧ Q v H) := by
  intro value slice pins s σ H x y v u Q I rx ry h hs
  obtain ⟨a, w, rfl, g, q⟩ := h
  cases (show v = Value.ref a from rx)
  exact PyProof.Rows.tail_any (g_typeIs I g) PySem.F.slot_dict_getitem.lookup (g_getItem hu I g ry fun w' s3 I3 rw' => ⟨w, H, I3, rw', q⟩) hs
theorem ix_dict {X : Cx} (hu : X.A.units + 1 < cLine) : IxR X (fun x y H Q => ∃ a v, x = .ref a ∧ DGet H a y (some v) ∧ Q v H) := by
  intro value slice pins s σ H x y v u Q I rx ry h hs
  obtain ⟨a, w, rfl, g, q⟩ := h
  cases (show v = Value.ref a from rx)
  exact PyProof.Rows.tail_any (dict_typeIs I g) PySem.F.slot_dict_getitem.lookup (d_getItem hu I g ry fun w' s3 I3 rw' => ⟨w, H, I3, rw', q⟩) hs
theorem ix_M {X : Cx} (hu : X.A.units + 64 < cLine) : IxR X (rIxM (kw X)) := ix_seq.or ((ix_dict (by omega)).or (ix_dictG hu))
theorem t_ix {K : KW} : T2 K (rIxM K) ixM := by
  intro μ st H x y u v E Q sr rx ry h
  unfold ixM at h
  cases hs : seqOf x st with
  | some xs =>
    rw [hs] at h
    cases y with
    | int i =>
      cases (show v = V.int i from ry)
      dsimp only at h
      obtain ⟨a, vs, rfl, hq, rs⟩ := seqOf_at sr rx hs
      cases q : L2.atI xs i with
      | none => rw [q] at h; exact h.elim
      | some p =>
        rw [q] at h
        obtain ⟨w, e, rw'⟩ := VRs.atI rs q
        have z := post_same h sr rw'
        rcases hq with hq | hq
        · exact .inl (.inl ⟨a, vs, i, w, rfl, rfl, hq, e, z⟩)
        · exact .inl (.inr (.inl ⟨a, vs, i, w, rfl, rfl, hq, e, z⟩))
    | _ => exact h.elim
  | none =>
    rw [hs] at h
    dsimp only at h
    have dcase : PostG K E (VR K) Q μ H (match dctOf x st with
      | some kvs => if (keyOf y).isSome = true then optM (lookP kvs y) st else .bad
      | none => match gdOf x y st with
        | some kvs => optM (lookP kvs y) st
        | none => .bad) → rIxM K u v H Q := by
      intro h
      cases hd : dctOf x st with
      | none =>
        rw [hd] at h
        dsimp only at h
        cases hg : gdOf x y st with
        | none => rw [hg] at h; exact h.elim
        | some kvs =>
          rw [hg] at h
          dsimp only at h
          obtain ⟨a, o, rfl, g, l1, l2⟩ := gdOf_at sr rx ry hg
          cases q : lookP kvs y with
          | none => rw [q] at h; exact h.elim
          | some p =>
            rw [q] at h
            obtain ⟨w, rfl, rw'⟩ := l1 p q
            exact .inr (.inr ⟨a, w, rfl, g, post_same h sr rw'⟩)
      | some kvs =>
        rw [hd] at h
        dsimp only at h
        by_cases hk : (keyOf y).isSome = true
        · rw [if_pos hk] at h
          obtain ⟨k', ek⟩ := Option.isSome_iff_exists.mp hk
          obtain ⟨n, a, kv, ex, rfl, ha, hc, h1, h2⟩ := dctOf_at sr rx hd
          cases q : lookP kvs y with
          | none => rw [q] at h; exact h.elim
          | some p =>
            rw [q] at h
            obtain ⟨w, e, rw'⟩ := (KRs.look ek h2).1 p q
            refine .inr (.inl ⟨a, w, rfl, ?_, post_same h sr rw'⟩)
            rw [keyOf_kV ek ry, ← e]
            exact DGet.k h1
        · rw [if_neg hk] at h
          exact h.elim
    cases x with
    | str z =>
      cases (show u = V.str ⟨z.toArray⟩ from rx)
      cases y with
      | int i =>
        cases (show v = V.int i from ry)
        dsimp only at h
        by_cases hz : z.length ≤ SZ
        · rw [if_pos hz] at h
          cases q : L2.atI z i with
          | none => rw [q] at h; exact h.elim
          | some c =>
            rw [q] at h
            refine .inl (.inr (.inr ⟨⟨z.toArray⟩, i, c, rfl, rfl, by rw [str_len, sz_eq]; exact hz, ?_, post_same h sr rfl⟩))
            simpa using q
        · rw [if_neg hz] at h
          exact h.elim
      | _ => exact h.elim
    | _ => exact dcase h
section
variable {X : Cx} {W : WX} {a b : Expr} {pos : Pos} {ma mb : Rho → M PV}
theorem me_sub_ix (hu : X.A.units + 64 < cLine) (ha : ME X W a ma) (hb : ME X W b mb) (hs : PlainIx b) : ME X W (.Subscript a b pos) (eBin ixM ma mb) := me_ix (ix_M hu) t_ix ha hb hs
end
def cutL {α : Type} (xs : List α) (lo hi : Option Int) : List α := (xs.drop (HT.sIx xs.length 0 lo)).take (HT.sIx xs.length xs.length hi - HT.sIx xs.length 0 lo)
theorem VRs.cut {K : PySem.W.Frag} {H : Hp} {μ : Mu} {ps : List PV} {vs : List V} (r : VRs K H μ ps vs) (lo hi : Option Int) : VRs K H μ (cutL ps lo hi) (cutV vs lo hi) := by
  unfold cutL cutV
  rw [VRs.length r]
  exact VRs.take _ (VRs.drop _ r)
def slM (x : PV) (lo hi : Option Int) : M PV := match x with
  | .str z => if z.length ≤ SZ then M.ret (.str (cutL z lo hi)) else M.fail
  | .tup xs => M.ret (.tup (cutL xs lo hi))
  | x => fun st => match seqOf x st with
    | some xs => .ok (.lst (cutL xs lo hi)) st
    | none => .bad
def slN (x : PV) (lo hi : Option Int) : M PV := match x with
  | .str _ => M.fail
  | .tup _ => M.fail
  | x => fun st => match seqOf x st with
    | some xs => .ok (.loc st.length) (st ++ [.lst (cutL xs lo hi)])
    | none => .bad
def oNone : Rho → M (Option Int) := fun _ => M.ret none
def asI : PV → M Int
  | .int i => M.ret i
  | _ => M.fail
def oSome (m : Rho → M PV) : Rho → M (Option Int) := fun ρ => M.bind (m ρ) fun x => M.bind (asI x) fun i => M.ret (some i)
def tMO (K : KW) (W : WX) (m : Rho → M (Option Int)) : TO := fun σ H Q => ∃ μ st ρ, ER K H μ ρ σ ∧ SR K μ st H ∧ PostG K (fun c d H' => W c d σ H') (fun _ _ (a : Option Int) b => a = b) Q μ H (m ρ st)
def MO (X : Cx) (W : WX) (e : Option Expr) (m : Rho → M (Option Int)) : Prop := PO X e (tMO (kw X) W m)
theorem PO.imp {X : Cx} {e : Option Expr} {t t' : TO} (h : PO X e t) (i : ∀ σ H Q, t' σ H Q → t σ H Q) : PO X e t' := ⟨fun pins s σ H Q I q => h.run pins s σ H Q I (i σ H Q q)⟩
def eSl (f : PV → Option Int → Option Int → M PV) (me : Rho → M PV) (ml mh : Rho → M (Option Int)) : Rho → M PV := fun ρ => M.bind (me ρ) fun x => M.bind (ml ρ) fun l => M.bind (mh ρ) fun h => f x l h
def rSlM (K : PySem.W.Frag) : V → Option Int → Option Int → Hp → VK → Prop := fun x lo hi H Q => rSlS x lo hi H Q ∨ rSlA K x lo hi H Q ∨ rSlL K x lo hi H Q
section
variable {X : Cx} {W : WX} {e : Expr} {lo hi : Option Expr} {pos p2 : Pos} {me : Rho → M PV} {ml mh : Rho → M (Option Int)}
theorem mo_none : MO X W none oNone := PO.imp po_none fun σ H Q ⟨μ, st, ρ, er, sr, h⟩ => h μ H none (Gr.refl _ _) sr rfl
theorem mo_some (he : ME X W e me) : MO X W (some e) (oSome me) := PO.imp (po_some he) fun σ H Q ⟨μ, st, ρ, er, sr, h⟩ => ⟨μ, st, ρ, er, sr, (PostG.bind h).mono fun u H1 ⟨μ1, st1, x, g1, s1, rx, h1⟩ => by
  cases x with
  | int i => exact ⟨i, rx, h1 μ1 H1 _ (Gr.refl _ _) s1 rfl⟩
  | _ => exact h1.elim⟩
def TSl (K : KW) (r : V → Option Int → Option Int → Hp → VK → Prop) (f : PV → Option Int → Option Int → M PV) : Prop :=
  ∀ (μ : Mu) (st : Sto) (H : Hp) (x : PV) (lo hi : Option Int) (u : V) (E : XK) (Q : VK), SR K μ st H → VR K H μ x u → PostG K E (VR K) Q μ H (f x lo hi st) → r u lo hi H Q
theorem me_slG {f : PV → Option Int → Option Int → M PV} (t : TSl (kw X) (rSlM X.K) f) (he : ME X W e me) (hl : MO X W lo ml) (hh : MO X W hi mh) : ME X W (.Subscript e (.Slice lo hi none p2) pos) (eSl f me ml mh) :=
  PE.imp (pe_slice (sl_str.or (sl_tupA.or sl_list)) he hl hh) fun σ H Q ⟨μ, st, ρ, er, sr, h⟩ => ⟨μ, st, ρ, er, sr, (PostG.bind h).mono fun u H1 ⟨μ1, st1, x, g1, s1, rx, h1⟩ =>
    ⟨μ1, st1, ρ, er.mono g1, s1, (PostG.bind h1).mono fun l H2 ⟨μ2, st2, l', g2, s2, el, h2⟩ => ⟨μ2, st2, ρ, (er.mono g1).mono g2, s2, (PostG.bind h2).mono fun k H3 ⟨μ3, st3, k', g3, s3, ek, h3⟩ => by
      subst el ek
      exact t μ3 st3 H3 x l' k' u _ Q s3 (VR.mono g3 x u (VR.mono g2 x u rx)) h3⟩⟩⟩
theorem sl_lists {K : KW} {μ : Mu} {st : Sto} {H : Hp} {x : PV} {lo hi : Option Int} {u : V} {E : XK} {Q : VK} (sr : SR K μ st H) (rx : VR K H μ x u) (nt : ∀ xs, x ≠ .tup xs)
    (h : PostG K E (VR K) Q μ H (match seqOf x st with
    | some xs => .ok (.lst (cutL xs lo hi)) st
    | none => .bad)) : rSlM K u lo hi H Q := by
  cases q : seqOf x st with
  | none => rw [q] at h; exact h.elim
  | some xs =>
    rw [q] at h
    obtain ⟨a, vs, rfl, hq, rs⟩ : ∃ a vs, u = .ref a ∧ SqL K H a vs ∧ VRs K H μ xs vs := by
      cases x with
      | lst xs => cases q; obtain ⟨a, vs, e, l, rs⟩ := lst_at rx; exact ⟨a, vs, e, l.sq, rs⟩
      | frz xs => cases q; obtain ⟨a, vs, e, l, rs⟩ := frz_at rx; exact ⟨a, vs, e, l.sq, rs⟩
      | loc n => obtain ⟨a, vs, e, l, rs⟩ := listOf_at sr rx (show listOf (.loc n) st = some xs from q); exact ⟨a, vs, e, SqL.of l, rs⟩
      | tup xs => exact absurd rfl (nt xs)
      | _ => cases q
    exact .inr (.inr ⟨a, vs, rfl, hq, fun p hp => post_lst sr (VRs.cut rs lo hi) hp h⟩)
theorem t_sl {K : KW} : TSl K (rSlM K) slM := by
  intro μ st H x lo hi u E Q sr rx h
  cases x with
  | str z =>
    cases (show u = V.str ⟨z.toArray⟩ from rx)
    unfold slM at h
    dsimp only at h
    by_cases hz : z.length ≤ SZ
    · rw [if_pos hz] at h
      refine .inl ⟨⟨z.toArray⟩, rfl, by rw [str_len, sz_eq]; exact hz, ?_⟩
      have e : cutS ⟨z.toArray⟩ lo hi = ⟨(cutL z lo hi).toArray⟩ := by
        unfold cutS cutL
        rw [str_len]
      rw [e]
      exact post_same h sr rfl
    · rw [if_neg hz] at h
      exact h.elim
  | tup xs =>
    obtain ⟨a, vs, rfl, t, rs⟩ := tup_at rx
    refine .inr (.inl ⟨a, vs, rfl, t.sq, fun hw => ?_, fun _ p hp => post_tup sr (VRs.cut rs lo hi) hp h⟩)
    have h' : PostG K E (VR K) Q μ H (.ok (.tup (cutL xs lo hi)) st) := h
    have e : cutL xs lo hi = xs := by
      unfold cutL
      rw [VRs.length rs, hw.1, hw.2, List.drop_zero, Nat.sub_zero, ← VRs.length rs]
      simp
    rw [e] at h'
    exact post_same h' sr rx
  | lst xs => exact sl_lists sr rx (fun _ z => nomatch z) h
  | frz xs => exact sl_lists sr rx (fun _ z => nomatch z) h
  | loc n => exact sl_lists sr rx (fun _ z => nomatch z) h
  | _ => exact h.elim
theorem me_slice (he : ME X W e me) (hl : MO X W lo ml) (hh : MO X W hi mh) : ME X W (.Subscript e (.Slice lo hi none p2) pos) (eSl slM me ml mh) := me_slG t_sl he hl hh
theorem t_slN {K : KW} : TSl K (rSlM K) slN := by
  intro μ st H x lo hi u E Q sr rx h
  have go : ∀ (nt : ∀ xs, x ≠ .tup xs), PostG K E (VR K) Q μ H (match seqOf x st with
    | some xs => .ok (.loc st.length) (st ++ [.lst (cutL xs lo hi)])
    | none => .bad) → rSlM K u lo hi H Q := by
    intro nt h
    cases q : seqOf x st with
    | none => rw [q] at h; exact h.elim
    | some xs =>
      rw [q] at h
      obtain ⟨a, vs, rfl, hq, rs⟩ : ∃ a vs, u = .ref a ∧ SqL K H a vs ∧ VRs K H μ xs vs := by
        cases x with
        | lst xs => cases q; obtain ⟨a, vs, e, l, rs⟩ := lst_at rx; exact ⟨a, vs, e, l.sq, rs⟩
        | frz xs => cases q; obtain ⟨a, vs, e, l, rs⟩ := frz_at rx; exact ⟨a, vs, e, l.sq, rs⟩
        | loc n => obtain ⟨a, vs, e, l, rs⟩ := listOf_at sr rx (show listOf (.loc n) st = some xs from q); exact ⟨a, vs, e, SqL.of l, rs⟩
        | tup xs => exact absurd rfl (nt xs)
        | _ => cases q
      exact .inr (.inr ⟨a, vs, rfl, hq, fun p hp => post_cell h sr hp ⟨_, upd_same, VRs.mono (gr_alloc hp) _ _ (VRs.cut rs lo hi)⟩⟩)
  cases x with
  | str z => exact h.elim
  | tup xs => exact h.elim
  | lst xs => exact go (fun _ z => nomatch z) h
  | frz xs => exact go (fun _ z => nomatch z) h
  | loc n => exact go (fun _ z => nomatch z) h
  | _ => exact h.elim
theorem me_sliceN (he : ME X W e me) (hl : MO X W lo ml) (hh : MO X W hi mh) : ME X W (.Subscript e (.Slice lo hi none p2) pos) (eSl slN me ml mh) := me_slG t_slN he hl hh
end
section
variable {X : Cx} {W : WX} {es : List Expr} {pos : Pos} {ma : Rho → M (List PV)}
def mkTup (xs : List PV) : M PV := if xs.length ≤ SZ then M.ret (.tup xs) else M.fail
def mkLst (xs : List PV) : M PV := if xs.length ≤ SZ then M.ret (.lst xs) else M.fail
def mkLstN (xs : List PV) : M PV := fun st => if xs.length ≤ SZ then .ok (.loc st.length) (st ++ [.lst xs]) else .bad
theorem me_tup {k : Nat} (h : MA X W es ma) : ME X W (.Tuple es k pos) (eCall mkTup ma) :=
  PE.imp (pe_tup h) fun σ H Q ⟨μ, st, ρ, er, sr, h⟩ => ⟨μ, st, ρ, er, sr, (PostG.bind h).mono fun us H1 ⟨μ1, st1, xs, g1, s1, rxs, h1⟩ => by
    unfold mkTup at h1
    by_cases hz : xs.length ≤ SZ
    · rw [if_pos hz] at h1
      exact ⟨by rw [← VRs.length rxs, sz_eq]; exact hz, fun p hp => post_tup s1 rxs hp h1⟩
    · rw [if_neg hz] at h1
      exact h1.elim⟩
theorem me_lst (h : MA X W es ma) : ME X W (.List es pos) (eCall mkLst ma) :=
  PE.imp (pe_lst h) fun σ H Q ⟨μ, st, ρ, er, sr, h⟩ => ⟨μ, st, ρ, er, sr, (PostG.bind h).mono fun us H1 ⟨μ1, st1, xs, g1, s1, rxs, h1⟩ => by
    unfold mkLst at h1
    by_cases hz : xs.length ≤ SZ
    · rw [if_pos hz] at h1
      exact ⟨by rw [← VRs.length rxs, sz_eq]; exact hz, fun p hp => post_lst s1 rxs hp h1⟩
    · rw [if_neg hz] at h1
      exact h1.elim⟩
theorem me_lstN (h : MA X W es ma) : ME X W (.List es pos) (eCall mkLstN ma) :=
  PE.imp (pe_lst h) fun σ H Q ⟨μ, st, ρ, er, sr, h⟩ => ⟨μ, st, ρ, er, sr, (PostG.bind h).mono fun us H1 ⟨μ1, st1, xs, g1, s1, rxs, h1⟩ => by
    unfold mkLstN at h1
    by_cases hz : xs.length ≤ SZ
    · rw [if_pos hz] at h1
      exact ⟨by rw [← VRs.length rxs, sz_eq]; exact hz, fun p hp => post_cell h1 s1 hp ⟨_, upd_same, VRs.mono (gr_alloc hp) _ _ rxs⟩⟩
    · rw [if_neg hz] at h1
      exact h1.elim⟩
def eDct0 : Rho → M PV := fun _ st => .ok (.loc st.length) (st ++ [.dct []])
theorem me_dict0 : ME X W (.Dict [] [] pos) eDct0 := PE.imp pe_dnewK fun σ H Q ⟨μ, st, ρ, er, sr, h⟩ p hp => post_cell h sr hp ⟨_, upd_same, rfl⟩
theorem me_dictL0 : ME X W (.Dict [] [] pos) (fun _ st => .ok (.loc st.length) (st ++ [.dcl []])) := by
  refine PE.imp (t := fun σ H Q => ∀ p, H p = none → (p == sysModules) = false → Q (.ref p) (upd H p (leafD X.w p []))) ⟨fun pins s σ H Q I h => ?_⟩ fun σ H Q ⟨μ, st, ρ, er, sr, h⟩ p hp hs => post_cell h sr hp ⟨[], upd_same, hs, Nat.zero_le _, .nil, List.nodup_nil⟩
  refine thn (pe_dnewK.run pins s σ H (fun v H' => ∃ p, v = .ref p ∧ H p = none ∧ H' = upd H p (.dK [])) I (fun p hp => ⟨p, rfl, hp, rfl⟩)) fun u s' ⟨v, H', I', rv, p, ev, hp, eH⟩ => ?_
  subst ev eH
  obtain ⟨z, hd, vs, rel, dd⟩ := dk_of I'.hok upd_same
  cases rel
  obtain ⟨o, es, ep, h1, h2, h3, h4, h5, h6⟩ := dd
  have he : es.toList = [] := by
    generalize es.toList = l at h5
    cases h5; rfl
  refine ⟨.ref p, upd H p (leafD X.w p []), ?_, rv, h p hp hd⟩
  have I2 := I'.write (x := p) (e := p) (o := leafD X.w p []) (t' := s'.toks) (h' := s'.heap) (by rw [upd_same]; exact True.intro) (.inl rfl) (fun b q _ z => z) ⟨o, h1⟩ ⟨⟨o, es, ep, h1, h2, h3, by rw [he]; exact .nil⟩, ⟨o, h1⟩, leafD_stay⟩
  rw [upd_upd] at I2
  exact I2
theorem me_dictN0 : ME X W (.Dict [] [] pos) (fun _ st => .ok (.loc st.length) (st ++ [.dcn []])) := by
  refine PE.imp (t := fun σ H Q => ∀ p, H p = none → (p == sysModules) = false → Q (.ref p) (upd H p (nestD X.w p []))) ⟨fun pins s σ H Q I h => ?_⟩ fun σ H Q ⟨μ, st, ρ, er, sr, h⟩ p hp hs => post_cell h sr hp ⟨[], upd_same, hs, Nat.zero_le _, .nil, List.nodup_nil⟩
  refine thn (pe_dnewK.run pins s σ H (fun v H' => ∃ p, v = .ref p ∧ H p = none ∧ H' = upd H p (.dK [])) I (fun p hp => ⟨p, rfl, hp, rfl⟩)) fun u s' ⟨v, H', I', rv, p, ev, hp, eH⟩ => ?_
  subst ev eH
  obtain ⟨z, hd, vs, rel, dd⟩ := dk_of I'.hok upd_same
  cases rel
  obtain ⟨o, es, ep, h1, h2, h3, h4, h5, h6⟩ := dd
  have he : es.toList = [] := by
    generalize es.toList = l at h5
    cases h5; rfl
  refine ⟨.ref p, upd H p (nestD X.w p []), ?_, rv, h p hp hd⟩
  have I2 := I'.write (x := p) (e := p) (o := nestD X.w p []) (t' := s'.toks) (h' := s'.heap) (by rw [upd_same]; exact True.intro) (.inl rfl) (fun b q _ z => z) ⟨o, h1⟩ ⟨⟨o, es, ep, h1, h2, h3, by rw [he]; rfl⟩, ⟨o, h1⟩, nestD_stay⟩
  rw [upd_upd] at I2
  exact I2
def eDcl0 : Rho → M PV := fun _ st => .ok (.loc st.length) (st ++ [.dcl []])
def eDcn0 : Rho → M PV := fun _ st => .ok (.loc st.length) (st ++ [.dcn []])
theorem me_dictL : ME X W (.Dict [] [] pos) eDcl0 := me_dictL0
theorem me_dictN : ME X W (.Dict [] [] pos) eDcn0 := me_dictN0
def pairsM : List ((Rho → M PV) × (Rho → M PV)) → Rho → M (List (PV × PV))
  | [], _ => M.ret []
  | m :: r, ρ => M.bind (m.1 ρ) fun k => M.bind (m.2 ρ) fun v => M.bind (pairsM r ρ) fun ps => M.ret ((k, v) :: ps)
def PRs (K : PySem.W.Frag) (H : Hp) (μ : Mu) : List (PV × PV) → List (V × V) → Prop
  | [], ps => ps = []
  | p :: r, ps => ∃ k v t, ps = (k, v) :: t ∧ VR K H μ p.1 k ∧ VR K H μ p.2 v ∧ PRs K H μ r t
theorem PRs.mono {K : PySem.W.Frag} {H H' : Hp} {μ μ' : Mu} (g : Gr μ H μ' H') : ∀ (ps : List (PV × PV)) (kv : List (V × V)), PRs K H μ ps kv → PRs K H' μ' ps kv
  | [], _, h => h
  | p :: ps, kv, h => by
    obtain ⟨k, v, t, e, hk, h1, h2⟩ := h
    exact ⟨k, v, t, e, VR.mono g _ _ hk, VR.mono g _ _ h1, PRs.mono g ps t h2⟩
theorem pairs_imp {K : KW} {W : WX} {σ : St} {ρ : Rho} : ∀ (ms : List ((Rho → M PV) × (Rho → M PV))) (μ : Mu) (st : Sto) (H : Hp) (Q : List (V × V) → Hp → Prop), ER K H μ ρ σ → SR K μ st H →
    PostG K (fun c d H' => W c d σ H') (PRs K) Q μ H (pairsM ms ρ st) → tPairs (ms.map fun m => (tM K W m.1, tM K W m.2)) σ H Q
  | [], μ, st, H, Q, er, sr, h => h μ H [] (Gr.refl _ _) sr rfl
  | m :: r, μ, st, H, Q, er, sr, h => ⟨μ, st, ρ, er, sr, (PostG.bind h).mono fun u H1 ⟨μ1, st1, x, g1, s1, rx, h1⟩ => ⟨μ1, st1, ρ, er.mono g1, s1, (PostG.bind h1).mono fun w H2 ⟨μ2, st2, y, g2, s2, ry, h2⟩ =>
      pairs_imp r μ2 st2 H2 _ ((er.mono g1).mono g2) s2 ((PostG.bind h2).mono fun ps H3 ⟨μ3, st3, qs, g3, s3, rs, h3⟩ => h3 μ3 H3 _ (Gr.refl _ _) s3 ⟨u, w, ps, rfl, VR.mono g3 x u (VR.mono g2 x u rx), VR.mono g3 y w ry, rs⟩)⟩⟩
def mergeP (kvs more : List (PV × PV)) : List (PV × PV) := more.foldl (fun acc kv => putP acc kv.1 kv.2) kvs
def keysOk (kvs : List (PV × PV)) : Bool := kvs.all fun kv => (keyOf kv.1).isSome
def eDct (ms : List ((Rho → M PV) × (Rho → M PV))) : Rho → M PV := fun ρ => M.bind (pairsM ms ρ) fun ps st => if keysOk ps = true ∧ ps.length ≤ 15 then .ok (.loc st.length) (st ++ [.dct (mergeP [] ps)]) else .bad
def MPs (X : Cx) (W : WX) (pos : Pos) (keys : List (Option Expr)) (values : List Expr) (ms : List ((Rho → M PV) × (Rho → M PV))) : Prop := PPs X pos keys values (ms.map fun m => (tM (kw X) W m.1, tM (kw X) W m.2))
theorem mps_nil : MPs X W pos [] [] [] := pps_nil
theorem mps_cons {k v : Expr} {ks : List (Option Expr)} {vs : List Expr} {mk mv : Rho → M PV} {ms : List ((Rho → M PV) × (Rho → M PV))} (hk : ME X W k mk) (hv : ME X W v mv) (hr : MPs X W pos ks vs ms) : MPs X W pos (some k :: ks) (v :: vs) ((mk, mv) :: ms) := pps_cons hk hv hr
theorem PRs.keys {K : PySem.W.Frag} {H : Hp} {μ : Mu} : ∀ {ps : List (PV × PV)} {kv : List (V × V)}, PRs K H μ ps kv → keysOk ps = true → ∃ ks : List (Key × V), kv = ks.map (fun x => (kV x.1, x.2)) ∧ KRs K H μ ps ks
  | [], kv, h, _ => by have e : kv = [] := h; subst e; exact ⟨[], rfl, rfl⟩
  | p :: ps, kv, h, hk => by
    obtain ⟨k, v, t, rfl, h1, h2, h3⟩ := h
    have hk' : (keyOf p.1).isSome = true ∧ keysOk ps = true := by simpa [keysOk] using hk
    obtain ⟨k', ek⟩ := Option.isSome_iff_exists.mp hk'.1
    obtain ⟨ks, e, r⟩ := PRs.keys h3 hk'.2
    exact ⟨(k', v) :: ks, by rw [List.map_cons, ← e, keyOf_kV ek h1], k', v, ks, rfl, ek, h2, r⟩
theorem KRs.merge {K : PySem.W.Frag} {H : Hp} {μ : Mu} : ∀ {ps : List (PV × PV)} {ks : List (Key × V)} {qs : List (PV × PV)} {ls : List (Key × V)}, KRs K H μ ps ks → KRs K H μ qs ls → KRs K H μ (mergeP qs ps) (mergeK ls ks)
  | [], ks, qs, ls, h, r => by have e : ks = [] := h; subst e; exact r
  | p :: ps, ks, qs, ls, h, r => by
    obtain ⟨k, v, t, rfl, ek, h1, h2⟩ := h
    show KRs K H μ (mergeP (putP qs p.1 p.2) ps) (mergeK (putK ls k v) t)
    exact KRs.merge h2 (r.put ek h1)
theorem me_dict {keys : List (Option Expr)} {values : List Expr} {ms : List ((Rho → M PV) × (Rho → M PV))} (h : MPs X W pos keys values ms) (hall : keys.all (·.isSome) = true := by kernel_rfl) (hl : keys.length = values.length := by kernel_rfl) (h0 : keys ≠ [] := by intro z; cases z) (h15 : keys.length ≤ 15 := by decide) : ME X W (.Dict keys values pos) (eDct ms) :=
  PE.imp (pe_disp h hall hl h0 h15) fun σ H Q ⟨μ, st, ρ, er, sr, h⟩ p hp => pairs_imp ms μ st _ _ (er.mono (gr_new hp)) (sr.new hp) ((PostG.bindAt h (gr_new (o := .dK []) hp)).mono fun ps H1 ⟨μ1, st1, qs, g1, s1, rs, h1⟩ => by
    have hp1 : H1 p = some (.dK []) := g1.keep p _ upd_same (fun z => sr.free hp (.inl z))
    have np : p ∉ μ1 := g1.out upd_same (sr.free hp)
    by_cases hk : keysOk qs = true ∧ qs.length ≤ 15
    · rw [if_pos hk] at h1
      obtain ⟨ks, e, r⟩ := PRs.keys rs hk.1
      refine ⟨hp1, ks, e, by rw [← KRs.length r]; exact hk.2, ?_⟩
      have nseq : ∀ u, H1 p = some u → seqO u = false := fun u z => by rw [hp1] at z; cases z; rfl
      have gr : Gr μ H (μ1.add p) (upd H1 p (.dK (mergeK [] ks))) := by
        obtain ⟨t, et⟩ := g1.pre
        refine ⟨⟨t ++ [p], by show μ1.l ++ [p] = _; rw [et, List.append_assoc]⟩, g1.ban, fun b m => ?_, fun b m => ?_, fun b o e nb => ?_, fun b o u e => ?_⟩
        · rcases g1.bnew b m with z | z
          · exact .inl z
          · by_cases hb : b = p
            · rw [hb]; exact .inr hp
            · rw [upd_ne hb] at z; exact .inr z
        · rcases List.mem_append.mp m with z | z
          · rcases g1.new b z with z | z
            · exact .inl z
            · by_cases hb : b = p
              · rw [hb]; exact .inr hp
              · rw [upd_ne hb] at z; exact .inr z
          · rw [List.mem_singleton.mp z]; exact .inr hp
        · have hb : b ≠ p := ne_of_none e hp
          rw [upd_ne hb]
          exact g1.keep b o (by rw [upd_ne hb]; exact e) nb
        · have hb : b ≠ p := ne_of_none e hp
          rw [upd_ne hb]
          exact g1.fz b o u (by rw [upd_ne hb]; exact e)
      refine h1 _ _ (.ref p) gr (s1.track np nseq ⟨_, upd_same, KRs.mono (gv_alloc nseq) _ _ (KRs.merge r (show KRs X.K H1 μ1 [] [] from rfl))⟩) ?_
      exact (show ∃ a, V.ref p = .ref a ∧ (μ1.add p).l[st1.length]? = some a from ⟨p, rfl, by rw [← s1.len]; simp [Mu.add]⟩)
    · rw [if_neg hk] at h1
      exact h1.elim)
end
end MP

set_option maxRecDepth 100000
set_option maxHeartbeats 1000000
namespace MP
open PySem L2
def setM (o i v : PV) : M Unit := fun st => match o with
  | .loc n => match st[n]? with
    | some (.lst xs) => match i with
      | .int k => match ixN xs.length k with
        | some j => .ok () (st.set n (.lst (xs.set j v)))
        | none => .bad
      | _ => .bad
    | some (.dct kvs) => if (keyOf i).isSome = true ∧ kvs.length < SZ then .ok () (st.set n (.dct (putP kvs i v))) else .bad
    | some (.dcl kvs) => if (lfOf i).isSome = true ∧ kvs.length < SZ then .ok () (st.set n (.dcl (putP kvs i v))) else .bad
    | some (.dcn kvs) => if (nkT i).isSome = true ∧ kvs.length < SZ then .ok () (st.set n (.dcn (putP kvs i v))) else .bad
    | _ => .bad
  | _ => .bad
def rSetM (K : KW) : V → V → V → Hp → (Hp → Prop) → Prop := fun o i v H Q => rSetL o i v H Q ∨ (∃ a H', o = .ref a ∧ DPut H a i v H' ∧ Q H') ∨ ∃ a, o = .ref a ∧ GPut K H a i v Q
theorem set_M {X : Cx} (hu : X.A.units + 64 < cLine) : PSet X (rSetM (kw X)) := by
  intro pins s σ H o i v ov iv u Q I ro ri rv h
  rcases h with h | ⟨a, H', rfl, g, q⟩ | ⟨a, rfl, g⟩
  · exact set_list pins s σ H o i v ov iv u Q I ro ri rv h
  · cases (show ov = Value.ref a from ro)
    exact d_setItem (by omega) I g ri rv fun s4 I4 => ⟨H', I4, q⟩
  · cases (show ov = Value.ref a from ro)
    exact g_setItem hu I g ri rv fun H' s4 I4 q => ⟨H', I4, q⟩
theorem t_set {K : KW} {μ : Mu} {st : Sto} {H : Hp} {o i v : PV} {a b c : V} {E : XK} {Q : Hp → Prop} (sr : SR K μ st H) (ro : VR K H μ o a) (ri : VR K H μ i b) (rv : VR K H μ v c)
    (h : PostG K E (fun _ _ (_ : Unit) (_ : Unit) => True) (fun _ H' => Q H') μ H (setM o i v st)) : rSetM K a b c H Q := by
  cases o with
  | loc n =>
    obtain ⟨p, rfl, hp⟩ := loc_at ro
    unfold setM at h
    dsimp only at h
    cases q : st[n]? with
    | none => rw [q] at h; exact h.elim
    | some cc =>
      rw [q] at h
      cases cc with
      | lst xs =>
        dsimp only at h
        cases i with
        | int k =>
          dsimp only at h
          cases (show b = V.int k from ri)
          cases qj : ixN xs.length k with
          | none => rw [qj] at h; exact h.elim
          | some j =>
            rw [qj] at h
            obtain ⟨vs, h1, h2⟩ := sr.cell n _ p q hp
            refine .inl ⟨p, vs, k, j, rfl, rfl, h1, by rw [← VRs.length h2]; exact qj, ?_⟩
            exact h μ _ () (gr_put hp h1 rfl) (sr.put hp ⟨_, upd_same, VRs.monov (gv_put hp) _ _ (VRs.set rv j h2)⟩) trivial
        | _ => exact h.elim
      | dct kvs =>
        dsimp only at h
        by_cases hk : (keyOf i).isSome = true ∧ kvs.length < SZ
        · rw [if_pos hk] at h
          obtain ⟨k', ek⟩ := Option.isSome_iff_exists.mp hk.1
          obtain ⟨kv, h1, h2⟩ := sr.cell n _ p q hp
          refine .inr (.inl ⟨p, upd H p (.dK (putK kv k' c)), rfl, ?_, ?_⟩)
          · rw [keyOf_kV ek ri]
            exact DPut.k h1 (by rw [← KRs.length h2, sz_eq]; exact hk.2)
          · exact h μ _ () (gr_put hp h1 rfl) (sr.put hp ⟨_, upd_same, KRs.mono (gv_put hp) _ _ (h2.put ek rv)⟩) trivial
        · rw [if_neg hk] at h
          exact h.elim
      | ins C fs => exact h.elim
      | dcl kvs =>
        dsimp only at h
        by_cases hk : (lfOf i).isSome = true ∧ kvs.length < SZ
        · rw [if_pos hk] at h
          obtain ⟨k', ek⟩ := Option.isSome_iff_exists.mp hk.1
          exact .inr (.inr ⟨p, rfl, (sr.cell n _ p q hp).putL hp ek (by rw [sz_eq]; exact hk.2) ri rv fun o cr => h μ _ () (let ⟨_, h1, _⟩ := sr.cell n _ p q hp; gr_put hp h1 rfl) (sr.put hp cr) trivial⟩)
        · rw [if_neg hk] at h
          exact h.elim
      | dcn kvs =>
        dsimp only at h
        by_cases hk : (nkT i).isSome = true ∧ kvs.length < SZ
        · rw [if_pos hk] at h
          obtain ⟨k', ek⟩ := Option.isSome_iff_exists.mp hk.1
          exact .inr (.inr ⟨p, rfl, (sr.cell n _ p q hp).putN hp ek (by rw [sz_eq]; exact hk.2) ri rv fun o cr => h μ _ () (let ⟨_, h1, _⟩ := sr.cell n _ p q hp; gr_put hp h1 rfl) (sr.put hp cr) trivial⟩)
        · rw [if_neg hk] at h
          exact h.elim
      | lck kvs => exact h.elim
  | _ => exact h.elim
def gSubM (mo mi : Rho → M PV) : GM := fun p ρ => M.bind (mo ρ) fun o => M.bind (mi ρ) fun i => M.bind (setM o i p) fun _ => M.ret ρ
section
variable {X : Cx} {W : WX} {o i : Expr} {pos : Pos} {mo mi : Rho → M PV}
theorem mg_sub (hu : X.A.units + 64 < cLine) (ho : ME X W o mo) (hi : ME X W i mi)
    (ha : ∀ v, assign (.Subscript o i pos) X.env v = (do
      let ov ← holding [v] (eval o X.env)
      let iv ← holding [v, ov] (eval i X.env)
      standAt pos
      holding [v, ov, iv] (setItem ov iv v)
      release [v, ov, iv] []) := by intro _; rfl) : MG X W (.Subscript o i pos) (gSubM mo mi) :=
  PG.imp (pg_sub ho hi (set_M hu) ha) fun v σ H Q ⟨μ, st, ρ, p, er, sr, rv, h⟩ => ⟨μ, st, ρ, er, sr, (PostG.bind h).mono fun u H1 ⟨μ1, st1, x, g1, s1, rx, h1⟩ =>
    ⟨μ1, st1, ρ, er.mono g1, s1, (PostG.bind h1).mono fun w H2 ⟨μ2, st2, y, g2, s2, ry, h2⟩ => t_set s2 (VR.mono g2 x u rx) ry (VR.mono g2 p v (VR.mono g1 p v rv))
      ((PostG.bind (R' := fun _ _ (_ : Unit) (_ : Unit) => True) h2).mono fun _ H3 ⟨μ3, st3, _, g3, s3, _, h3⟩ => h3 μ3 H3 σ (Gr.refl _ _) s3 (((er.mono g1).mono g2).mono g3))⟩⟩
end
def lenM (xs : List PV) : M PV := fun st => match xs with
  | [x] => match seqOf x st with
    | some ys => .ok (.int ys.length) st
    | none => match x with
      | .str z => if z.length ≤ SZ then .ok (.int z.length) st else .bad
      | x => match dctOf x st with
        | some kvs => .ok (.int kvs.length) st
        | none => .bad
  | _ => .bad
theorem one_of {K : PySem.W.Frag} {H : Hp} {μ : Mu} {x : PV} {us : List V} (r : VRs K H μ [x] us) : ∃ u, us = [u] ∧ VR K H μ x u := by
  obtain ⟨u, t, rfl, h1, h2⟩ := (show ∃ v t, us = v :: t ∧ VR K H μ x v ∧ VRs K H μ [] t from r)
  cases (show t = [] from h2)
  exact ⟨u, rfl, h1⟩
theorem two_of {K : PySem.W.Frag} {H : Hp} {μ : Mu} {x y : PV} {us : List V} (r : VRs K H μ [x, y] us) : ∃ u v, us = [u, v] ∧ VR K H μ x u ∧ VR K H μ y v := by
  obtain ⟨u, t, rfl, h1, h2⟩ := (show ∃ v t, us = v :: t ∧ VR K H μ x v ∧ VRs K H μ [y] t from r)
  obtain ⟨v, rfl, h3⟩ := one_of h2
  exact ⟨u, v, rfl, h1, h3⟩
def rLenM (K : PySem.W.Frag) : List V → Hp → VK → Prop := fun xs H Q => (∃ x n, xs = [x] ∧ LenV K x H n ∧ Q (.int n) H) ∨ ∃ a kvs, xs = [V.ref a] ∧ H a = some (.dK kvs) ∧ Q (.int kvs.length) H
theorem cr_lenM {X : Cx} : CallR X (.builtin "len") (rLenM X.K) := call_len.or call_lenD
theorem t_len {K : KW} : TL K (rLenM K) lenM := by
  intro μ st H xs us E Q sr r h
  cases xs with
  | nil => exact h.elim
  | cons x t =>
    cases t with
    | cons y t => exact h.elim
    | nil =>
      obtain ⟨u, rfl, rx⟩ := one_of r
      unfold lenM at h
      dsimp only at h
      cases hs : seqOf x st with
      | some ys =>
        rw [hs] at h
        obtain ⟨a, vs, rfl, hq, rs⟩ := seqOf_at sr rx hs
        refine .inl ⟨.ref a, ys.length, rfl, ?_, post_same h sr rfl⟩
        rcases hq with hq | hq
        · exact .inl ⟨vs, hq, VRs.length rs⟩
        · exact .inr ⟨vs, hq, VRs.length rs⟩
      | none =>
        rw [hs] at h
        dsimp only at h
        have dc : PostG K E (VR K) Q μ H (match dctOf x st with
          | some kvs => .ok (.int kvs.length) st
          | none => .bad) → rLenM K [u] H Q := by
          intro h
          cases hd : dctOf x st with
          | none => rw [hd] at h; exact h.elim
          | some kvs =>
            rw [hd] at h
            obtain ⟨n, a, kv, ex, rfl, ha, hc, h1, h2⟩ := dctOf_at sr rx hd
            refine .inr ⟨a, kv, rfl, h1, ?_⟩
            rw [← KRs.length h2]
            exact post_same h sr rfl
        cases x with
        | str z =>
          cases (show u = V.str ⟨z.toArray⟩ from rx)
          dsimp only at h
          by_cases hz : z.length ≤ SZ
          · rw [if_pos hz] at h
            refine .inl ⟨_, z.length, rfl, ?_, post_same h sr rfl⟩
            exact ⟨by rw [str_len, sz_eq]; exact hz, by rw [str_len]⟩
          · rw [if_neg hz] at h
            exact h.elim
        | _ => exact dc h
def listM (xs : List PV) : M PV := fun st => match xs with
  | [x] => match seqOf x st with
    | some ys => .ok (.lst ys) st
    | none => .bad
  | _ => .bad
def listN (xs : List PV) : M PV := fun st => match xs with
  | [x] => match seqOf x st with
    | some ys => .ok (.loc st.length) (st ++ [.lst ys])
    | none => .bad
  | _ => .bad
abbrev rListM (K : PySem.W.Frag) : List V → Hp → VK → Prop := fun xs H Q => ∃ p ys, xs = [.ref p] ∧ (SqL K H p ys ∨ SqT K H p ys) ∧ ∀ l, H l = none → Q (.ref l) (upd H l (.lst ys))
theorem t_list {K : KW} : TL K (rListM K) listM := by
  intro μ st H xs us E Q sr r h
  cases xs with
  | nil => exact h.elim
  | cons x t =>
    cases t with
    | cons y t => exact h.elim
    | nil =>
      obtain ⟨u, rfl, rx⟩ := one_of r
      unfold listM at h
      dsimp only at h
      cases hs : seqOf x st with
      | none => rw [hs] at h; exact h.elim
      | some ys =>
        rw [hs] at h
        obtain ⟨a, vs, rfl, hq, rs⟩ := seqOf_at sr rx hs
        exact ⟨a, vs, rfl, hq, fun l hl => post_lst sr rs hl h⟩
theorem t_listN {K : KW} : TL K (rListM K) listN := by
  intro μ st H xs us E Q sr r h
  cases xs with
  | nil => exact h.elim
  | cons x t =>
    cases t with
    | cons y t => exact h.elim
    | nil =>
      obtain ⟨u, rfl, rx⟩ := one_of r
      unfold listN at h
      dsimp only at h
      cases hs : seqOf x st with
      | none => rw [hs] at h; exact h.elim
      | some ys =>
        rw [hs] at h
        obtain ⟨a, vs, rfl, hq, rs⟩ := seqOf_at sr rx hs
        exact ⟨a, vs, rfl, hq, fun l hl => post_cell h sr hl ⟨_, upd_same, VRs.mono (gr_alloc hl) _ _ rs⟩⟩
def tupleM (xs : List PV) : M PV := fun st => match xs with
  | [x] => match seqOf x st with
    | some ys => .ok (.tup ys) st
    | none => .bad
  | _ => .bad
abbrev rTupM (K : PySem.W.Frag) : List V → Hp → VK → Prop := fun xs H Q => ∃ p ys, xs = [.ref p] ∧ ((SqL K H p ys ∧ ∀ l, H l = none → Q (.ref l) (upd H l (.tup ys))) ∨ (SqT K H p ys ∧ Q (.ref p) H))
theorem t_tuple {K : KW} : TL K (rTupM K) tupleM := by
  intro μ st H xs us E Q sr r h
  cases xs with
  | nil => exact h.elim
  | cons x t =>
    cases t with
    | cons y t => exact h.elim
    | nil =>
      obtain ⟨u, rfl, rx⟩ := one_of r
      unfold tupleM at h
      dsimp only at h
      cases hs : seqOf x st with
      | none => rw [hs] at h; exact h.elim
      | some ys =>
        rw [hs] at h
        cases x with
        | tup zs =>
          cases hs
          obtain ⟨a, vs, rfl, t, rs⟩ := tup_at rx
          exact ⟨a, vs, rfl, .inr ⟨t.sq, post_same h sr rx⟩⟩
        | lst zs =>
          cases hs
          obtain ⟨a, vs, rfl, t, rs⟩ := lst_at rx
          exact ⟨a, vs, rfl, .inl ⟨t.sq, fun l hl => post_tup sr rs hl h⟩⟩
        | frz zs =>
          cases hs
          obtain ⟨a, vs, rfl, t, rs⟩ := frz_at rx
          exact ⟨a, vs, rfl, .inl ⟨t.sq, fun l hl => post_tup sr rs hl h⟩⟩
        | loc n =>
          obtain ⟨a, vs, rfl, t, rs⟩ := listOf_at sr rx (show listOf (.loc n) st = some ys from hs)
          exact ⟨a, vs, rfl, .inl ⟨SqL.of t, fun l hl => post_tup sr rs hl h⟩⟩
        | _ => cases hs
def tyP (x : PV) (st : Sto) : Option String := match x with
  | .non => some "NoneType"
  | .bl _ => some "bool"
  | .int _ => some "int"
  | .str _ => some "str"
  | .tup _ => some "tuple"
  | .lst _ => some "list"
  | .loc n => match st[n]? with
    | some (.lst _) => some "list"
    | some (.dct _) => some "dict"
    | _ => none
  | _ => none
def isiT (t T : String) : Bool := t == T || (t == "bool" && T == "int")
def isiOk (T : String) : Bool := T == "int" || T == "bool" || T == "str" || T == "tuple" || T == "list" || T == "dict"
def isiM (xs : List PV) : M PV := fun st => match xs with
  | [x, .ty T] => if isiOk T = true then (match tyP x st with
    | some t => .ok (.bl (isiT t T)) st
    | none => .bad) else .bad
  | _ => .bad
theorem kit_tab : ∀ t ∈ ["NoneType", "bool", "int", "str", "tuple", "list", "dict"], ∀ T ∈ ["int", "bool", "str", "tuple", "list", "dict"], kitB t T = some (isiT t T) := by decide +kernel
theorem tyP_at {K : KW} {H : Hp} {μ : Mu} {st : Sto} {x : PV} {v : V} {t : String} (sr : SR K μ st H) (r : VR K H μ x v) (h : tyP x st = some t) : t ∈ ["NoneType", "bool", "int", "str", "tuple", "list", "dict"] ∧ TyX K H v (.type t) := by
  cases x with
  | non => cases h; cases (show v = .non from r); exact ⟨by decide, .base .non⟩
  | bl b => cases h; cases (show v = .bl b from r); exact ⟨by decide, .base (.bl b)⟩
  | int b => cases h; cases (show v = .int b from r); exact ⟨by decide, .base (.int b)⟩
  | str b => cases h; cases (show v = .str ⟨b.toArray⟩ from r); exact ⟨by decide, .base (.str _)⟩
  | tup b =>
    cases h
    obtain ⟨a, vs, rfl, t, rs⟩ := tup_at r
    rcases t with ⟨t, _⟩ | ⟨o, its, n, hk, hc, _⟩
    · exact ⟨by decide, .base (.tup t)⟩
    · exact ⟨by decide, .kTuple hk hc⟩
  | lst b =>
    cases h
    obtain ⟨a, vs, rfl, t, rs⟩ := lst_at r
    exact ⟨by decide, .base (.lst t.1)⟩
  | loc n =>
    obtain ⟨a, rfl, ha⟩ := loc_at r
    unfold tyP at h
    dsimp only at h
    cases q : st[n]? with
    | none => rw [q] at h; cases h
    | some c =>
      rw [q] at h
      cases c with
      | lst xs =>
        cases h
        obtain ⟨vs, h1, _⟩ := sr.cell n _ a q ha
        exact ⟨by decide, .base (.lst h1)⟩
      | dct kvs =>
        cases h
        obtain ⟨vs, h1, _⟩ := sr.cell n _ a q ha
        exact ⟨by decide, .base (.dK h1)⟩
      | ins C fs => cases h
      | dcl kvs => cases h
      | dcn kvs => cases h
      | lck kvs => cases h
  | _ => cases h
theorem t_isi {K : KW} : TL K (rIsi K) isiM := by
  intro μ st H xs us E Q sr r h
  cases xs with
  | nil => exact h.elim
  | cons x t =>
    cases t with
    | nil => exact h.elim
    | cons y t =>
      cases t with
      | cons z t =>
        unfold isiM at h
        cases y <;> exact h.elim
      | nil =>
        obtain ⟨u, v, rfl, rx, ry⟩ := two_of r
        cases y with
        | ty T =>
          cases (show v = V.ty T from ry)
          unfold isiM at h
          dsimp only at h
          by_cases hT : isiOk T = true
          · rw [if_pos hT] at h
            have hT' : T ∈ ["int", "bool", "str", "tuple", "list", "dict"] := by
              unfold isiOk at hT
              simp only [Bool.or_eq_true, beq_iff_eq] at hT
              simp only [List.mem_cons]
              rcases hT with ((((e | e) | e) | e) | e) | e <;> simp [e]
            cases q : tyP x st with
            | none => rw [q] at h; exact h.elim
            | some t =>
              rw [q] at h
              obtain ⟨m, ty⟩ := tyP_at sr rx q
              exact ⟨u, .ty T, .type t, .type T, _, rfl, .ty T, ty, kit_ty (kit_tab t m T hT'), post_same h sr rfl⟩
          · rw [if_neg hT] at h
            exact h.elim
        | _ => exact h.elim
def intM (xs : List PV) : M PV := match xs with
  | [.int i] => M.ret (.int i)
  | [.bl b] => M.ret (.int (if b then 1 else 0))
  | [.str x] => if x.length ≤ 640 then (match PySem.intText? ⟨x.toArray⟩ with | some n => M.ret (.int n) | none => M.fail) else M.fail
  | _ => M.fail
def rIntM : List V → Hp → VK → Prop := fun xs H Q => ((∃ i, xs = [.int i] ∧ Q (.int i) H) ∨ ∃ k, xs = [.bl k] ∧ Q (.int (if k then 1 else 0)) H) ∨ ∃ a n, xs = [.str a] ∧ PySem.intText? a = some n ∧ a.length ≤ 640 ∧ Q (.int n) H
theorem t_int {K : KW} : TL K rIntM intM := by
  intro μ st H xs us E Q sr r h
  cases xs with
  | nil => exact h.elim
  | cons x t =>
    cases t with
    | cons y t => cases x <;> exact h.elim
    | nil =>
      obtain ⟨u, rfl, rx⟩ := one_of r
      cases x with
      | int i => cases (show u = V.int i from rx); exact .inl (.inl ⟨i, rfl, post_same h sr rfl⟩)
      | bl i => cases (show u = V.bl i from rx); exact .inl (.inr ⟨i, rfl, post_same h sr rfl⟩)
      | str x =>
        cases (show u = V.str ⟨x.toArray⟩ from rx)
        unfold intM at h
        dsimp only at h
        by_cases hz : x.length ≤ 640
        · rw [if_pos hz] at h
          cases q : PySem.intText? ⟨x.toArray⟩ with
          | none => rw [q] at h; exact h.elim
          | some n => rw [q] at h; exact .inr ⟨_, n, rfl, q, by rw [str_len]; exact hz, post_same h sr rfl⟩
        · rw [if_neg hz] at h
          exact h.elim
      | _ => exact h.elim
def maxM (xs : List PV) : M PV := match xs with
  | [.int i, .int j] => M.ret (.int (if j > i then j else i))
  | _ => M.fail
def minM (xs : List PV) : M PV := match xs with
  | [.int i, .int j] => M.ret (.int (if j < i then j else i))
  | _ => M.fail
theorem t_max {K : KW} : TL K (fun xs H Q => ∃ i j, xs = [.int i, .int j] ∧ Q (.int (if j > i then j else i)) H) maxM := by
  intro μ st H xs us E Q sr r h
  unfold maxM at h
  split at h
  · obtain ⟨u, v, rfl, rx, ry⟩ := two_of r
    cases (show u = V.int _ from rx); cases (show v = V.int _ from ry)
    exact ⟨_, _, rfl, post_same h sr rfl⟩
  · exact h.elim
theorem t_min {K : KW} : TL K (fun xs H Q => ∃ i j, xs = [.int i, .int j] ∧ Q (.int (if j < i then j else i)) H) minM := by
  intro μ st H xs us E Q sr r h
  unfold minM at h
  split at h
  · obtain ⟨u, v, rfl, rx, ry⟩ := two_of r
    cases (show u = V.int _ from rx); cases (show v = V.int _ from ry)
    exact ⟨_, _, rfl, post_same h sr rfl⟩
  · exact h.elim
def boolsOf : List PV → Option (List Bool)
  | [] => some []
  | .bl b :: r => (boolsOf r).map (b :: ·)
  | _ :: _ => none
theorem boolsOf_at {K : PySem.W.Frag} {H : Hp} {μ : Mu} : ∀ {ps : List PV} {vs : List V} {bs : List Bool}, VRs K H μ ps vs → boolsOf ps = some bs → vs = bs.map V.bl
  | [], vs, bs, r, h => by cases h; exact r
  | p :: ps, vs, bs, r, h => by
    obtain ⟨v, t, rfl, r1, r2⟩ := (show ∃ v t, vs = v :: t ∧ VR K H μ p v ∧ VRs K H μ ps t from r)
    cases p with
    | bl b =>
      unfold boolsOf at h
      cases q : boolsOf ps with
      | none => rw [q] at h; cases h
      | some cs =>
        rw [q] at h
        cases h
        cases (show v = V.bl b from r1)
        rw [boolsOf_at r2 q]
        rfl
    | _ => cases h
def allM (n : Bool) (xs : List PV) : M PV := fun st => match xs with
  | [x] => match listOf x st with
    | some ys => match boolsOf ys with
      | some bs => .ok (.bl (if n then bs.any id else bs.all id)) st
      | none => .bad
    | none => .bad
  | _ => .bad
abbrev rAllM (K : PySem.W.Frag) (n : Bool) : List V → Hp → VK → Prop := fun vs H Q => ∃ (a : Addr) (bs : List Bool), vs = [V.ref a] ∧ SqL K H a (bs.map V.bl) ∧ Q (.bl (if n then bs.any id else bs.all id)) H
theorem t_all {K : KW} {n : Bool} : TL K (rAllM K n) (allM n) := by
  intro μ st H xs us E Q sr r h
  cases xs with
  | nil => exact h.elim
  | cons x t =>
    cases t with
    | cons y t => exact h.elim
    | nil =>
      obtain ⟨u, rfl, rx⟩ := one_of r
      unfold allM at h
      dsimp only at h
      cases hs : listOf x st with
      | none => rw [hs] at h; exact h.elim
      | some ys =>
        rw [hs] at h
        dsimp only at h
        cases hb : boolsOf ys with
        | none => rw [hb] at h; exact h.elim
        | some bs =>
          rw [hb] at h
          obtain ⟨a, vs, rfl, hq, rs⟩ := listOf_at sr rx hs
          rw [boolsOf_at rs hb] at hq
          exact ⟨a, bs, rfl, SqL.of hq, post_same h sr rfl⟩
section
variable {X : Cx} {W : WX} {e : Expr} {es : List Expr} {p pos : Pos} {ma : Rho → M (List PV)}
theorem me_len (hg : Gl X "len") (hm : X.mg "len" = none) (ha : MA X W [e] ma) (he : starEach [e] X.env = (false, eval e X.env) :: starEach [] X.env := by kernel_rfl) : ME X W (.Call (.Name "len" p) [e] [] pos) (eCall lenM ma) :=
  me_callB cr_lenM t_len hg hm PySem.boot_len ha (by decide) (by decide) he rfl
theorem me_listOf (hg : Gl X "list") (hm : X.mg "list" = none) (ha : MA X W [e] ma) (he : starEach [e] X.env = (false, eval e X.env) :: starEach [] X.env := by kernel_rfl) : ME X W (.Call (.Name "list" p) [e] [] pos) (eCall listM ma) :=
  me_callTy call_list_of t_list hg hm (by decide +kernel) ha (by decide) (by decide) he rfl
theorem me_listNew (hg : Gl X "list") (hm : X.mg "list" = none) (ha : MA X W [e] ma) (he : starEach [e] X.env = (false, eval e X.env) :: starEach [] X.env := by kernel_rfl) : ME X W (.Call (.Name "list" p) [e] [] pos) (eCall listN ma) :=
  me_callTy call_list_of t_listN hg hm (by decide +kernel) ha (by decide) (by decide) he rfl
theorem me_tupleOf (hg : Gl X "tuple") (hm : X.mg "tuple" = none) (ha : MA X W [e] ma) (he : starEach [e] X.env = (false, eval e X.env) :: starEach [] X.env := by kernel_rfl) : ME X W (.Call (.Name "tuple" p) [e] [] pos) (eCall tupleM ma) :=
  me_callTy call_tuple_of t_tuple hg hm (by decide +kernel) ha (by decide) (by decide) he rfl
theorem me_isinst (hg : Gl X "isinstance") (hm : X.mg "isinstance" = none) (ha : MA X W (e :: es) ma) (he : starEach (e :: es) X.env = (false, eval e X.env) :: starEach es X.env := by kernel_rfl) (hpl : (backTo pos (starEach es X.env)).any (·.1) = false := by kernel_rfl) : ME X W (.Call (.Name "isinstance" p) (e :: es) [] pos) (eCall isiM ma) :=
  me_callB call_isi t_isi hg hm (by decide +kernel) ha (by decide) (by decide) he hpl
theorem me_intOf (hg : Gl X "int") (hm : X.mg "int" = none) (ha : MA X W [e] ma) (he : starEach [e] X.env = (false, eval e X.env) :: starEach [] X.env := by kernel_rfl) : ME X W (.Call (.Name "int" p) [e] [] pos) (eCall intM ma) :=
  me_callTy (call_int1.or call_int_str) t_int hg hm (by decide +kernel) ha (by decide) (by decide) he rfl
theorem me_max2 (hc : X.calm = true) (hg : Gl X "max") (hm : X.mg "max" = none) (ha : MA X W (e :: es) ma) (he : starEach (e :: es) X.env = (false, eval e X.env) :: starEach es X.env := by kernel_rfl) (hpl : (backTo pos (starEach es X.env)).any (·.1) = false := by kernel_rfl) : ME X W (.Call (.Name "max" p) (e :: es) [] pos) (eCall maxM ma) :=
  me_callB (call_max2 hc) t_max hg hm (by decide +kernel) ha (by decide) (by decide) he hpl
theorem me_min2 (hc : X.calm = true) (hg : Gl X "min") (hm : X.mg "min" = none) (ha : MA X W (e :: es) ma) (he : starEach (e :: es) X.env = (false, eval e X.env) :: starEach es X.env := by kernel_rfl) (hpl : (backTo pos (starEach es X.env)).any (·.1) = false := by kernel_rfl) : ME X W (.Call (.Name "min" p) (e :: es) [] pos) (eCall minM ma) :=
  me_callB (call_min2 hc) t_min hg hm (by decide +kernel) ha (by decide) (by decide) he hpl
theorem me_all (hc : X.calm = true) (hg : Gl X "all") (hm : X.mg "all" = none) (ha : MA X W [e] ma) (he : starEach [e] X.env = (false, eval e X.env) :: starEach [] X.env := by kernel_rfl) : ME X W (.Call (.Name "all" p) [e] [] pos) (eCall (allM false) ma) :=
  me_callB (cr_all hc) (t_all (n := false)) hg hm (by decide +kernel) ha (by decide) (by decide) he rfl
theorem me_any (hc : X.calm = true) (hg : Gl X "any") (hm : X.mg "any" = none) (ha : MA X W [e] ma) (he : starEach [e] X.env = (false, eval e X.env) :: starEach [] X.env := by kernel_rfl) : ME X W (.Call (.Name "any" p) [e] [] pos) (eCall (allM true) ma) :=
  me_callB (cr_any hc) (t_all (n := true)) hg hm (by decide +kernel) ha (by decide) (by decide) he rfl
end
end MP

set_option maxRecDepth 100000
set_option maxHeartbeats 1000000
namespace MP
open PySem L2
theorem TupAt.grow {K : PySem.W.Frag} {H H' : Hp} {μ μ' : Mu} {a : Addr} {vs : List V} (g : Gr μ H μ' H') (t : TupAt K H μ a vs) : TupAt K H' μ' a vs := by
  rcases t with ⟨t, n⟩ | t
  · exact .inl ⟨g.keep a _ t (fun z => n (.inl z)), g.out t n⟩
  · exact .inr t
theorem LstAt.grow {H H' : Hp} {μ μ' : Mu} {a : Addr} {vs : List V} (g : Gr μ H μ' H') (t : LstAt H μ a vs) : LstAt H' μ' a vs := ⟨g.keep a _ t.1 (fun z => t.2 (.inl z)), g.out t.1 t.2⟩
theorem FrzAt.grow {K : PySem.W.Frag} {H H' : Hp} {μ μ' : Mu} {a : Addr} {vs : List V} (g : Gr μ H μ' H') (t : FrzAt K H μ a vs) : FrzAt K H' μ' a vs := by
  rcases t with ⟨t | ⟨o, t⟩, n⟩ | t
  · exact .inl ⟨.inl (g.keep a _ t (fun z => n (.inl z))), g.out t n⟩
  · exact .inl ⟨.inr ⟨o, g.keep a _ t (fun z => n (.inl z))⟩, g.out t n⟩
  · exact .inr t
theorem sup_tup {K : KW} {H : Hp} {μ : Mu} {a : Addr} {ps : List PV} {vs : List V} (t : TupAt K H μ a vs) (r : VRs K H μ ps vs) : Sup K (Itt K a) ps μ H := fun μ' H' st g sr => by
  have q := (t.grow g).sq
  refine ⟨fun i p hp => ?_, ⟨vs, q, by rw [VRs.length r]; exact Nat.le_refl _⟩⟩
  obtain ⟨v, e1, e2⟩ := VRs.get (VRs.mono g ps vs r) hp
  refine ⟨⟨vs, v, q, e1⟩, fun x H2 ⟨eh, y⟩ => ?_⟩
  subst eh
  have ex : v = x := Option.some.inj (e1.symm.trans (y vs q))
  subst ex
  exact ⟨Gr.refl _ _, sr, e2⟩
theorem sup_lst {K : KW} {H : Hp} {μ : Mu} {a : Addr} {ps : List PV} {vs : List V} (t : ∀ μ' H', Gr μ H μ' H' → SqL K H' a vs) (r : VRs K H μ ps vs) : Sup K (Itl K a) ps μ H := fun μ' H' st g sr => by
  have q := t μ' H' g
  refine ⟨fun i p hp => ?_, ⟨vs, q, by rw [VRs.length r]; exact Nat.le_refl _⟩⟩
  obtain ⟨v, e1, e2⟩ := VRs.get (VRs.mono g ps vs r) hp
  refine ⟨⟨vs, v, q, e1⟩, fun x H2 ⟨eh, y⟩ => ?_⟩
  subst eh
  have ex : v = x := Option.some.inj (e1.symm.trans (y vs q))
  subst ex
  exact ⟨Gr.refl _ _, sr, e2⟩
theorem sup_str {K : KW} {H : Hp} {μ : Mu} {z : List Nat} : Sup K (Its ⟨z.toArray⟩) (z.map fun c => .str [c]) μ H := fun μ' H' st g sr => by
  refine ⟨fun i p hp => ?_, by show z.toArray.size ≤ _; simp⟩
  rw [List.getElem?_map] at hp
  cases q : z[i]? with
  | none => rw [q] at hp; cases hp
  | some c =>
    rw [q] at hp
    cases hp
    refine ⟨by show i < z.toArray.size; have := (List.getElem?_eq_some_iff.mp q).1; simpa using this, fun x H2 ⟨eh, c', ec, ex⟩ => ?_⟩
    subst eh ex
    have e : z.toArray[i]? = some c' := ec
    have e' : c' = c := by
      rw [List.getElem?_toArray, q] at e
      exact (Option.some.inj e).symm
    subst e'
    exact ⟨Gr.refl _ _, sr, rfl⟩
theorem sup_range {K : KW} {H : Hp} {μ : Mu} {lo : Int} {n : Nat} : Sup K (Itr lo n) ((List.range n).map fun (i : Nat) => .int (lo + (i : Int))) μ H := fun μ' H' st g sr => by
  refine ⟨fun i p hp => ?_, by show n ≤ _; simp⟩
  rw [List.getElem?_map] at hp
  cases q : (List.range n)[i]? with
  | none => rw [q] at hp; cases hp
  | some c =>
    rw [q] at hp
    cases hp
    obtain ⟨h1, h2⟩ := List.getElem?_eq_some_iff.mp q
    rw [List.getElem_range] at h2
    subst h2
    refine ⟨by show i < n; simpa using h1, fun x H2 ⟨eh, ex⟩ => ?_⟩
    subst eh ex
    exact ⟨Gr.refl _ _, sr, rfl⟩
def itemsM : PV → M (List PV)
  | .tup xs => M.ret xs
  | .lst xs => M.ret xs
  | .frz xs => M.ret xs
  | .str z => M.ret (z.map fun c => .str [c])
  | _ => M.fail
def iSeq (m : Rho → M PV) : Rho → M (List PV) := fun ρ => M.bind (m ρ) itemsM
section
variable {X : Cx} {W : WX} {tg e a b : Expr} {p pos : Pos} {me : Rho → M PV} {ma : Rho → M (List PV)}
theorem PI.or {iter : Expr} {t t' : TI} (h : PI X tg iter t) (h' : PI X tg iter t') : PI X tg iter (fun σ H R => t σ H R ∨ t' σ H R) := ⟨fun pins s σ H R I q => by
  rcases q with q | q
  · exact h.run pins s σ H R I q
  · exact h'.run pins s σ H R I q⟩
theorem mi_seq (he : ME X W e me) : MI X W tg e (iSeq me) :=
  PI.imp (PI.or (pi_tup he) (PI.or (pi_list he) (pi_str he))) fun σ H R ⟨μ, st, ρ, er, sr, h⟩ => by
    have h0 := h
    unfold iSeq M.bind at h
    cases q : me ρ st with
    | bad => rw [q] at h; exact h.elim
    | err x st' =>
      rw [q] at h
      refine .inl ⟨μ, st, ρ, er, sr, ?_⟩
      rw [q]
      exact h
    | ok v st' =>
      rw [q] at h
      dsimp only at h
      cases v with
      | tup xs =>
        refine .inl ⟨μ, st, ρ, er, sr, ?_⟩
        rw [q]
        intro μ1 H1 u g1 s1 ru
        obtain ⟨a, vs, rfl, t, rs⟩ := tup_at ru
        exact ⟨a, rfl, ⟨vs, t.sq⟩, h μ1 H1 _ g1 s1 (sup_tup t rs)⟩
      | lst xs =>
        refine .inr (.inl ⟨μ, st, ρ, er, sr, ?_⟩)
        rw [q]
        intro μ1 H1 u g1 s1 ru
        obtain ⟨a, vs, rfl, t, rs⟩ := lst_at ru
        exact ⟨a, rfl, ⟨vs, t.sq⟩, h μ1 H1 _ g1 s1 (sup_lst (fun _ _ g => (t.grow g).sq) rs)⟩
      | frz xs =>
        refine .inr (.inl ⟨μ, st, ρ, er, sr, ?_⟩)
        rw [q]
        intro μ1 H1 u g1 s1 ru
        obtain ⟨a, vs, rfl, t, rs⟩ := frz_at ru
        exact ⟨a, rfl, ⟨vs, t.sq⟩, h μ1 H1 _ g1 s1 (sup_lst (fun _ _ g => (t.grow g).sq) rs)⟩
      | str z =>
        refine .inr (.inr ⟨μ, st, ρ, er, sr, ?_⟩)
        rw [q]
        intro μ1 H1 u g1 s1 ru
        cases (show u = V.str ⟨z.toArray⟩ from ru)
        exact ⟨_, rfl, h μ1 H1 _ g1 s1 sup_str⟩
      | _ => exact h.elim
def rangeOk (i : Int) : Prop := -4611686018427387904 ≤ i ∧ i < 4611686018427387904
instance (i : Int) : Decidable (rangeOk i) := by unfold rangeOk; exact inferInstance
def range1 (xs : List PV) : M (List PV) := match xs with
  | [.int j] => if rangeOk j then M.ret ((List.range j.toNat).map fun (i : Nat) => .int ((0 : Int) + (i : Int))) else M.fail
  | _ => M.fail
def range2 (xs : List PV) : M (List PV) := match xs with
  | [.int i, .int j] => if rangeOk i ∧ rangeOk j then M.ret ((List.range (j - i).toNat).map fun (k : Nat) => .int (i + (k : Int))) else M.fail
  | _ => M.fail
def iCall (f : List PV → M (List PV)) (m : Rho → M (List PV)) : Rho → M (List PV) := fun ρ => M.bind (m ρ) f
theorem mi_range1 (hg : Gl X "range") (hm : X.mg "range" = none) (ha : MA X W [a] ma) (hs : starEach [a] X.env = [(false, eval a X.env)] := by kernel_rfl) : MI X W tg (.Call (.Name "range" p) [a] [] pos) (iCall range1 ma) :=
  PI.imp (pi_range1 hg hm ha hs) fun σ H R ⟨μ, st, ρ, er, sr, h⟩ => ⟨μ, st, ρ, er, sr, (PostG.bind h).mono fun us H1 ⟨μ1, st1, xs, g1, s1, rxs, h1⟩ => by
    unfold range1 at h1
    split at h1
    · rename_i j
      by_cases hj : rangeOk j
      · rw [if_pos hj] at h1
        obtain ⟨u, rfl, ru⟩ := one_of rxs
        cases (show u = V.int j from ru)
        exact ⟨j, rfl, hj.1, hj.2, h1 μ1 H1 _ (Gr.refl _ _) s1 sup_range⟩
      · rw [if_neg hj] at h1
        exact h1.elim
    · exact h1.elim⟩
theorem mi_range2 (hg : Gl X "range") (hm : X.mg "range" = none) (ha : MA X W [a, b] ma) (hs : starEach [a, b] X.env = [(false, eval a X.env), (false, eval b X.env)] := by kernel_rfl) (hs2 : starEach [b] X.env = [(false, eval b X.env)] := by kernel_rfl) : MI X W tg (.Call (.Name "range" p) [a, b] [] pos) (iCall range2 ma) :=
  PI.imp (pi_range2 hg hm ha hs hs2) fun σ H R ⟨μ, st, ρ, er, sr, h⟩ => ⟨μ, st, ρ, er, sr, (PostG.bind h).mono fun us H1 ⟨μ1, st1, xs, g1, s1, rxs, h1⟩ => by
    unfold range2 at h1
    split at h1
    · rename_i i j
      by_cases hj : rangeOk i ∧ rangeOk j
      · rw [if_pos hj] at h1
        obtain ⟨u, v, rfl, ru, rv⟩ := two_of rxs
        cases (show u = V.int i from ru)
        cases (show v = V.int j from rv)
        exact ⟨i, j, rfl, ⟨hj.1.1, hj.1.2, hj.2.1, hj.2.2⟩, h1 μ1 H1 _ (Gr.refl _ _) s1 sup_range⟩
      · rw [if_neg hj] at h1
        exact h1.elim
    · exact h1.elim⟩
theorem sup_enum {K : KW} {H : Hp} {μ : Mu} {a : Addr} {ps : List PV} {vs : List V} (t : ∀ μ' H', Gr μ H μ' H' → SqL K H' a vs) (r : VRs K H μ ps vs) : Sup K (Ite K a) (ps.mapIdx fun i p => .tup [.int (i : Nat), p]) μ H := fun μ' H' st g sr => by
  have q := t μ' H' g
  refine ⟨fun i p hp => ?_, ⟨vs, q, by rw [List.length_mapIdx, VRs.length r]; exact Nat.le_refl _⟩⟩
  rw [List.getElem?_mapIdx] at hp
  cases hq : ps[i]? with
  | none => rw [hq] at hp; cases hp
  | some p0 =>
    rw [hq] at hp
    cases hp
    obtain ⟨v, e1, e2⟩ := VRs.get (VRs.mono g ps vs r) hq
    refine ⟨⟨vs, v, q, e1⟩, fun x H2 ⟨T, y, ex, hT, eh, hy⟩ => ?_⟩
    subst ex eh
    have ev : v = y := Option.some.inj (e1.symm.trans (hy vs q))
    subst ev
    refine ⟨gr_new hT, sr.new hT, ?_⟩
    refine (show ∃ a ws, V.ref T = .ref a ∧ TupAt K (upd H' T (.tup [.int (i : Nat), v])) μ' a ws ∧ VRs K (upd H' T (.tup [.int (i : Nat), v])) μ' [.int (i : Nat), p0] ws from ⟨T, _, rfl, ?_, VRs.cons rfl (VRs.cons (VR.mono (gr_new hT) _ _ e2) VRs.nil)⟩)
    exact .inl ⟨upd_same, sr.free hT⟩
def enumM (xs : List PV) : M (List PV) := match xs with
  | [.lst ps] => M.ret (ps.mapIdx fun i p => .tup [.int (i : Nat), p])
  | [.frz ps] => M.ret (ps.mapIdx fun i p => .tup [.int (i : Nat), p])
  | _ => M.fail
theorem mi_enum {tpos : Pos} {elts : List Expr} {kk : Nat} (hg : Gl X "enumerate") (hm : X.mg "enumerate" = none) (ha : MA X W [e] ma) (hs : starEach [e] X.env = [(false, eval e X.env)] := by kernel_rfl) :
    MI X W (.Tuple elts kk tpos) (.Call (.Name "enumerate" p) [e] [] pos) (iCall enumM ma) :=
  PI.imp (pi_enum hg hm ha hs) fun σ H R ⟨μ, st, ρ, er, sr, h⟩ => ⟨μ, st, ρ, er, sr, (PostG.bind h).mono fun us H1 ⟨μ1, st1, xs, g1, s1, rxs, h1⟩ => by
    unfold enumM at h1
    split at h1
    · obtain ⟨u, rfl, ru⟩ := one_of rxs
      obtain ⟨a, vs, rfl, t, rs⟩ := lst_at ru
      exact ⟨a, vs, rfl, t.sq, h1 μ1 H1 _ (Gr.refl _ _) s1 (sup_enum (fun _ _ g => (t.grow g).sq) rs)⟩
    · obtain ⟨u, rfl, ru⟩ := one_of rxs
      obtain ⟨a, vs, rfl, t, rs⟩ := frz_at ru
      exact ⟨a, vs, rfl, t.sq, h1 μ1 H1 _ (Gr.refl _ _) s1 (sup_enum (fun _ _ g => (t.grow g).sq) rs)⟩
    · exact h1.elim⟩
end
def wipeP (ρ : Rho) : List Nat → Rho
  | [] => ρ
  | v :: vs => (wipeP ρ vs).set v none
theorem ER.wipe {K : PySem.W.Frag} {H : Hp} {μ : Mu} {ρ : Rho} {σ : St} (e : ER K H μ ρ σ) : ∀ vs : List Nat, ER K H μ (wipeP ρ vs) (L2.wipe σ vs)
  | [] => e
  | v :: vs => by
    unfold wipeP L2.wipe
    exact (ER.wipe e vs).unset v
theorem wipe_far {σ : St} {j : Nat} {o : Option V} : ∀ {vs : List Nat}, j ∉ vs → L2.wipe (σ.set j o) vs = (L2.wipe σ vs).set j o
  | [], _ => rfl
  | v :: vs, h => by
    have h1 : j ≠ v := fun z => h (by rw [z]; exact List.mem_cons_self)
    have h2 : j ∉ vs := fun z => h (List.mem_cons_of_mem _ z)
    unfold L2.wipe
    rw [wipe_far h2, List.set_comm _ _ h1]
theorem wipe_set {σ : St} {j : Nat} {o : Option V} : ∀ {vs : List Nat}, j ∈ vs → L2.wipe (σ.set j o) vs = L2.wipe σ vs
  | [], h => (nomatch h)
  | v :: vs, h => by
    unfold L2.wipe
    by_cases hj : j ∈ vs
    · rw [wipe_set hj]
    · have e : j = v := by
        rcases List.mem_cons.mp h with z | z
        · exact z
        · exact absurd z hj
      subst e
      rw [wipe_far hj, List.set_set]
theorem wipe_wipe {σ : St} {vs : List Nat} : ∀ {us : List Nat}, (∀ u ∈ us, u ∈ vs) → L2.wipe (L2.wipe σ us) vs = L2.wipe σ vs
  | [], _ => rfl
  | u :: us, h => by
    show L2.wipe ((L2.wipe σ us).set u none) vs = _
    rw [wipe_set (h u List.mem_cons_self), wipe_wipe fun w hw => h w (List.mem_cons_of_mem _ hw)]
def TGo (K : KW) (vs : List Nat) (g0 : TG) (g : GM) : Prop := ∀ (v : V) (σ : St) (H : Hp) (Q : St → Hp → Prop) (μ : Mu) (st : Sto) (ρ : Rho) (p : PV), ER K H μ ρ σ → SR K μ st H → VR K H μ p v →
  PostG K (fun _ _ _ => False) (fun H μ ρ' σ' => ER K H μ ρ' σ' ∧ L2.wipe σ' vs = L2.wipe σ vs) Q μ H (g p ρ st) → g0 v σ H Q
theorem tgo_name {K : KW} {vs : List Nat} {j : Nat} (h : j ∈ vs) : TGo K vs (gName j) (gN j) := fun v σ H Q μ st ρ p er sr rv q => q μ H _ (Gr.refl _ _) sr ⟨er.set rv j, wipe_set h⟩
def TGos (K : KW) (vs : List Nat) (g0 : TGs) (g : GsM) : Prop := ∀ (us : List V) (σ : St) (H : Hp) (Q : St → Hp → Prop) (μ : Mu) (st : Sto) (ρ : Rho) (ps : List PV), ER K H μ ρ σ → SR K μ st H → VRs K H μ ps us →
  PostG K (fun _ _ _ => False) (fun H μ ρ' σ' => ER K H μ ρ' σ' ∧ L2.wipe σ' vs = L2.wipe σ vs) Q μ H (g ps ρ st) → g0 us σ H Q
theorem tgos_nil {K : KW} {vs : List Nat} : TGos K vs gNil gsNil := fun us σ H Q μ st ρ ps er sr rv q => by
  cases ps with
  | nil => exact ⟨rv, q μ H σ (Gr.refl _ _) sr ⟨er, rfl⟩⟩
  | cons p ps => exact q.elim
theorem tgos_cons {K : KW} {vs : List Nat} {g0 : TG} {g : GM} {r0 : TGs} {r : GsM} (h1 : TGo K vs g0 g) (h2 : TGos K vs r0 r) : TGos K vs (gCons g0 r0) (gsCons g r) := fun us σ H Q μ st ρ ps er sr rv q => by
  cases ps with
  | nil => exact q.elim
  | cons p ps =>
    obtain ⟨v, t, ev, rp, rt⟩ := (show ∃ v r, us = v :: r ∧ VR K H μ p v ∧ VRs K H μ ps r from rv)
    refine ⟨v, t, ev, h1 v σ H _ μ st ρ p er sr rp ?_⟩
    have z := PostG.bind (R' := fun H μ ρ' σ' => ER K H μ ρ' σ' ∧ L2.wipe σ' vs = L2.wipe σ vs) q
    exact (PostG.calm z).mono fun σ1 H1 ⟨μ1, st1, ρ1, g1, s1, ⟨e1, w1⟩, h3⟩ => h2 t σ1 H1 Q μ1 st1 ρ1 ps e1 s1 (VRs.mono g1 ps t rt) (by
      cases hr : r ps ρ1 st1 with
      | ok a st' =>
        have h3' := h3
        rw [hr] at h3'
        exact fun μ2 H2 σ2 g2 s2 ⟨e2, w2⟩ => h3' μ2 H2 σ2 g2 s2 ⟨e2, w2.trans w1⟩
      | err x st' => have h3' := h3; rw [hr] at h3'; exact h3'
      | bad => have h3' := h3; rw [hr] at h3'; exact h3'.elim)
theorem tgo_tup {K : KW} {vs : List Nat} {n : Nat} {r0 : TGs} {r : GsM} (h : TGos K vs r0 r) : TGo K vs (gTup K n r0) (gT n r) := fun v σ H Q μ st ρ p er sr rv q => by
  cases p with
  | tup xs =>
    obtain ⟨a, ws, ev, ta, rs⟩ := tup_at rv
    have q' : PostG K (fun _ _ _ => False) (fun H μ ρ' σ' => ER K H μ ρ' σ' ∧ L2.wipe σ' vs = L2.wipe σ vs) Q μ H ((if xs.length = n then M.calm (r xs ρ) else M.fail) st) := q
    by_cases hx : xs.length = n
    · rw [if_pos hx] at q'
      exact ⟨a, ws, ev, ta.sq, by rw [← VRs.length rs]; exact hx, h ws σ H Q μ st ρ xs er sr rs (PostG.calm q')⟩
    · rw [if_neg hx] at q'
      exact q'.elim
  | _ => exact q.elim
def lcL (g : GM) (t : Rho → M Bool) (e : Rho → M PV) (ρ0 : Rho) : List PV → List PV → M (List PV)
  | [], acc => M.ret acc
  | p :: ps, acc => M.bind (M.calm (g p ρ0)) fun ρ1 => M.bind (M.calm (t ρ1)) fun c => if c = true then M.bind (M.calm (e ρ1)) fun y => if acc.length < SZ then lcL g t e ρ0 ps (acc ++ [y]) else M.fail else lcL g t e ρ0 ps acc
def Mu.bar (μ : Mu) (D : Addr) : Mu := ⟨μ.l, D :: μ.b⟩
theorem gv_bar {μ : Mu} {H : Hp} {D : Addr} {va : List V} (hb : D ∈ μ.b) : Gv μ H μ (upd H D (.lst va)) := ⟨⟨[], by simp⟩, fun a o e _ n => ⟨by rw [upd_ne (fun z => n (by rw [z]; exact .inr hb))]; exact e, n⟩⟩
theorem sr_bar {K : KW} {μ : Mu} {st : Sto} {H : Hp} {D : Addr} {va : List V} (hb : D ∈ μ.b) (s : SR K μ st H) : SR K μ st (upd H D (.lst va)) := by
  have nD := (s.ban D hb).1
  refine ⟨s.len, s.nd, fun a m => ⟨(s.ban a m).1, ?_⟩, fun n c a e1 e2 => (s.cell n c a e1 e2).monov (gv_bar hb) (upd_ne (fun z => nD (by rw [← z]; exact List.mem_of_getElem? e2)))⟩
  by_cases ha : a = D
  · rw [ha]; exact ⟨_, upd_same⟩
  · rw [upd_ne ha]; exact (s.ban a m).2
theorem M.bind_assoc {α β γ : Type} (m : M α) (f : α → M β) (k : β → M γ) : M.bind (M.bind m f) k = M.bind m fun a => M.bind (f a) k := by
  funext st
  unfold M.bind
  cases m st <;> rfl
def Mu.unbar (μ : Mu) (D : Addr) : Mu := ⟨μ.l, μ.b.filter fun a => decide (a ≠ D)⟩
theorem unbar_b {μ : Mu} {D a : Addr} : a ∈ (μ.unbar D).b ↔ a ∈ μ.b ∧ a ≠ D := by
  show a ∈ μ.b.filter _ ↔ _
  rw [List.mem_filter]
  simp
theorem not_unbar {μ : Mu} {D a : Addr} (h : a ∉ μ) : a ∉ μ.unbar D := fun m => by
  rcases m with m | m
  · exact h (.inl m)
  · exact h (.inr (unbar_b.mp m).1)
theorem gv_unbar {μ : Mu} {H : Hp} {D : Addr} : Gv μ H (μ.unbar D) H := ⟨⟨[], by simp [Mu.unbar]⟩, fun a o e _ n => ⟨e, not_unbar n⟩⟩
theorem sr_unbar {K : KW} {μ : Mu} {st : Sto} {H : Hp} {D : Addr} (s : SR K μ st H) : SR K (μ.unbar D) st H :=
  ⟨s.len, s.nd, fun a m => s.ban a (unbar_b.mp m).1, fun n c a e1 e2 => (s.cell n c a e1 e2).monov gv_unbar rfl⟩
theorem gr_unbar {K : KW} {μ0 μ : Mu} {st0 : Sto} {H0 H : Hp} {D : Addr} (s0 : SR K μ0 st0 H0) (hD : H0 D = none) (g : Gr μ0 H0 μ H) : Gr μ0 H0 (μ.unbar D) H := by
  refine ⟨g.pre, fun a m => unbar_b.mpr ⟨g.ban a m, fun z => ?_⟩, fun a m => g.bnew a (unbar_b.mp m).1, g.new, g.keep, g.fz⟩
  subst z
  obtain ⟨o, e⟩ := (s0.ban _ m).2
  rw [hD] at e; cases e
theorem gv_open {μ : Mu} {H : Hp} {D : Addr} (hb : D ∈ μ.b) : Gv μ H ((μ.unbar D).add D) H := ⟨⟨[D], rfl⟩, fun a o e _ n => ⟨e, fun m => by
  rcases m with m | m
  · rcases List.mem_append.mp m with m | m
    · exact n (.inl m)
    · rw [List.mem_singleton.mp m] at n; exact n (.inr hb)
  · exact n (.inr (unbar_b.mp m).1)⟩⟩
theorem sr_open {K : KW} {μ : Mu} {st : Sto} {H : Hp} {D : Addr} {acc : List PV} {va : List V} (s : SR K μ st H) (hb : D ∈ μ.b) (hd : H D = some (.lst va)) (r : VRs K H μ acc va) : SR K ((μ.unbar D).add D) (st ++ [.lst acc]) H := by
  have nD := (s.ban D hb).1
  refine ⟨by simp [Mu.add, Mu.unbar, s.len], ?_, fun a m => ?_, fun n d a e1 e2 => ?_⟩
  · refine List.nodup_append.mpr ⟨s.nd, by simp, fun a ha b hb => ?_⟩
    rw [List.mem_singleton.mp hb]
    rintro rfl
    exact nD ha
  · obtain ⟨m1, m2⟩ := unbar_b.mp m
    refine ⟨fun z => ?_, (s.ban a m1).2⟩
    rcases List.mem_append.mp z with z | z
    · exact (s.ban a m1).1 z
    · exact m2 (List.mem_singleton.mp z)
  · have e2 : (μ.l ++ [D])[n]? = some a := e2
    by_cases hn : n < st.length
    · rw [List.getElem?_append_left hn] at e1
      rw [List.getElem?_append_left (by rw [s.len]; exact hn)] at e2
      exact (s.cell n d a e1 e2).monov (gv_open hb) rfl
    · rw [List.getElem?_append_right (by omega)] at e1
      rw [List.getElem?_append_right (by rw [s.len]; omega), s.len] at e2
      have e0 : n - st.length = 0 := by
        have := (List.getElem?_eq_some_iff.mp e1).1
        simp at this
        omega
      rw [e0] at e1 e2
      simp at e1 e2
      subst e1 e2
      exact ⟨va, hd, VRs.monov (gv_open hb) _ _ r⟩
theorem gr_open {K : KW} {μ0 μ : Mu} {st0 : Sto} {H0 H : Hp} {D : Addr} (s0 : SR K μ0 st0 H0) (hD : H0 D = none) (g : Gr μ0 H0 μ H) : Gr μ0 H0 ((μ.unbar D).add D) H := by
  have u := gr_unbar s0 hD g
  obtain ⟨t, e⟩ := g.pre
  refine ⟨⟨t ++ [D], by show μ.l ++ [D] = _; rw [e, List.append_assoc]⟩, u.ban, u.bnew, fun a m => ?_, g.keep, g.fz⟩
  rcases List.mem_append.mp m with m | m
  · exact g.new a m
  · rw [List.mem_singleton.mp m]; exact .inr hD
def lcV (acc : List PV) : M PV := M.ret (.lst acc)
def lcN (acc : List PV) : M PV := fun st => .ok (.loc st.length) (st ++ [.lst acc])
def LcEnd (K : KW) (k : List PV → M PV) : Prop := ∀ (μ0 μ : Mu) (st0 st : Sto) (H0 H : Hp) (D : Addr) (acc : List PV) (va : List V) (E : XK) (Q : VK), SR K μ0 st0 H0 → H0 D = none → Gr μ0 H0 μ H → SR K μ st H → D ∈ μ.b → H D = some (.lst va) → VRs K H μ acc va →
  PostG K E (VR K) Q μ0 H0 (k acc st) → Q (.ref D) H
theorem lcV_end {K : KW} : LcEnd K lcV := fun μ0 μ st0 st H0 H D acc va E Q s0 hD g s hb hd r h =>
  h _ H _ (gr_unbar s0 hD g) (sr_unbar s) (show ∃ a vs, V.ref D = .ref a ∧ LstAt H (μ.unbar D) a vs ∧ VRs K H (μ.unbar D) acc vs from ⟨D, va, rfl, ⟨hd, fun m => by
    rcases m with m | m
    · exact (s.ban D hb).1 m
    · exact (unbar_b.mp m).2 rfl⟩, VRs.monov gv_unbar _ _ r⟩)
theorem lcN_end {K : KW} : LcEnd K lcN := fun μ0 μ st0 st H0 H D acc va E Q s0 hD g s hb hd r h =>
  h _ H _ (gr_open s0 hD g) (sr_open s hb hd r) (show ∃ a, V.ref D = .ref a ∧ ((μ.unbar D).add D).l[st.length]? = some a from ⟨D, rfl, by
    show (μ.l ++ [D])[st.length]? = some D
    rw [← s.len]; simp⟩)
abbrev W0 : WX := fun _ _ _ _ => False
theorem lc_imp {K : KW} {E : XK} {Q : VK} {J : It} {ps : List PV} {g0 : TG} {g : GM} {t : Rho → M Bool} {e : Rho → M PV} {k : List PV → M PV} {vs : List Nat} {μ : Mu} {H : Hp} {σ : St} {ρ : Rho} {st : Sto} {D : Addr} (su : Sup K J ps μ H) (er : ER K H μ ρ σ) (sr : SR K μ st H) (tg : TGo K vs g0 g) (le : LcEnd K k)
    (hD : H D = none) (h : PostG K E (VR K) Q μ H (M.bind (lcL g t e (wipeP ρ vs) ps []) k st)) :
    ∃ V : Nat → Nat → Hp → Prop, (∃ m, V 0 m (upd H D (.lst []))) ∧ ∀ i m H, V i m H →
      (J.stop i H ∧ Q (.ref D) H) ∨ (J.go i H ∧ ∃ Nx : Hp → Prop, (∀ H', Nx H' → ∃ m', m' < m ∧ V (i + 1) m' H') ∧ ∀ x H', J.yld i H x H' → g0 x (L2.wipe σ vs) H' fun σ2 H2 => L2.wipe σ2 vs = L2.wipe σ vs ∧ tMT K W0 t σ2 H2 fun b H3 =>
        if b = true then tM K W0 e σ2 H3 fun y H4 => ∃ acc, H4 D = some (.lst acc) ∧ acc.length < sizeLine ∧ Nx (upd H4 D (.lst (acc ++ [y]))) else Nx H3) := by
  let P : Nat → Hp → Prop := fun i H' => ∃ μ' st' acc va, Gr μ H μ' H' ∧ SR K μ' st' H' ∧ D ∈ μ'.b ∧ H' D = some (.lst va) ∧ VRs K H' μ' acc va ∧ PostG K E (VR K) Q μ H (M.bind (lcL g t e (wipeP ρ vs) (ps.drop i) acc) k st')
  refine ⟨fun i m H' => m = ps.length - i ∧ i ≤ ps.length ∧ P i H', ⟨ps.length, by simp, Nat.zero_le _, ?_⟩, ?_⟩
  · have gb : Gr μ H (μ.bar D) (upd H D (.lst [])) := ⟨⟨[], by simp [Mu.bar]⟩, fun a m => List.mem_cons_of_mem _ m, fun a m => by
      rcases List.mem_cons.mp m with z | z
      · rw [z]; exact .inr hD
      · exact .inl z, fun a m => .inl m, fun a o q _ => by rw [upd_ne (ne_of_none q hD)]; exact q, fun a o u q => by rw [upd_ne (ne_of_none q hD)]; exact q⟩
    refine ⟨μ.bar D, st, [], [], gb, ?_, List.mem_cons_self, upd_same, rfl, by rw [List.drop_zero]; exact h⟩
    refine ⟨sr.len, sr.nd, fun a m => ?_, fun n c a e1 e2 => (sr.cell n c a e1 e2).mono gb (upd_ne fun z => ?_)⟩
    · rcases List.mem_cons.mp m with z | z
      · subst z
        exact ⟨fun q => sr.free hD (.inl q), _, upd_same⟩
      · obtain ⟨n1, o, q⟩ := sr.ban a z
        exact ⟨n1, o, by rw [upd_ne (ne_of_none q hD)]; exact q⟩
    · obtain ⟨u, q⟩ := (sr.cell n c a e1 e2).has
      rw [z, hD] at q; cases q
  · rintro i m H1 ⟨rfl, hi, μ1, st1, acc, va, g1, s1, b1, d1, r1, h1⟩
    by_cases hlt : i < ps.length
    · have hp : ps[i]? = some ps[i] := by simp [hlt]
      obtain ⟨go, yl⟩ := (su μ1 H1 st1 g1 s1).1 i ps[i] hp
      refine .inr ⟨go, P (i + 1), fun H' q => ⟨ps.length - (i + 1), by omega, rfl, hlt, q⟩, fun x H2 y => ?_⟩
      obtain ⟨g2, s2, rx⟩ := yl x H2 y
      have gg2 := g1.trans g2 fun a m => (s2.ban a m).1
      rw [List.drop_eq_getElem_cons hlt] at h1
      unfold lcL at h1
      rw [M.bind_assoc] at h1
      refine tg x _ H2 _ μ1 st1 _ ps[i] ((er.mono gg2).wipe vs) s2 rx ((PostG.calm (PostG.bindAt h1 gg2)).mono fun σ3 H3 ⟨μ3, st3, ρ3, g3, s3, ⟨e3, w3⟩, h3⟩ => ⟨w3.trans (wipe_wipe fun _ z => z), ?_⟩)
      have gg3 := gg2.trans g3 fun a m => (s3.ban a m).1
      rw [M.bind_assoc] at h3
      refine ⟨μ3, st3, ρ3, e3, s3, (PostG.calm (PostG.bindAt h3 gg3)).mono fun c H4 ⟨μ4, st4, c', g4, s4, ec, h4⟩ => ?_⟩
      subst ec
      have gg4 := gg3.trans g4 fun a m => (s4.ban a m).1
      have keepD : ∀ {μa μb : Mu} {Ha Hb : Hp} {sa : Sto} {w : List V}, Gr μa Ha μb Hb → SR K μa sa Ha → D ∈ μa.b → Ha D = some (.lst w) → Hb D = some (.lst w) := fun g s m q => g.keep D _ q (s.ban D m).1
      have d2 := keepD g2 s1 b1 d1
      have b2 := g2.ban D b1
      have d3 := keepD g3 s2 b2 d2
      have b3 := g3.ban D b2
      have d4 := keepD g4 s3 b3 d3
      have b4 := g4.ban D b3
      have r4 : VRs K H4 μ4 acc va := VRs.mono g4 _ _ (VRs.mono g3 _ _ (VRs.mono g2 _ _ r1))
      cases c' with
      | false =>
        rw [if_neg Bool.false_ne_true] at h4 ⊢
        exact ⟨μ4, st4, acc, va, gg4, s4, b4, d4, r4, h4⟩
      | true =>
        rw [if_pos rfl] at h4 ⊢
        rw [M.bind_assoc] at h4
        refine ⟨μ4, st4, ρ3, e3.mono g4, s4, (PostG.calm (PostG.bindAt h4 gg4)).mono fun w H5 ⟨μ5, st5, py, g5, s5, rw5, h5⟩ => ?_⟩
        have gg5 := gg4.trans g5 fun a m => (s5.ban a m).1
        have d5 := keepD g5 s4 b4 d4
        have b5 := g5.ban D b4
        have r5 : VRs K H5 μ5 acc va := VRs.mono g5 _ _ r4
        by_cases hz : acc.length < SZ
        · rw [if_pos hz] at h5
          refine ⟨va, d5, by rw [← VRs.length r5, sz_eq]; exact hz, μ5, st5, acc ++ [py], va ++ [w], ?_, sr_bar b5 s5, b5, upd_same, VRs.monov (gv_bar b5) _ _ (VRs.append r5 (VRs.cons rw5 VRs.nil)), h5⟩
          exact ⟨gg5.pre, gg5.ban, gg5.bnew, gg5.new, fun a o q n => by rw [upd_ne (ne_of_none q hD)]; exact gg5.keep a o q n, fun a o u q => by rw [upd_ne (ne_of_none q hD)]; exact gg5.fz a o u q⟩
        · rw [if_neg hz] at h5
          exact h5.elim
    · have ei : i = ps.length := by omega
      subst ei
      rw [List.drop_length] at h1
      exact .inl ⟨(su μ1 H1 st1 g1 s1).2, le μ μ1 st st1 H H1 D acc va E Q sr hD g1 s1 b1 d1 r1 h1⟩
def eLc (k : List PV → M PV) (mi : Rho → M (List PV)) (g : GM) (t : Rho → M Bool) (e : Rho → M PV) (vs : List Nat) : Rho → M PV := fun ρ => M.bind (mi ρ) fun ps => M.bind (lcL g t e (wipeP ρ vs) ps []) k
def tYesM : Rho → M Bool := fun _ => M.ret true
def MTs (X : Cx) (W : WX) (ifs : List Expr) (m : Rho → M Bool) : Prop := PTs X ifs (tMT (kw X) W m)
section
variable {X : Cx} {W : WX}
theorem PTs.imp {ifs : List Expr} {t t' : TT} (h : PTs X ifs t) (i : ∀ σ H Q, t' σ H Q → t σ H Q) : PTs X ifs t' := ⟨fun pins s σ H Q I q => h.run pins s σ H Q I (i σ H Q q)⟩
theorem mts_nil : MTs X W [] tYesM := PTs.imp pts_nil fun σ H Q ⟨μ, st, ρ, er, sr, h⟩ => h μ H true (Gr.refl _ _) sr rfl
theorem mts_one {c : Expr} {m : Rho → M Bool} (h : MT X W c m) : MTs X W [c] m := pts_one h
theorem lc_tie {mi : Rho → M (List PV)} {g0 : TG} {g : GM} {t : Rho → M Bool} {e : Rho → M PV} {k : List PV → M PV} {vs : List Nat} (tg : TGo (kw X) vs g0 g) (le : LcEnd (kw X) k) : ∀ σ H Q, tM (kw X) W (eLc k mi g t e vs) σ H Q → tLc (tMI (kw X) W mi) g0 (tMT (kw X) W0 t) (tM (kw X) W0 e) vs σ H Q :=
  fun σ H Q ⟨μ, st, ρ, er, sr, h⟩ => ⟨μ, st, ρ, er, sr, (PostG.bind h).mono fun J H1 ⟨μ1, st1, ps, g1, s1, su, h1⟩ D hD => lc_imp su (er.mono g1) s1 tg le hD h1⟩
theorem me_lc {elt tgt iter : Expr} {ifs : List Expr} {scope : Scope} {own : List (Str × Nat)} {pos : Pos} {mi : Rho → M (List PV)} {g0 : TG} {g : GM} {t : Rho → M Bool} {e : Rho → M PV} {k : List PV → M PV} (hc : X.calm = true) (hN : X.N.Nodup) (hi : MI X W tgt iter mi) (ok : BlkOk X.N X.env.scope scope own) (tg : TGo (kw X) (own.map (·.2)) g0 g) (le : LcEnd (kw X) k)
    (hg : ∀ (s : Shared) (H : Hp) (C : Addr) (cl : List (Str × Addr)) (fp : List Addr), PG (X.blk s H scope (compEnvC scope cl C X.env) fp) tgt g0)
    (ht : ∀ (s : Shared) (H : Hp) (C : Addr) (cl : List (Str × Addr)) (fp : List Addr), MTs (X.blk s H scope (compEnvC scope cl C X.env) fp) W0 ifs t)
    (he : ∀ (s : Shared) (H : Hp) (C : Addr) (cl : List (Str × Addr)) (fp : List Addr), ME (X.blk s H scope (compEnvC scope cl C X.env) fp) W0 elt e) (hs : ∀ x, foldedSetIterable iter X.env x = pure x := by intro _; kernel_rfl) :
    ME X W (.ListComp elt [⟨tgt, iter, ifs, 0⟩] scope pos) (eLc k mi g t e (own.map (·.2))) := PE.imp (pe_lc (tt := tMT (kw X) W0 t) (te := tM (kw X) W0 e) hc hN hi ok hg ht he hs) (lc_tie tg le)
theorem ms_setLc {i : Nat} {y : Str} {py spos : Pos} {elt tgt iter : Expr} {ifs : List Expr} {scope : Scope} {own : List (Str × Nat)} {pos : Pos} {mi : Rho → M (List PV)} {g0 : TG} {g : GM} {t : Rho → M Bool} {e : Rho → M PV} {k : List PV → M PV} (hc : X.calm = true) (hN : X.N.Nodup) (hy : X.N[i]? = some y) (hyl : X.env.scope.names.lookup y = some .local)
    (hsw : swapsWith (.ListComp elt [⟨tgt, iter, ifs, 0⟩] scope pos) (some (.Name y py)) spos.line X.env = pure true) (hi : MI X W tgt iter mi) (ok : BlkOk X.N X.env.scope scope own) (tg : TGo (kw X) (own.map (·.2)) g0 g) (le : LcEnd (kw X) k)
    (hg : ∀ (s : Shared) (H : Hp) (C : Addr) (cl : List (Str × Addr)) (fp : List Addr), PG (X.blk s H scope (compEnvC scope cl C X.env) fp) tgt g0)
    (ht : ∀ (s : Shared) (H : Hp) (C : Addr) (cl : List (Str × Addr)) (fp : List Addr), MTs (X.blk s H scope (compEnvC scope cl C X.env) fp) W0 ifs t)
    (he : ∀ (s : Shared) (H : Hp) (C : Addr) (cl : List (Str × Addr)) (fp : List Addr), ME (X.blk s H scope (compEnvC scope cl C X.env) fp) W0 elt e) (hs : ∀ x, foldedSetIterable iter X.env x = pure x := by intro _; kernel_rfl) :
    MS X W (.Assign [.Name y py] (.ListComp elt [⟨tgt, iter, ifs, 0⟩] scope pos) spos) (sSet i (eLc k mi g t e (own.map (·.2)))) := PS.imp (ps_setLc (tt := tMT (kw X) W0 t) (te := tM (kw X) W0 e) hc hN hy hyl hsw hi ok hg ht he hs) fun D σ H ⟨μ, st, ρ, er, sr, h⟩ =>
      lc_tie tg le σ H _ ⟨μ, st, ρ, er, sr, (PostS.onErr h er).mono fun u H1 ⟨μ1, st1, x, g1, s1, rx, h1⟩ => h1 μ1 H1 _ (Gr.refl _ _) s1 ((er.mono g1).set rx i)⟩
end
end MP

set_option maxRecDepth 100000
set_option maxHeartbeats 1000000
namespace MP
open PySem L2
section
variable {X : Cx} {W : WX} {e : Expr} {pos : Pos} {me : Rho → M PV}
theorem ms_s {i : Nat} {x : Str} {pos' : Pos} (hN : X.N.Nodup) (he : ME X W e me) (hi : X.N[i]? = some x := by kernel_rfl) (hx : Loc X.env.scope x := by first | exact Or.inl rfl | exact Or.inr rfl) (hs : swapsWith e (some (.Name x pos')) pos.line X.env = pure false := by kernel_rfl)
    (hf : X.fn x = true ∨ X.env.scope.names.lookup x = some .local := by first | exact .inl rfl | exact .inr rfl) : MS X W (.Assign [.Name x pos'] e pos) (sSet i me) := ms_set hN hi hx he hs hf
theorem mg_n {i : Nat} {x : Str} (hN : X.N.Nodup) (hi : X.N[i]? = some x := by kernel_rfl) (hx : Loc X.env.scope x := by first | exact Or.inl rfl | exact Or.inr rfl) (hf : X.fn x = true ∨ X.env.scope.names.lookup x = some .local := by first | exact .inl rfl | exact .inr rfl) : MG X W (.Name x pos) (gN i) := mg_name hN hi hx hf
theorem pg_n {i : Nat} {x : Str} (hN : X.N.Nodup) (hi : X.N[i]? = some x := by kernel_rfl) (hx : Loc X.env.scope x := by first | exact Or.inl rfl | exact Or.inr rfl) (hf : X.fn x = true ∨ X.env.scope.names.lookup x = some .local := by first | exact .inl rfl | exact .inr rfl) : PG X (.Name x pos) (gName i) := pg_name hN hi hx hf
def truM (x : PV) : M Bool := fun st => match x with
  | .non => .ok false st
  | .bl b => .ok b st
  | .int i => .ok (i != 0) st
  | .str z => if z.length ≤ SZ then .ok (!z.isEmpty) st else .bad
  | x => match seqOf x st with
    | some xs => .ok (!xs.isEmpty) st
    | none => match dctOf x st with
      | some kvs => .ok (!kvs.isEmpty) st
      | none => .bad
end
def tyC (T : String) (x : PV) : M Unit := fun st => match x with
  | .str _ => if T = "str" then .ok () st else .bad
  | x => match listOf x st with
    | some _ => if T = "list" then .ok () st else .bad
    | none => match dctOf x st with
      | some _ => if T = "dict" then .ok () st else .bad
      | none => .bad
theorem tyC_at {K : KW} {H : Hp} {μ : Mu} {st st' : Sto} {T : String} {x : PV} {v : V} (sr : SR K μ st H) (r : VR K H μ x v) (h : tyC T x st = .ok () st') : tyV K T v H ∧ st' = st := by
  have l : ∀ xs, listOf x st = some xs → (if T = "list" then (Res.ok () st) else Res.bad) = .ok () st' → tyV K T v H ∧ st' = st := by
    intro xs hl h
    obtain ⟨a, vs, rfl, h1, _⟩ := listOf_at sr r hl
    by_cases hT : T = "list"
    · rw [if_pos hT] at h
      cases h
      exact ⟨.inl ⟨hT, vs, SqL.of h1⟩, rfl⟩
    · rw [if_neg hT] at h
      cases h
  have d : ∀ kvs, dctOf x st = some kvs → (if T = "dict" then (Res.ok () st) else Res.bad) = .ok () st' → tyV K T v H ∧ st' = st := by
    intro kvs hl h
    obtain ⟨n, a, kv, _, rfl, _, _, h1, _⟩ := dctOf_at sr r hl
    by_cases hT : T = "dict"
    · rw [if_pos hT] at h
      cases h
      exact ⟨.inr (.inr (.inl ⟨hT, .inl ⟨kv, h1⟩⟩)), rfl⟩
    · rw [if_neg hT] at h
      cases h
  have dflt : (match listOf x st with
    | some _ => if T = "list" then Res.ok () st else Res.bad
    | none => match dctOf x st with
      | some _ => if T = "dict" then Res.ok () st else Res.bad
      | none => Res.bad) = .ok () st' → tyV K T v H ∧ st' = st := by
    intro h
    cases q : listOf x st with
    | some xs => rw [q] at h; exact l xs q h
    | none =>
      rw [q] at h
      dsimp only at h
      cases q2 : dctOf x st with
      | some kvs => rw [q2] at h; exact d kvs q2 h
      | none => rw [q2] at h; cases h
  cases x with
  | str z =>
    cases (show v = V.str ⟨z.toArray⟩ from r)
    unfold tyC at h
    dsimp only at h
    by_cases hT : T = "str"
    · rw [if_pos hT] at h
      cases h
      exact ⟨hT, rfl⟩
    · rw [if_neg hT] at h
      cases h
  | _ => exact dflt h
def eMeth (T : String) (f : PV → List PV → M PV) (mo : Rho → M PV) (ma : Rho → M (List PV)) : Rho → M PV := fun ρ => M.bind (mo ρ) fun o => M.bind (tyC T o) fun _ => M.bind (ma ρ) fun xs => f o xs
def TMe (K : KW) (r : V → List V → Hp → VK → Prop) (f : PV → List PV → M PV) : Prop := ∀ (μ : Mu) (st : Sto) (H : Hp) (o : PV) (xs : List PV) (u : V) (us : List V) (E : XK) (Q : VK), SR K μ st H → VR K H μ o u → VRs K H μ xs us → PostG K E (VR K) Q μ H (f o xs st) → r u us H Q
section
variable {X : Cx} {W : WX} {o e : Expr} {es : List Expr} {name : Str} {apos cpos : Pos} {T id : String} {r : V → List V → Hp → VK → Prop} {f : PV → List PV → M PV} {mo : Rho → M PV} {ma : Rho → M (List PV)}
theorem meth_ty {μ : Mu} {st : Sto} {H : Hp} {x : PV} {v : V} {α β : Type} {E : XK} {R : Hp → Mu → α → β → Prop} {Q : β → Hp → Prop} {k : Unit → M α} (sr : SR (kw X) μ st H) (rx : VR X.K H μ x v) (h : PostG (kw X) E R Q μ H (M.bind (tyC T x) k st)) : tyV X.K T v H ∧ PostG (kw X) E R Q μ H (k () st) := by
  unfold M.bind at h
  cases q : tyC T x st with
  | ok a st' =>
    rw [q] at h
    obtain ⟨h1, rfl⟩ := tyC_at sr rx q
    exact ⟨h1, h⟩
  | err y st' =>
    exfalso
    unfold tyC at q
    repeat (first | split at q | cases q)
  | bad => rw [q] at h; exact h.elim
theorem me_meth (pa : PySem.PlainAttrs T) (slot : PySem.Slot T name id) (hty : typeOf (.builtin id) = pure (.type "method_descriptor")) (hm : MtR X id r) (t : TMe (kw X) r f) (ho : ME X W o mo) (ha : MA X W (e :: es) ma)
    (hbase : attributeBase o name X.env (eval o X.env) = eval o X.env := by kernel_rfl)
    (hfew : ((backTo cpos (starEach (e :: es) X.env)).all (fun x => !x.1) && (backToKw cpos (keywordEach [] X.env)).all (fun x => x.1.isSome)
      && decide ((e :: es).length + ([] : List Keyword).length + (if ([] : List Keyword).isEmpty then 0 else 1) < 30)) = true := by kernel_rfl)
    (hline : (apos.endLine == cpos.line) = true := by kernel_rfl) (hs : starEach (e :: es) X.env = (false, eval e X.env) :: starEach es X.env := by kernel_rfl) (hplain : (backTo cpos (starEach es X.env)).any (·.1) = false := by kernel_rfl) :
    ME X W (.Call (.Attribute o name apos) (e :: es) [] cpos) (eMeth T f mo ma) :=
  PE.imp (pe_bm pa slot hty hm ho ha hbase hfew hline hs hplain) fun σ H Q ⟨μ, st, ρ, er, sr, h⟩ => ⟨μ, st, ρ, er, sr, (PostG.bind h).mono fun u H1 ⟨μ1, st1, x, g1, s1, rx, h1⟩ => by
    obtain ⟨h2, h3⟩ := meth_ty s1 rx h1
    exact ⟨h2, μ1, st1, ρ, er.mono g1, s1, (PostG.bind h3).mono fun us H2 ⟨μ2, st2, xs, g2, s2, rxs, h4⟩ => t μ2 st2 H2 x xs u us _ Q s2 (VR.mono g2 x u rx) rxs h4⟩⟩
theorem me_meth0 (pa : PySem.PlainAttrs T) (slot : PySem.Slot T name id) (hty : typeOf (.builtin id) = pure (.type "method_descriptor")) (hm : MtR X id r) (t : TMe (kw X) r f) (ho : ME X W o mo)
    (hbase : attributeBase o name X.env (eval o X.env) = eval o X.env := by kernel_rfl) (hline : (apos.endLine == cpos.line) = true := by kernel_rfl) : ME X W (.Call (.Attribute o name apos) [] [] cpos) (eMeth T f mo aNil) :=
  PE.imp (pe_bm0 pa slot hty hm ho hbase hline) fun σ H Q ⟨μ, st, ρ, er, sr, h⟩ => ⟨μ, st, ρ, er, sr, (PostG.bind h).mono fun u H1 ⟨μ1, st1, x, g1, s1, rx, h1⟩ => by
    obtain ⟨h2, h3⟩ := meth_ty s1 rx h1
    exact ⟨h2, t μ1 st1 H1 x [] u [] _ Q s1 rx rfl h3⟩⟩
end
def lstCell (o : PV) (st : Sto) : Option (Nat × List PV) := match o with
  | .loc n => match st[n]? with
    | some (.lst xs) => some (n, xs)
    | _ => none
  | _ => none
theorem lstCell_at {K : KW} {H : Hp} {μ : Mu} {st : Sto} {x : PV} {v : V} {n : Nat} {xs : List PV} (sr : SR K μ st H) (r : VR K H μ x v) (h : lstCell x st = some (n, xs)) : ∃ a vs, v = .ref a ∧ μ.l[n]? = some a ∧ H a = some (.lst vs) ∧ VRs K H μ xs vs := by
  cases x with
  | loc m =>
    obtain ⟨a, rfl, ha⟩ := loc_at r
    unfold lstCell at h
    dsimp only at h
    cases q : st[m]? with
    | none => rw [q] at h; cases h
    | some c =>
      rw [q] at h
      cases c with
      | lst ys =>
        cases h
        obtain ⟨vs, h1, h2⟩ := sr.cell n _ a q ha
        exact ⟨a, vs, rfl, ha, h1, h2⟩
      | dct kvs => cases h
      | ins C fs => cases h
      | dcl kvs => cases h
      | dcn kvs => cases h
      | lck kvs => cases h
  | _ => cases h
def appendM (o : PV) (xs : List PV) : M PV := fun st => match lstCell o st with
  | some (n, ys) => match xs with
    | [x] => if ys.length < SZ then .ok .non (st.set n (.lst (ys ++ [x]))) else .bad
    | _ => .bad
  | none => .bad
theorem t_append {K : KW} : TMe K rAppend appendM := by
  intro μ st H o xs u us E Q sr ro rs h
  unfold appendM at h
  cases q : lstCell o st with
  | none => rw [q] at h; exact h.elim
  | some p =>
    obtain ⟨n, ys⟩ := p
    rw [q] at h
    dsimp only at h
    cases xs with
    | nil => exact h.elim
    | cons x t =>
      cases t with
      | cons y t => exact h.elim
      | nil =>
        dsimp only at h
        by_cases hz : ys.length < SZ
        · rw [if_pos hz] at h
          obtain ⟨a, vs, rfl, ha, h1, h2⟩ := lstCell_at sr ro q
          obtain ⟨w, rfl, rw'⟩ := one_of rs
          refine ⟨a, vs, w, rfl, rfl, h1, by rw [← VRs.length h2, sz_eq]; exact hz, ?_⟩
          exact h μ _ .non (gr_put ha h1 rfl) (sr.put ha ⟨_, upd_same, VRs.monov (gv_put ha) _ _ (VRs.append h2 (VRs.cons rw' VRs.nil))⟩) rfl
        · rw [if_neg hz] at h
          exact h.elim
def popM (o : PV) (xs : List PV) : M PV := fun st => match lstCell o st with
  | some (n, ys) => match xs with
    | [] => match ys[ys.length - 1]? with
      | some y => .ok y (st.set n (.lst ys.dropLast))
      | none => .bad
    | _ => .bad
  | none => .bad
theorem VRs.dropLast {K : PySem.W.Frag} {H : Hp} {μ : Mu} {ps : List PV} {vs : List V} (r : VRs K H μ ps vs) : VRs K H μ ps.dropLast vs.dropLast := by
  rw [List.dropLast_eq_take, List.dropLast_eq_take, VRs.length r]
  exact VRs.take _ r
theorem t_pop {K : KW} : TMe K rPop popM := by
  intro μ st H o xs u us E Q sr ro rs h
  unfold popM at h
  cases q : lstCell o st with
  | none => rw [q] at h; exact h.elim
  | some p =>
    obtain ⟨n, ys⟩ := p
    rw [q] at h
    dsimp only at h
    cases xs with
    | cons x t => exact h.elim
    | nil =>
      dsimp only at h
      cases qy : ys[ys.length - 1]? with
      | none => rw [qy] at h; exact h.elim
      | some y =>
        rw [qy] at h
        obtain ⟨a, vs, rfl, ha, h1, h2⟩ := lstCell_at sr ro q
        obtain ⟨w, e, rw'⟩ := VRs.get h2 qy
        refine ⟨a, vs, w, rfl, rs, h1, by rw [← VRs.length h2]; exact e, ?_⟩
        exact h μ _ w (gr_put ha h1 rfl) (sr.put ha ⟨_, upd_same, VRs.monov (gv_put ha) _ _ (VRs.dropLast h2)⟩) (VR.monov (gv_put ha) _ _ rw')
section
variable {X : Cx} {W : WX} {o e : Expr} {apos cpos : Pos} {mo : Rho → M PV} {ma : Rho → M (List PV)}
theorem me_append (ho : ME X W o mo) (ha : MA X W [e] ma)
    (hbase : attributeBase o "append" X.env (eval o X.env) = eval o X.env := by kernel_rfl)
    (hfew : ((backTo cpos (starEach [e] X.env)).all (fun x => !x.1) && (backToKw cpos (keywordEach [] X.env)).all (fun x => x.1.isSome)
      && decide ([e].length + ([] : List Keyword).length + (if ([] : List Keyword).isEmpty then 0 else 1) < 30)) = true := by kernel_rfl)
    (hline : (apos.endLine == cpos.line) = true := by kernel_rfl) (hs : starEach [e] X.env = (false, eval e X.env) :: starEach [] X.env := by kernel_rfl) :
    ME X W (.Call (.Attribute o "append" apos) [e] [] cpos) (eMeth "list" appendM mo ma) :=
  me_meth PySem.F.plainAttrs_list PySem.F.slot_list_append PySem.F.type_list_append mt_append t_append ho ha hbase hfew hline hs rfl
theorem me_pop (ho : ME X W o mo) (hbase : attributeBase o "pop" X.env (eval o X.env) = eval o X.env := by kernel_rfl) (hline : (apos.endLine == cpos.line) = true := by kernel_rfl) :
    ME X W (.Call (.Attribute o "pop" apos) [] [] cpos) (eMeth "list" popM mo aNil) :=
  me_meth0 PySem.F.plainAttrs_list PySem.F.slot_list_pop PySem.F.type_list_pop mt_pop t_pop ho hbase hline
end
theorem FnOk.ex {P : Program} {w : World} {K : PySem.W.Frag} {mg : Str → Option Value} {base : Heap} {CX : CXT} {k : Nat} {f : Addr} {fd : FuncData} {ps : List Str} {sp : Nat → Sp} (F : ∀ n, FnOk P w K mg base CX k f fd ps (sp n)) : FnOk P w K mg base CX k f fd ps (fun vs H Q E => ∃ n, sp n vs H Q E) :=
  ⟨fun vs H Q E ⟨n, h⟩ => (F n).len vs H Q E h, fun A outer s H args us vs Q E hr he hb hv ⟨n, h⟩ => (F n).run A outer s H args us vs Q E hr he hb hv h⟩
theorem law_sp {K : KW} {m : Nat → List PV → M PV} {ns : List Int} {n : Nat} {st : Sto} {H : Hp} {a : Addr} (hS : SqL K H a (ns.map V.int)) (h : m n [.frz (ns.map .int)] [] = .ok (.bl true) st) :
    ∃ n, spM K (m n) 1 [.ref a] H (fun v _ => v = .bl true) (fun _ _ _ => False) := by
  refine ⟨n, ⟨[], []⟩, [], [.frz (ns.map .int)], ⟨rfl, List.nodup_nil, fun a m => (nomatch m), fun n c a e => by simp at e⟩, VRs.cons ?_ VRs.nil, rfl, ?_⟩
  · refine (show ∃ b vs, V.ref a = .ref b ∧ FrzAt K H ⟨[], []⟩ b vs ∧ VRs K H ⟨[], []⟩ (ns.map .int) vs from ⟨a, _, rfl, ?_, VRs.ints⟩)
    rcases hS with hS | hS
    · exact .inl ⟨hS, fun m => by rcases m with m | m <;> exact (nomatch m)⟩
    · exact .inr hS
  · rw [h]
    exact fun μ' H' b g s r => r
theorem cx_false {P : Program} {w : World} (H : Hp) (s : Shared) (e : Value) (s' : Shared) (h : L2.CX P w [] H s (fun _ _ _ => False) e s') : False := by
  obtain ⟨_, _, _, _, _, _, _, _, _, _, _, _, z⟩ := h
  exact z.elim
end MP

set_option maxRecDepth 100000
set_option maxHeartbeats 1000000
namespace MP
open PySem L2
section
variable {X : Cx} {W : WX} {e a b c : Expr} {pos : Pos} {me : Rho → M PV}
theorem me_globI' {x : Str} {i : Int} (hg : Gl X x) (hm : ∃ t, X.mg x = some (.int i t)) (hd : (x == ("__debug__" : Str)) = false := by kernel_rfl) : ME X W (.Name x pos) (eC (.int i)) := let ⟨_, h⟩ := hm; me_globI hg h hd
theorem me_globS' {x : Str} {l : List Nat} (hg : Gl X x) (hm : ∃ t, X.mg x = some (.str ⟨l.toArray⟩ t)) (hd : (x == ("__debug__" : Str)) = false := by kernel_rfl) : ME X W (.Name x pos) (eC (.str l)) := let ⟨_, h⟩ := hm; me_globS hg h hd
def KV1 (K : PySem.W.Frag) (p : PV) (u : Value) : Prop := ∃ v, RelV v u ∧ ∀ H μ, VR K H μ p v
def KVs (K : PySem.W.Frag) : List PV → List Value → Prop
  | [], us => us = []
  | p :: ps, us => ∃ u t, us = u :: t ∧ KV1 K p u ∧ KVs K ps t
theorem KVs.vals {K : PySem.W.Frag} : ∀ {ps : List PV} {us : List Value}, KVs K ps us → ∃ vs, Vals vs us ∧ ∀ H μ, VRs K H μ ps vs
  | [], us, h => by have e : us = [] := h; subst e; exact ⟨[], .nil, fun _ _ => rfl⟩
  | p :: ps, us, h => by
    obtain ⟨u, t, rfl, ⟨v, r, hv⟩, ht⟩ := h
    obtain ⟨vs, r2, h2⟩ := KVs.vals ht
    exact ⟨v :: vs, .cons r r2, fun H μ => VRs.cons (hv H μ) (h2 H μ)⟩
def TupIn (K : PySem.W.Frag) (a : Addr) (ps : List PV) : Prop := ∃ (o : Obj) (its : List Value) (n : Nat), K.lookup a = some o ∧ o.cls = .type "tuple" ∧ o.data = .seq its.toArray n ∧ its.length ≤ SZ ∧ KVs K ps its
theorem TupIn.kt {K : PySem.W.Frag} {a : Addr} {ps : List PV} (h : TupIn K a ps) : ∃ vs, KT K a vs ∧ ∀ H μ, VRs K H μ ps vs := by
  obtain ⟨o, its, n, h1, h2, h3, h4, h5⟩ := h
  obtain ⟨vs, r, hv⟩ := KVs.vals h5
  exact ⟨vs, ⟨o, its.toArray, n, h1, h2, h3, by rw [List.size_toArray, sz_eq]; exact h4, by simpa using r⟩, hv⟩
theorem TupIn.val {K : PySem.W.Frag} {a : Addr} {ps : List PV} (h : TupIn K a ps) : KV1 K (.tup ps) (.ref a) := by
  obtain ⟨vs, kt, hv⟩ := h.kt
  exact ⟨.ref a, rfl, fun H μ => (show ∃ b ws, V.ref a = .ref b ∧ TupAt K H μ b ws ∧ VRs K H μ ps ws from ⟨a, vs, rfl, .inr kt, hv H μ⟩)⟩
def TupleAt (K : PySem.W.Frag) (mg : Str → Option Value) (x : Str) (ps : List PV) : Prop := ∃ a, mg x = some (.ref a) ∧ TupIn K a ps
theorem me_globT' {x : Str} {ps : List PV} (hg : Gl X x) (hm : TupleAt X.K X.mg x ps) (hd : (x == ("__debug__" : Str)) = false := by kernel_rfl) : ME X W (.Name x pos) (eC (.tup ps)) := by
  obtain ⟨a, h1, h2⟩ := hm
  obtain ⟨vs, kt, hv⟩ := h2.kt
  exact me_globT hg h1 kt hv hd
def RowsT (K : PySem.W.Frag) : List (List Nat × PV) → List DictEntry → Prop
  | [], es => es = []
  | p :: r, es => ∃ e t, es = e :: t ∧ (∃ tk, e.key = .str ⟨p.1.toArray⟩ tk) ∧ KV1 K p.2 e.val ∧ RowsT K r t
def TabIn (w : World) (K : PySem.W.Frag) (a : Addr) (tab : List (List Nat × PV)) : Prop := ∃ (es : List DictEntry) (n : Nat), K.lookup a = some ⟨.type "dict", none, .dict es.toArray n, #[]⟩ ∧ PySem.W.KeysLit w.params es ∧ (a == sysModules) = false ∧ RowsT K tab es
def TabAt (w : World) (K : PySem.W.Frag) (mg : Str → Option Value) (x : Str) (tab : List (List Nat × PV)) : Prop := ∃ a, mg x = some (.ref a) ∧ TabIn w K a tab
def lookT : List (List Nat × PV) → List Nat → Option PV
  | [], _ => none
  | p :: r, k => if p.1 = k then some p.2 else lookT r k
theorem RowsT.find {K : PySem.W.Frag} {z : List Nat} : ∀ {tab : List (List Nat × PV)} {es : List DictEntry}, RowsT K tab es → (lookT tab z = none → (es.find? fun e => Value.isStrOf ⟨z.toArray⟩ e.key) = none) ∧ ∀ p, lookT tab z = some p → ∃ e, (es.find? fun e => Value.isStrOf ⟨z.toArray⟩ e.key) = some e ∧ KV1 K p e.val
  | [], es, h => by have e : es = [] := h; subst e; exact ⟨fun _ => rfl, fun p q => (nomatch q)⟩
  | q :: r, es, h => by
    obtain ⟨e, t, rfl, ⟨tk, ek⟩, hv, hr⟩ := h
    obtain ⟨i1, i2⟩ := RowsT.find (z := z) hr
    have hk : Value.isStrOf ⟨z.toArray⟩ e.key = decide (q.1 = z) := by
      rw [ek]
      show ((⟨q.1.toArray⟩ : Str) == ⟨z.toArray⟩) = decide (q.1 = z)
      rw [Bool.eq_iff_iff]
      simp
    unfold lookT
    rw [List.find?_cons, hk]
    by_cases hq : q.1 = z
    · rw [if_pos hq, decide_eq_true hq]
      exact ⟨fun z => (nomatch z), fun p hp => by cases hp; exact ⟨e, rfl, hv⟩⟩
    · rw [if_neg hq, decide_eq_false hq]
      exact ⟨i1, i2⟩
def getTab (tab : List (List Nat × PV)) (x : PV) : M PV := match x with
  | .str z => M.ret ((lookT tab z).getD .non)
  | _ => M.fail
theorem me_getTab {x : Str} {tab : List (List Nat × PV)} {p apos : Pos} (hm : TabAt X.w X.K X.mg x tab) (he : ME X W e me) (hg : Gl X x := by exact gl_of (by kernel_rfl)) (hd : (x == ("__debug__" : Str)) = false := by kernel_rfl)
    (m : M1 X (.Name x p) "get" apos e pos := by exact ⟨by kernel_rfl, by kernel_rfl, by kernel_rfl, by kernel_rfl⟩) : ME X W (.Call (.Attribute (.Name x p) "get" apos) [e] [] pos) (eUn (getTab tab) me) := by
  obtain ⟨a, h1, es, n, hl, hk, low, rows⟩ := hm
  refine PE.imp (t := fun σ H Q => tM (kw X) W me σ H fun y H2 => ∃ z, y = .str z ∧ ∀ v, RelV v ((PySem.findBy Value.isStrOf es.toArray z).getD .none) → Q v H2) ⟨fun pins s σ H Q I h => ?_⟩ fun σ H Q ⟨μ, st, ρ, er, sr, h⟩ => ⟨μ, st, ρ, er, sr, (PostG.bind h).mono fun u H1 ⟨μ1, st1, y, g1, s1, ry, h1⟩ => ?_⟩
  · refine wpAny_Call_method m.base m.few m.line PySem.F.plainAttrs_dict PySem.F.slot_dict_get PySem.F.type_dict_get (ld_glob I hg h1 ?_ hd)
    have mp := PySem.W.mapOf_K (prog := X.prog) (w := X.w) I.kIn hl (by simpa using hk)
    refine ⟨mp.typeIs, fun b q => by cases q; exact ⟨_, I.kIn _ _ hl, rfl⟩, ?_⟩
    rw [m.trees]
    refine Calls.callWith_builtin rfl (Calls.evalArgs_plain (Calls.spliced_cons (thn (he.run pins s σ H _ I h) fun iv s2 ⟨y, H2, I2, ry, z, ey, q2⟩ => Calls.spliced_nil ?_)))
    subst ey
    obtain ⟨t, rfl⟩ := ry
    have mp2 := PySem.W.mapOf_K (prog := X.prog) (w := X.w) I2.kIn hl (by simpa using hk)
    refine call_meetsIn PySem.F.slot_dict_get mp2.typeIs PySem.F.entry_dict_get (PySem.F.args_dict_get_2 _ _) (meets_dict_get (strKind X.prog X.w) a (strKind_is X.prog X.w z t) low) ⟨_, mp2, ?_⟩
    have fr : ∃ v, RelV v ((PySem.findBy Value.isStrOf es.toArray z).getD .none) := by
      have q := RowsT.find (z := z.cps.toList) rows
      have ez : (⟨z.cps.toList.toArray⟩ : Str) = z := by simp
      rw [ez] at q
      unfold PySem.findBy
      rw [List.find?_toArray]
      cases hq : lookT tab z.cps.toList with
      | none => rw [q.1 hq]; exact ⟨.non, rfl⟩
      | some p =>
        obtain ⟨e, e1, v, r, _⟩ := q.2 p hq
        rw [e1]
        exact ⟨v, r⟩
    obtain ⟨v, rv⟩ := fr
    exact ⟨v, H2, I2.tok _, rv, q2 v rv⟩
  · cases y with
    | str z =>
      refine ⟨⟨z.toArray⟩, ry, fun v rv => ?_⟩
      have q := RowsT.find (z := z) rows
      unfold PySem.findBy at rv
      rw [List.find?_toArray] at rv
      have h2 : PostG (kw X) (fun c d H' => W c d σ H') (VR X.K) Q μ1 H1 (.ok ((lookT tab z).getD .non) st1) := h1
      cases hq : lookT tab z with
      | none =>
        rw [q.1 hq] at rv
        rw [hq] at h2
        have ev : v = .non := RelV.inj rv (show RelV .non Value.none from rfl)
        subst ev
        exact post_same h2 s1 rfl
      | some p =>
        obtain ⟨e, e1, v', r, hv⟩ := q.2 p hq
        rw [e1] at rv
        rw [hq] at h2
        have ev : v = v' := RelV.inj rv r
        subst ev
        exact post_same h2 s1 (hv H1 μ1)
    | _ => exact h1.elim
def eChain (f g : PV → PV → M PV) (ma mb mc : Rho → M PV) : Rho → M PV := fun ρ => M.bind (ma ρ) fun x => M.bind (mb ρ) fun y => M.bind (f x y) fun z => M.bind (asB z) fun k => if k = true then M.bind (mc ρ) fun w => g y w else M.ret (.bl false)
variable {ma mb mc : Rho → M PV} {f g : PV → PV → M PV} {r r' : R2}
theorem chain_imp (t : T2 (kw X) r f) (t' : T2 (kw X) r' g) : ∀ σ H Q, tM (kw X) W (eChain f g ma mb mc) σ H Q → tChain r r' (tM (kw X) W ma) (tM (kw X) W mb) (tM (kw X) W mc) σ H Q := fun σ H Q ⟨μ, st, ρ, er, sr, h⟩ =>
  ⟨μ, st, ρ, er, sr, (PostG.bind h).mono fun u H1 ⟨μ1, st1, x, g1, s1, rx, h1⟩ => ⟨μ1, st1, ρ, er.mono g1, s1, (PostG.bind h1).mono fun v H2 ⟨μ2, st2, y, g2, s2, ry, h2⟩ =>
    t μ2 st2 H2 x y u v (fun c d H' => W c d σ H') _ s2 (VR.mono g2 x u rx) ry ((PostG.bind (R' := VR X.K) h2).mono fun z H3 ⟨μ3, st3, z', g3, s3, rz, h3⟩ => by
      obtain ⟨k, e, h4⟩ := asB_bind rz h3
      refine ⟨k, e, ?_⟩
      cases k with
      | true =>
        rw [if_pos rfl] at h4 ⊢
        exact ⟨μ3, st3, ρ, ((er.mono g1).mono g2).mono g3, s3, (PostG.bind h4).mono fun w H4 ⟨μ4, st4, w', g4, s4, rw', h5⟩ => t' μ4 st4 H4 y w' v w _ Q s4 (VR.mono g4 y v (VR.mono g3 y v ry)) rw' h5⟩
      | false => rw [if_neg Bool.false_ne_true] at h4 ⊢; exact h4 μ3 H3 _ (Gr.refl _ _) s3 rfl)⟩⟩
theorem me_chain {op op' : CmpOp} (ho : OpR X (compareOp op) r) (t : T2 (kw X) r f) (ho' : OpR X (compareOp op') r') (t' : T2 (kw X) r' g) (ha : ME X W a ma) (hb : ME X W b mb) (hc : ME X W c mc) (hm : lastMarks [op, op'] [b, c] = false := by kernel_rfl) :
    ME X W (.Compare a [op, op'] [b, c] pos) (eChain f g ma mb mc) := PE.imp (pe_chain ho ho' ha hb hc hm) (chain_imp t t')
theorem mt_chain {op op' : CmpOp} (ho : OpR X (compareOp op) r) (t : T2 (kw X) r f) (ho' : OpR X (compareOp op') r') (t' : T2 (kw X) r' g) (ha : ME X W a ma) (hb : ME X W b mb) (hc : ME X W c mc) (hm : lastMarks [op, op'] [b, c] = false := by kernel_rfl) :
    MT X W (.Compare a [op, op'] [b, c] pos) (eB (eChain f g ma mb mc)) := PT.imp (pt_chain ho ho' ha hb hc hm) fun σ H Q h => chain_imp t t' σ H _ (test_imp (X := X) (W := W) (m := eChain f g ma mb mc) σ H Q h)
end
end MP

set_option maxRecDepth 100000
set_option maxHeartbeats 1000000
namespace MP
open PySem L2
section
variable {w : World} {K : PySem.W.Frag} {a : Addr}
theorem TabIn.of {es : Array DictEntry} {n : Nat} {tab : List (List Nat × PV)} (hl : K.lookup a = some ⟨.type "dict", none, .dict es n, #[]⟩) (hk : PySem.W.KeysLit w.params es.toList) (low : (a == sysModules) = false) (rows : RowsT K tab es.toList) : TabIn w K a tab := ⟨es.toList, n, by simpa using hl, hk, low, rows⟩
theorem RowsT.nil : RowsT K [] [] := rfl
theorem RowsT.row {s : String} {l : List Nat} {p : PV} {r : List (List Nat × PV)} {h : Int} {tk : Tok} {v : Value} {es : List DictEntry} (e : Str.ofString s = ⟨l.toArray⟩) (hv : KV1 K p v) (hr : RowsT K r es) : RowsT K ((l, p) :: r) (⟨h, .str (Str.ofString s) tk, v⟩ :: es) :=
  ⟨_, _, rfl, ⟨tk, by rw [e]⟩, hv, hr⟩
theorem KV1.non : KV1 K .non Value.none := ⟨.non, rfl, fun _ _ => rfl⟩
theorem KV1.bl {b : Bool} : KV1 K (.bl b) (Value.bool b) := ⟨.bl b, rfl, fun _ _ => rfl⟩
theorem KV1.int {i : Int} {t : Tok} : KV1 K (.int i) (Value.int i t) := ⟨.int i, ⟨t, rfl⟩, fun _ _ => rfl⟩
theorem KV1.str {l : List Nat} {s : String} {t : Tok} (e : Str.ofString s = ⟨l.toArray⟩) : KV1 K (.str l) (Value.str (Str.ofString s) t) := ⟨.str ⟨l.toArray⟩, ⟨t, by rw [e]⟩, fun _ _ => rfl⟩
theorem KVs.nil : KVs K [] [] := rfl
theorem KVs.cons {p : PV} {ps : List PV} {v : Value} {vs : List Value} (h : KV1 K p v) (r : KVs K ps vs) : KVs K (p :: ps) (v :: vs) := ⟨v, vs, rfl, h, r⟩
theorem TupIn.of {its : Array Value} {n : Nat} {dd : Option Addr} {sl : Array (Option Value)} {ps : List PV} (hl : K.lookup a = some ⟨.type "tuple", dd, .seq its n, sl⟩) (hn : its.toList.length ≤ SZ) (hv : KVs K ps its.toList) : TupIn K a ps := ⟨_, its.toList, n, hl, rfl, by simp, hn, hv⟩
end
theorem def_okF {P : Program} {w : World} {K : PySem.W.Frag} {mg : Str → Option Value} {base : Heap} {x qual : Str} {st : Stmt} {f : Addr} {fd : FuncData} (N ps : List Str) {k kk nn : Nat} (m : Rho → M Fl) {g : List PV → M PV} (hg : g = runB m kk) (hN : N.length = kk) (hn : ps.length = nn) (F : Fun K x qual st f fd) (S : FnScope N ps (defScope st))
    (hb : ∀ (cdv : Value) (A : Around) (outer : List Env) (s : Shared) (H : Hp) (E : XK), Room k (A.deeper (PyProof.Rows.envOfC qual (defScope st) s.heap.objs.size f cdv)) →
      MSs (cxOf (L2.CX P w) P w K mg base N qual (defScope st) f cdv A outer s H E) (fun c d _ H => E c d H) (defBody st) m) :
    FnOk P w K mg base (L2.CX P w) (k + 1) f fd ps (spM ⟨w, K⟩ g nn) := by
  subst hg hN hn
  exact def_ok F S hb
end MP

set_option maxRecDepth 100000
set_option maxHeartbeats 1000000
namespace MP
open PySem L2
def strsOf : List PV → Option (List (List Nat))
  | [] => some []
  | .str z :: r => (strsOf r).map (z :: ·)
  | _ :: _ => none
theorem strsOf_at {K : PySem.W.Frag} {H : Hp} {μ : Mu} : ∀ {ps : List PV} {vs : List V} {zs : List (List Nat)}, VRs K H μ ps vs → strsOf ps = some zs → vs = (zs.map SX.S).map V.str
  | [], vs, zs, r, h => by cases h; exact r
  | p :: ps, vs, zs, r, h => by
    obtain ⟨v, t, rfl, r1, r2⟩ := (show ∃ v t, vs = v :: t ∧ VR K H μ p v ∧ VRs K H μ ps t from r)
    cases p with
    | str b =>
      unfold strsOf at h
      cases q : strsOf ps with
      | none => rw [q] at h; cases h
      | some cs =>
        rw [q] at h
        cases h
        cases (show v = V.str ⟨b.toArray⟩ from r1)
        rw [strsOf_at r2 q]
        rfl
    | _ => cases h
def joinM (o : PV) (xs : List PV) : M PV := fun st => match o with
  | .str a => match xs with
    | [x] => match seqOf x st with
      | some ys => match strsOf ys with
        | some zs => if (zs.map (·.length)).sum + zs.length * a.length ≤ SZ then .ok (.str (TL.joinL a zs)) st else .bad
        | none => .bad
      | none => .bad
    | _ => .bad
  | _ => .bad
theorem S_len (l : List Nat) : (SX.S l).length = l.length := by show l.toArray.size = _; simp
theorem t_join {K : KW} : TMe K (fun x xs H Q => ∃ a p, ∃ ys : List Str, x = .str a ∧ xs = [.ref p] ∧ (SqL K H p (ys.map V.str) ∨ SqT K H p (ys.map V.str)) ∧
    (ys.map (·.length)).sum + ys.length * a.length ≤ 16777216 ∧ Q (.str (Txt.join a ys)) H) joinM := by
  intro μ st H o xs u us E Q sr ro rs h
  unfold joinM at h
  cases o with
  | str a =>
    cases (show u = V.str ⟨a.toArray⟩ from ro)
    cases xs with
    | nil => exact h.elim
    | cons x t =>
      cases t with
      | cons y t => exact h.elim
      | nil =>
        dsimp only at h
        obtain ⟨w, rfl, rx⟩ := one_of rs
        cases q : seqOf x st with
        | none => rw [q] at h; exact h.elim
        | some ys =>
          rw [q] at h
          dsimp only at h
          cases q2 : strsOf ys with
          | none => rw [q2] at h; exact h.elim
          | some zs =>
            rw [q2] at h
            dsimp only at h
            by_cases hz : (zs.map (·.length)).sum + zs.length * a.length ≤ SZ
            · rw [if_pos hz] at h
              obtain ⟨p, vs, rfl, hq, r⟩ := seqOf_at sr rx q
              have e := strsOf_at r q2
              subst e
              refine ⟨_, p, zs.map SX.S, rfl, rfl, hq, ?_, ?_⟩
              · rw [SX.lens, List.length_map]
                have e2 : (⟨a.toArray⟩ : Str).length = a.length := S_len a
                rw [e2]
                exact hz
              · have e3 : Txt.join (⟨a.toArray⟩ : Str) (zs.map SX.S) = SX.S (TL.joinL a zs) := SX.join_S a zs
                rw [e3]
                exact post_same h sr rfl
            · rw [if_neg hz] at h; exact h.elim
  | _ => exact h.elim
def splitM (o : PV) (xs : List PV) : M PV := fun st => match o with
  | .str a => match xs with
    | [.str b] => if (b.all (· < 256)) = true ∧ b ≠ [] ∧ a.length + 2 ≤ SZ then .ok (.lst ((TL.spl b 0 [] a).map .str)) st else .bad
    | _ => .bad
  | _ => .bad
theorem VRs.strs {K : PySem.W.Frag} {H : Hp} {μ : Mu} : ∀ zs : List (List Nat), VRs K H μ (zs.map .str) ((zs.map SX.S).map V.str)
  | [] => rfl
  | z :: zs => VRs.cons rfl (VRs.strs zs)
theorem t_split {K : KW} : TMe K (fun x xs H Q => ∃ a b, x = .str a ∧ xs = [.str b] ∧ (b.length == 0) = false ∧ a.length + 2 ≤ sizeLine ∧ rNewStrs (Txt.split a b) H Q) splitM := by
  intro μ st H o xs u us E Q sr ro rs h
  unfold splitM at h
  cases o with
  | str a =>
    cases (show u = V.str ⟨a.toArray⟩ from ro)
    cases xs with
    | nil => exact h.elim
    | cons x t =>
      cases t with
      | cons y t => cases x <;> exact h.elim
      | nil =>
        obtain ⟨w, rfl, rx⟩ := one_of rs
        cases x with
        | str b =>
          cases (show w = V.str ⟨b.toArray⟩ from rx)
          dsimp only at h
          by_cases hz : (b.all (· < 256)) = true ∧ b ≠ [] ∧ a.length + 2 ≤ SZ
          · rw [if_pos hz] at h
            refine ⟨_, _, rfl, rfl, ?_, ?_, fun p hp => ?_⟩
            · show (b.toArray.size == 0) = false
              rw [List.size_toArray]
              cases b with
              | nil => exact absurd rfl hz.2.1
              | cons c r => rfl
            · show a.toArray.size + 2 ≤ sizeLine
              rw [List.size_toArray, sz_eq]
              exact hz.2.2
            · have e3 : Txt.split (⟨a.toArray⟩ : Str) ⟨b.toArray⟩ = (TL.spl b 0 [] a).map SX.S := SX.split_S hz.2.1 hz.1
              rw [e3]
              exact post_lst sr (VRs.strs _) hp h
          · rw [if_neg hz] at h; exact h.elim
        | _ => exact h.elim
  | _ => exact h.elim
def insertM (o : PV) (xs : List PV) : M PV := fun st => match lstCell o st with
  | some (n, ys) => match xs with
    | [.int i, x] => if ys.length < SZ ∧ 0 ≤ i ∧ i < 4611686018427387904 then .ok .non (st.set n (.lst (ys.take i.toNat ++ [x] ++ ys.drop i.toNat))) else .bad
    | _ => .bad
  | none => .bad
theorem t_insert {K : KW} : TMe K (fun x vs H Q => ∃ (l : Addr) (xs : List V) (i : Int) (y : V), x = .ref l ∧ vs = [.int i, y] ∧ H l = some (.lst xs) ∧ xs.length < sizeLine ∧ 0 ≤ i ∧ i < 2 ^ 63 ∧
    Q .non (upd H l (.lst (xs.take i.toNat ++ [y] ++ xs.drop i.toNat)))) insertM := by
  intro μ st H o xs u us E Q sr ro rs h
  unfold insertM at h
  cases q : lstCell o st with
  | none => rw [q] at h; exact h.elim
  | some p =>
    obtain ⟨n, ys⟩ := p
    rw [q] at h
    dsimp only at h
    split at h
    · rename_i i x
      by_cases hz : ys.length < SZ ∧ 0 ≤ i ∧ i < 4611686018427387904
      · rw [if_pos hz] at h
        obtain ⟨a, vs, rfl, ha, h1, h2⟩ := lstCell_at sr ro q
        obtain ⟨v, w, rfl, rv, rw'⟩ := two_of rs
        cases (show v = V.int i from rv)
        refine ⟨a, vs, i, w, rfl, rfl, h1, by rw [← VRs.length h2, sz_eq]; exact hz.1, hz.2.1, by omega, ?_⟩
        exact h μ _ .non (gr_put ha h1 rfl) (sr.put ha ⟨_, upd_same, VRs.monov (gv_put ha) _ _ (VRs.append (VRs.append (VRs.take _ h2) (VRs.cons rw' VRs.nil)) (VRs.drop _ h2))⟩) rfl
      · rw [if_neg hz] at h; exact h.elim
    · exact h.elim
section
variable {X : Cx} {W : WX} {o e e2 : Expr} {apos cpos : Pos} {mo : Rho → M PV} {ma : Rho → M (List PV)}
theorem me_join (ho : ME X W o mo) (ha : MA X W [e] ma)
    (hbase : attributeBase o "join" X.env (eval o X.env) = eval o X.env := by kernel_rfl)
    (hfew : ((backTo cpos (starEach [e] X.env)).all (fun x => !x.1) && (backToKw cpos (keywordEach [] X.env)).all (fun x => x.1.isSome)
      && decide ([e].length + ([] : List Keyword).length + (if ([] : List Keyword).isEmpty then 0 else 1) < 30)) = true := by kernel_rfl)
    (hline : (apos.endLine == cpos.line) = true := by kernel_rfl) (hs : starEach [e] X.env = (false, eval e X.env) :: starEach [] X.env := by kernel_rfl) :
    ME X W (.Call (.Attribute o "join" apos) [e] [] cpos) (eMeth "str" joinM mo ma) :=
  me_meth PySem.F.plainAttrs_str PySem.F.slot_str_join PySem.F.type_str_join mt_join t_join ho ha hbase hfew hline hs rfl
theorem me_split (ho : ME X W o mo) (ha : MA X W [e] ma)
    (hbase : attributeBase o "split" X.env (eval o X.env) = eval o X.env := by kernel_rfl)
    (hfew : ((backTo cpos (starEach [e] X.env)).all (fun x => !x.1) && (backToKw cpos (keywordEach [] X.env)).all (fun x => x.1.isSome)
      && decide ([e].length + ([] : List Keyword).length + (if ([] : List Keyword).isEmpty then 0 else 1) < 30)) = true := by kernel_rfl)
    (hline : (apos.endLine == cpos.line) = true := by kernel_rfl) (hs : starEach [e] X.env = (false, eval e X.env) :: starEach [] X.env := by kernel_rfl) :
    ME X W (.Call (.Attribute o "split" apos) [e] [] cpos) (eMeth "str" splitM mo ma) :=
  me_meth PySem.F.plainAttrs_str PySem.F.slot_str_split PySem.F.type_str_split mt_split t_split ho ha hbase hfew hline hs rfl
theorem me_insert (ho : ME X W o mo) (ha : MA X W [e, e2] ma)
    (hbase : attributeBase o "insert" X.env (eval o X.env) = eval o X.env := by kernel_rfl)
    (hfew : ((backTo cpos (starEach [e, e2] X.env)).all (fun x => !x.1) && (backToKw cpos (keywordEach [] X.env)).all (fun x => x.1.isSome)
      && decide ([e, e2].length + ([] : List Keyword).length + (if ([] : List Keyword).isEmpty then 0 else 1) < 30)) = true := by kernel_rfl)
    (hline : (apos.endLine == cpos.line) = true := by kernel_rfl) (hs : starEach [e, e2] X.env = (false, eval e X.env) :: starEach [e2] X.env := by kernel_rfl) (hplain : (backTo cpos (starEach [e2] X.env)).any (·.1) = false := by kernel_rfl) :
    ME X W (.Call (.Attribute o "insert" apos) [e, e2] [] cpos) (eMeth "list" insertM mo ma) :=
  me_meth PySem.F.plainAttrs_list PySem.F.slot_list_insert PySem.F.type_list_insert mt_insert t_insert ho ha hbase hfew hline hs hplain
end
end MP

set_option maxRecDepth 100000
set_option maxHeartbeats 1000000
namespace MP
open PySem L2 PySem.Spec PyProof.Rows
def inTab (n : Bool) (tab : List (List Nat × PV)) (x : PV) : M PV := match x with
  | .str z => M.ret (.bl (ng n (lookT tab z).isSome))
  | _ => M.fail
def ixTab (tab : List (List Nat × PV)) (x : PV) : M PV := match x with
  | .str z => match lookT tab z with
    | some p => M.ret p
    | none => M.fail
  | _ => M.fail
theorem TabIn.isSome {w : World} {K : PySem.W.Frag} {tab : List (List Nat × PV)} {es : List DictEntry} (rows : RowsT K tab es) (z : List Nat) : (PySem.findBy Value.isStrOf es.toArray (⟨z.toArray⟩ : Str)).isSome = (lookT tab z).isSome := by
  have q := RowsT.find (z := z) rows
  unfold PySem.findBy
  rw [List.find?_toArray]
  cases hq : lookT tab z with
  | none => rw [q.1 hq]; rfl
  | some p => obtain ⟨e, e1, _⟩ := q.2 p hq; rw [e1]; rfl
section
variable {X : Cx} {W : WX} {e : Expr} {pos : Pos} {me : Rho → M PV} {x : Str} {tab : List (List Nat × PV)} {p : Pos}
theorem op_inTab {n : Bool} {op : CmpOp} (hop : op = if n = true then .NotIn else .In) {a : Addr} (h : TabIn X.w X.K a tab) : OpR X (compareOp op) (fun u v H Q => ∃ z, u = .str z ∧ v = .ref a ∧ Q (.bl (ng n (lookT tab z.cps.toList).isSome)) H) := by
  intro pins s σ H u v u' v' Q I ru rv q
  obtain ⟨es, k, hl, hk, low, rows⟩ := h
  obtain ⟨z, rfl, rfl, q⟩ := q
  obtain ⟨t, rfl⟩ := ru
  cases rv
  have mp := PySem.W.mapOf_K (prog := X.prog) (w := X.w) I.kIn hl (by simpa using hk)
  have e := TabIn.isSome (w := X.w) rows z.cps.toList
  rw [show (⟨z.cps.toList.toArray⟩ : Str) = z by simp] at e
  cases n with
  | false =>
    rw [if_neg Bool.false_ne_true] at hop
    subst hop
    refine wpAny_in_of (strKind_is X.prog X.w z t) low mp ?_
    rw [e]
    exact ⟨.bl (lookT tab z.cps.toList).isSome, H, I.tok _, rfl, q⟩
  | true =>
    rw [if_pos rfl] at hop
    subst hop
    refine wpAny_notIn_of (strKind_is X.prog X.w z t) low mp ?_
    rw [e]
    exact ⟨.bl (!(lookT tab z.cps.toList).isSome), H, I.tok _, rfl, q⟩
theorem inTab_imp {n : Bool} {a : Addr} : ∀ σ H Q, tM (kw X) W (eUn (inTab n tab) me) σ H Q → tOp (fun u v H Q => ∃ z, u = .str z ∧ v = .ref a ∧ Q (.bl (ng n (lookT tab z.cps.toList).isSome)) H) (tM (kw X) W me) (tC (.ref a)) σ H Q := fun σ H Q ⟨μ, st, ρ, er, sr, h⟩ =>
  ⟨μ, st, ρ, er, sr, (PostG.bind h).mono fun u H1 ⟨μ1, st1, y, g1, s1, ry, h1⟩ => by
    cases y with
    | str z =>
      cases (show u = V.str ⟨z.toArray⟩ from ry)
      exact ⟨⟨z.toArray⟩, rfl, rfl, by simpa using post_same (v := V.bl (ng n (lookT tab z).isSome)) h1 s1 rfl⟩
    | _ => exact h1.elim⟩
theorem me_inTabG {n : Bool} {op : CmpOp} (hop : op = if n = true then .NotIn else .In) (hm : TabAt X.w X.K X.mg x tab) (he : ME X W e me) (hg : Gl X x) (hd : (x == ("__debug__" : Str)) = false) (hb : behindInMarks op (.Name x p) = false) : ME X W (.Compare e [op] [.Name x p] pos) (eUn (inTab n tab) me) := by
  obtain ⟨a, h1, h2⟩ := hm
  exact PE.imp (pe_cmpR (op_inTab hop h2) he (pe_glob (v := .ref a) hg h1 rfl hd) hb) inTab_imp
theorem mt_inTabG {n : Bool} {op : CmpOp} (hop : op = if n = true then .NotIn else .In) (hm : TabAt X.w X.K X.mg x tab) (he : ME X W e me) (hg : Gl X x) (hd : (x == ("__debug__" : Str)) = false) (hb : behindInMarks op (.Name x p) = false) : MT X W (.Compare e [op] [.Name x p] pos) (eB (eUn (inTab n tab) me)) := by
  obtain ⟨a, h1, h2⟩ := hm
  exact PT.imp (pt_cmpR (op_inTab hop h2) he (pe_glob (v := .ref a) hg h1 rfl hd) hb) fun σ H Q h => inTab_imp σ H _ (test_imp (X := X) (W := W) (m := eUn (inTab n tab) me) σ H Q h)
theorem me_inTab (hm : TabAt X.w X.K X.mg x tab) (he : ME X W e me) (hg : Gl X x := by exact gl_of (by kernel_rfl)) (hd : (x == ("__debug__" : Str)) = false := by kernel_rfl) : ME X W (.Compare e [.In] [.Name x p] pos) (eUn (inTab false tab) me) := me_inTabG rfl hm he hg hd rfl
theorem me_notinTab (hm : TabAt X.w X.K X.mg x tab) (he : ME X W e me) (hg : Gl X x := by exact gl_of (by kernel_rfl)) (hd : (x == ("__debug__" : Str)) = false := by kernel_rfl) : ME X W (.Compare e [.NotIn] [.Name x p] pos) (eUn (inTab true tab) me) := me_inTabG rfl hm he hg hd rfl
theorem mt_inTab (hm : TabAt X.w X.K X.mg x tab) (he : ME X W e me) (hg : Gl X x := by exact gl_of (by kernel_rfl)) (hd : (x == ("__debug__" : Str)) = false := by kernel_rfl) : MT X W (.Compare e [.In] [.Name x p] pos) (eB (eUn (inTab false tab) me)) := mt_inTabG rfl hm he hg hd rfl
theorem mt_notinTab (hm : TabAt X.w X.K X.mg x tab) (he : ME X W e me) (hg : Gl X x := by exact gl_of (by kernel_rfl)) (hd : (x == ("__debug__" : Str)) = false := by kernel_rfl) : MT X W (.Compare e [.NotIn] [.Name x p] pos) (eB (eUn (inTab true tab) me)) := mt_inTabG rfl hm he hg hd rfl
theorem ix_tab {a : Addr} (h : TabIn X.w X.K a tab) : IxR X (fun u v H Q => ∃ z p, u = .ref a ∧ v = .str ⟨z.toArray⟩ ∧ lookT tab z = some p ∧ ∀ w, (∀ μ, VR X.K H μ p w) → Q w H) := by
  intro value slice pins s σ H u v u' v' Q I ru rv q hs
  obtain ⟨es, k, hl, hk, low, rows⟩ := h
  obtain ⟨z, p, rfl, rfl, hz, q⟩ := q
  cases (show u' = Value.ref a from ru)
  obtain ⟨t, rfl⟩ := rv
  have mp := PySem.W.mapOf_K (prog := X.prog) (w := X.w) I.kIn hl (by simpa using hk)
  obtain ⟨en, e1, w, rw', hv⟩ := (RowsT.find (z := z) rows).2 p hz
  have e2 : PySem.findBy Value.isStrOf es.toArray (⟨z.toArray⟩ : Str) = some en.val := by
    unfold PySem.findBy
    rw [List.find?_toArray, e1]
    rfl
  exact tail_any mp.typeIs slot_dict_getitem.lookup (wpAny_getItem_of (strKind_is X.prog X.w _ t) mp e2 ⟨w, H, I.tok _, rw', q w fun μ => hv H μ⟩) hs
theorem me_ixTab (hm : TabAt X.w X.K X.mg x tab) (he : ME X W e me) (hs : PlainIx e) (hg : Gl X x := by exact gl_of (by kernel_rfl)) (hd : (x == ("__debug__" : Str)) = false := by kernel_rfl) : ME X W (.Subscript (.Name x p) e pos) (eUn (ixTab tab) me) := by
  obtain ⟨a, h1, h2⟩ := hm
  refine PE.imp (pe_ix (ix_tab h2) (pe_glob (v := .ref a) hg h1 rfl hd) he hs) fun σ H Q ⟨μ, st, ρ, er, sr, h⟩ => ?_
  refine ⟨μ, st, ρ, er, sr, (PostG.bind h).mono fun u H1 ⟨μ1, st1, y, g1, s1, ry, h1⟩ => ?_⟩
  cases y with
  | str z =>
    unfold ixTab at h1
    dsimp only at h1
    cases hq : lookT tab z with
    | none => rw [hq] at h1; exact h1.elim
    | some p =>
      rw [hq] at h1
      exact ⟨z, p, rfl, ry, hq, fun w hw => post_same h1 s1 (hw μ1)⟩
  | _ => exact h1.elim
end
def intS (i : Int) : List Nat := (PySem.Str.ofString (toString i)).cps.toList
def strM (xs : List PV) : M PV := match xs with
  | [.int i] => if i.natAbs.log2 < 1920 then M.ret (.str (intS i)) else M.fail
  | [.str a] => M.ret (.str a)
  | _ => M.fail
theorem t_strM {K : KW} : TL K (fun xs H Q => (∃ i, xs = [.int i] ∧ i.natAbs.log2 < 1920 ∧ Q (.str (toString i)) H) ∨ ∃ a, xs = [.str a] ∧ Q (.str a) H) strM := by
  intro μ st H xs us E Q sr r h
  cases xs with
  | nil => exact h.elim
  | cons x t =>
    cases t with
    | cons y t => cases x <;> exact h.elim
    | nil =>
      obtain ⟨u, rfl, rx⟩ := one_of r
      cases x with
      | int i =>
        cases (show u = V.int i from rx)
        unfold strM at h
        dsimp only at h
        by_cases hz : i.natAbs.log2 < 1920
        · rw [if_pos hz] at h
          refine .inl ⟨i, rfl, hz, ?_⟩
          have e : (⟨(intS i).toArray⟩ : Str) = PySem.Str.ofString (toString i) := by unfold intS; simp
          have q := post_same (v := V.str ⟨(intS i).toArray⟩) h sr rfl
          rw [e] at q
          exact q
        · rw [if_neg hz] at h; exact h.elim
      | str a => cases (show u = V.str ⟨a.toArray⟩ from rx); exact .inr ⟨_, rfl, post_same h sr rfl⟩
      | _ => exact h.elim
section
variable {X : Cx}
theorem CallR.or {f : Value} {r r' : List V → Hp → VK → Prop} (h : CallR X f r) (h' : CallR X f r') : CallR X f (fun xs H Q => r xs H Q ∨ r' xs H Q) := by
  intro pins s σ H xs us Q I rs q
  rcases q with q | q
  · exact h pins s σ H xs us Q I rs q
  · exact h' pins s σ H xs us Q I rs q
variable {W : WX} {e : Expr} {p pos : Pos} {ma : Rho → M (List PV)}
theorem me_strOf (hg : Gl X "str") (hm : X.mg "str" = none) (ha : MA X W [e] ma) (he : starEach [e] X.env = (false, eval e X.env) :: starEach [] X.env := by kernel_rfl) : ME X W (.Call (.Name "str" p) [e] [] pos) (eCall strM ma) :=
  me_callTy (CallR.or call_str_int SkE.call_str_str) t_strM hg hm (by kernel_rfl) ha (he := he) (hpl := rfl)
end
def intsOf : List PV → Option (List Int)
  | [] => some []
  | .int i :: r => (intsOf r).map (i :: ·)
  | _ :: _ => none
theorem intsOf_at {K : PySem.W.Frag} {H : Hp} {μ : Mu} : ∀ {ps : List PV} {vs : List V} {ns : List Int}, VRs K H μ ps vs → intsOf ps = some ns → vs = ns.map V.int
  | [], vs, ns, r, h => by cases h; exact r
  | p :: ps, vs, ns, r, h => by
    obtain ⟨v, t, rfl, r1, r2⟩ := (show ∃ v t, vs = v :: t ∧ VR K H μ p v ∧ VRs K H μ ps t from r)
    cases p with
    | int b =>
      unfold intsOf at h
      cases q : intsOf ps with
      | none => rw [q] at h; cases h
      | some cs =>
        rw [q] at h
        cases h
        cases (show v = V.int b from r1)
        rw [intsOf_at r2 q]
        rfl
    | _ => cases h
def lstOf (p : PV) (st : Sto) : Option (List PV) := match p with
  | .frz xs => some xs
  | p => listOf p st
theorem lstOf_at {K : KW} {H : Hp} {μ : Mu} {st : Sto} {x : PV} {v : V} {ps : List PV} (sr : SR K μ st H) (r : VR K H μ x v) (h : lstOf x st = some ps) : ∃ a vs, v = .ref a ∧ SqL K H a vs ∧ VRs K H μ ps vs := by
  have g : listOf x st = some ps → ∃ a vs, v = .ref a ∧ SqL K H a vs ∧ VRs K H μ ps vs := fun h => by
    obtain ⟨a, vs, e, l, rs⟩ := listOf_at sr r h
    exact ⟨a, vs, e, SqL.of l, rs⟩
  cases x with
  | frz xs =>
    cases h
    obtain ⟨a, vs, e, l, rs⟩ := frz_at r
    exact ⟨a, vs, e, l.sq, rs⟩
  | _ => exact g h
def sumM (xs : List PV) : M PV := fun st => match xs with
  | [x] => match lstOf x st with
    | some ys => match intsOf ys with
      | some ns => .ok (.int ns.sum) st
      | none => .bad
    | none => .bad
  | _ => .bad
theorem t_sumM {K : KW} : TL K (rSum K) sumM := by
  intro μ st H xs us E Q sr r h
  unfold sumM at h
  cases xs with
  | nil => exact h.elim
  | cons x t =>
    cases t with
    | cons y t => exact h.elim
    | nil =>
      obtain ⟨u, rfl, rx⟩ := one_of r
      dsimp only at h
      cases q : lstOf x st with
      | none => rw [q] at h; exact h.elim
      | some ys =>
        rw [q] at h
        dsimp only at h
        cases q2 : intsOf ys with
        | none => rw [q2] at h; exact h.elim
        | some ns =>
          rw [q2] at h
          obtain ⟨a, vs, rfl, l, rs⟩ := lstOf_at sr rx q
          have e := intsOf_at rs q2
          subst e
          exact ⟨a, ns, rfl, l, post_same h sr rfl⟩
section
variable {X : Cx} {W : WX} {e : Expr} {p pos : Pos} {ma : Rho → M (List PV)}
theorem me_sum (hc : X.calm = true) (hg : Gl X "sum") (hm : X.mg "sum" = none) (ha : MA X W [e] ma) (he : starEach [e] X.env = (false, eval e X.env) :: starEach [] X.env := by kernel_rfl) : ME X W (.Call (.Name "sum" p) [e] [] pos) (eCall sumM ma) :=
  me_callB (cr_sum hc) t_sumM hg hm (by kernel_rfl) ha (he := he) (hpl := rfl)
end
def indexM (o : PV) (xs : List PV) : M PV := match o, xs with
  | .str a, [.str b] => match Builtin.Str.occurrences ⟨a.toArray⟩ ⟨b.toArray⟩ 0 a.length 1 with
    | i :: _ => M.ret (.int (i : Nat))
    | [] => M.fail
  | _, _ => M.fail
theorem t_index {K : KW} : TMe K (fun x xs H Q => ∃ a b i rest, x = .str a ∧ xs = [.str b] ∧ Builtin.Str.occurrences a b 0 a.length 1 = i :: rest ∧ Q (.int (i : Nat)) H) indexM := by
  intro μ st H o xs u us E Q sr ro rs h
  unfold indexM at h
  split at h
  · rename_i a b
    obtain ⟨w, rfl, rx⟩ := one_of rs
    cases (show u = V.str ⟨a.toArray⟩ from ro)
    cases (show w = V.str ⟨b.toArray⟩ from rx)
    cases q : Builtin.Str.occurrences ⟨a.toArray⟩ ⟨b.toArray⟩ 0 a.length 1 with
    | nil => rw [q] at h; exact h.elim
    | cons i r =>
      rw [q] at h
      exact ⟨_, _, i, r, rfl, rfl, by rw [str_len]; exact q, post_same h sr rfl⟩
  · exact h.elim
section
variable {X : Cx} {W : WX} {o e : Expr} {apos cpos : Pos} {mo : Rho → M PV} {ma : Rho → M (List PV)}
theorem me_indexS (ho : ME X W o mo) (ha : MA X W [e] ma)
    (hbase : attributeBase o "index" X.env (eval o X.env) = eval o X.env := by kernel_rfl)
    (hfew : ((backTo cpos (starEach [e] X.env)).all (fun x => !x.1) && (backToKw cpos (keywordEach [] X.env)).all (fun x => x.1.isSome)
      && decide ([e].length + ([] : List Keyword).length + (if ([] : List Keyword).isEmpty then 0 else 1) < 30)) = true := by kernel_rfl)
    (hline : (apos.endLine == cpos.line) = true := by kernel_rfl) (hs : starEach [e] X.env = (false, eval e X.env) :: starEach [] X.env := by kernel_rfl) :
    ME X W (.Call (.Attribute o "index" apos) [e] [] cpos) (eMeth "str" indexM mo ma) :=
  me_meth PySem.F.plainAttrs_str PySem.F.slot_str_index PySem.F.type_str_index mt_sindex t_index ho ha hbase hfew hline hs rfl
end
end MP

set_option maxRecDepth 100000
set_option maxHeartbeats 1000000
namespace MP
open PySem L2 PySem.Spec PyProof.Rows
inductive Sk where
  | l (a : Addr)
  | t (a : Addr)
  | s (x : Str)
def Sk.val : Sk → V
  | .l a => .ref a
  | .t a => .ref a
  | .s x => .str x
def Sk.ty : Sk → String
  | .l _ => "list_iterator"
  | .t _ => "tuple_iterator"
  | .s x => strIterType x
def Sk.at (K : PySem.W.Frag) (H : Hp) : Sk → List V → Prop
  | .l a, xs => SqL K H a xs
  | .t a, xs => SqT K H a xs
  | .s x, xs => xs = x.cps.toList.map fun c => V.str ⟨#[c]⟩
def ItS (T : String) (u : Value) (it : Addr) (i : Nat) (h : Heap) : Prop := ∃ o, h.get? it = some o ∧ o.cls = .type T ∧ o.data = .fields #[u, .int i 0]
theorem ItS.at {T : String} {u : Value} {it : Addr} {i : Nat} {h h' : Heap} (st : ItS T u it i h) (k : ∀ o, h.get? it = some o → h'.get? it = some o) : ItS T u it i h' :=
  let ⟨o, e, r⟩ := st
  ⟨o, k o e, r⟩
def IterOf (u : Value) (T : String) (h : Heap) : Prop :=
  (∃ l items, u = .ref l ∧ T = "list_iterator" ∧ h.IsList l items) ∨ (∃ l items, u = .ref l ∧ T = "tuple_iterator" ∧ h.IsTuple l items) ∨ ∃ x t, u = .str x t ∧ T = strIterType x
theorem IterOf.push {u : Value} {T : String} {h : Heap} (k : IterOf u T h) (o : Obj) : IterOf u T (h.push o) := by
  rcases k with ⟨l, is, e, e', k⟩ | ⟨l, is, e, e', k⟩ | k
  · exact .inl ⟨l, is, e, e', k.push _⟩
  · exact .inr (.inl ⟨l, is, e, e', k.push _⟩)
  · exact .inr (.inr k)
section
variable {prog : Program} {w : World} {A : Around} {E : Value → Shared → Prop} {s : Shared}
theorem iter_of {u : Value} {T : String} {Q : Value → Shared → Prop} (k : IterOf u T s.heap) (hQ : Q (.ref s.heap.objs.size) { s with heap := s.heap.push { cls := .type T, data := .fields #[u, .int 0 0] } }) :
    wpAny (model prog w) A (pyIter u) Q E s := by
  rcases k with ⟨l, is, e, e', k⟩ | ⟨l, is, e, e', k⟩ | ⟨x, t, e, e'⟩
  · subst e e'; exact wpAny_pyIter_list k hQ
  · subst e e'; exact wpAny_pyIter_tuple k hQ
  · subst e e'; exact wpAny_pyIter_strU hQ
end
abbrev zG1 (h : Heap) (T1 : String) (u1 : Value) : Heap := h.push { cls := .type T1, data := .fields #[u1, .int 0 0] }
abbrev zG2 (h : Heap) (T1 T2 : String) (u1 u2 : Value) : Heap := (zG1 h T1 u1).push { cls := .type T2, data := .fields #[u2, .int 0 0] }
abbrev zG3 (h : Heap) (T1 T2 : String) (u1 u2 : Value) : Heap := (zG2 h T1 T2 u1 u2).push { cls := .type "tuple", data := .seq #[.ref h.objs.size, .ref (zG1 h T1 u1).objs.size] }
abbrev zG4 (h : Heap) (T1 T2 : String) (u1 u2 : Value) : Heap := (zG3 h T1 T2 u1 u2).push { cls := .type "tuple", data := .seq #[.none, .none] }
abbrev zG5 (h : Heap) (T1 T2 : String) (u1 u2 : Value) : Heap := (zG4 h T1 T2 u1 u2).push { cls := .type "zip", data := .fields #[.none, .bool false, .bool false, .ref (zG2 h T1 T2 u1 u2).objs.size, .ref (zG3 h T1 T2 u1 u2).objs.size] }
theorem meets_zipG_new (T1 T2 : String) (u1 u2 : Value) :
    Meets (Builtin.«zip.__new__» ⟨[.type "zip", u1, u2], []⟩) (fun _ R s => IterOf u1 T1 s.heap ∧ IterOf u2 T2 s.heap ∧
      R (.ok (.ret (.ref (zG4 s.heap T1 T2 u1 u2).objs.size))) { s with heap := zG5 s.heap T1 T2 u1 u2 }) :=
  .of_wp fun prog w A R s h => by
    obtain ⟨hp, g, d, tk, os⟩ := s; obtain ⟨hl1, hl2, h⟩ := h
    have hsub := sub_zip
    have hL1 : IterOf u1 T1 (Shared.heap ⟨hp, g, d, tk, os⟩) := hl1
    have hL2 : IterOf u2 T2 (Shared.heap ⟨hp.push { cls := .type T1, data := .fields #[u1, .int 0 0] }, g, d, tk, os⟩) := hl2.push _
    wp_walk using iter_of hL1, iter_of hL2
    exact ⟨_, rfl, h⟩
section
variable {prog : Program} {w : World} {A : Around} {E : Value → Shared → Prop} {s : Shared}
theorem call_zipG {T1 T2 : String} {u1 u2 : Value} {Q : Value → Shared → Prop} (hl1 : IterOf u1 T1 s.heap) (hl2 : IterOf u2 T2 s.heap)
    (h : ∀ h', IsZip h' (s.heap.objs.size + 4) (s.heap.objs.size + 2) (s.heap.objs.size + 3) .none → IsPair h' (s.heap.objs.size + 2) (.ref s.heap.objs.size) (.ref (s.heap.objs.size + 1)) →
      IsPair h' (s.heap.objs.size + 3) .none .none → ItS T1 u1 s.heap.objs.size 0 h' → ItS T2 u2 (s.heap.objs.size + 1) 0 h' → h'.objs.size = s.heap.objs.size + 5 →
      (∀ c o, s.heap.get? c = some o → h'.get? c = some o) → Q (.ref (s.heap.objs.size + 4)) { s with heap := h' }) :
    wpAny (model prog w) A (call (.type "zip") [u1, u2]) Q E s := by
  refine callType_new F.called_zip (by decide) (F.typeCall_zip_2 _ _) (F.newCall_zip_2 _ _) (fun obj => F.args_object_init_3 obj _ _) F.entry_zip_new
    (meets_zipG_new T1 T2 u1 u2) ⟨hl1, hl2, ?_⟩
  have z1 : (zG1 s.heap T1 u1).objs.size = s.heap.objs.size + 1 := Heap.size_push ..
  have z2 : (zG2 s.heap T1 T2 u1 u2).objs.size = s.heap.objs.size + 2 := by rw [Heap.size_push, z1]
  have z3 : (zG3 s.heap T1 T2 u1 u2).objs.size = s.heap.objs.size + 3 := by rw [Heap.size_push, z2]
  have z4 : (zG4 s.heap T1 T2 u1 u2).objs.size = s.heap.objs.size + 4 := by rw [Heap.size_push, z3]
  have z5 : (zG5 s.heap T1 T2 u1 u2).objs.size = s.heap.objs.size + 5 := by rw [Heap.size_push, z4]
  have g5 : (zG5 s.heap T1 T2 u1 u2).get? (zG4 s.heap T1 T2 u1 u2).objs.size = some _ := Heap.get?_push_size _ rfl
  have g4 : (zG5 s.heap T1 T2 u1 u2).get? (zG3 s.heap T1 T2 u1 u2).objs.size = some _ := Heap.get?_push_of_some _ (Heap.get?_push_size _ rfl)
  have g3 : (zG5 s.heap T1 T2 u1 u2).get? (zG2 s.heap T1 T2 u1 u2).objs.size = some _ := Heap.get?_push_of_some _ (Heap.get?_push_of_some _ (Heap.get?_push_size _ rfl))
  have g2 : (zG5 s.heap T1 T2 u1 u2).get? (zG1 s.heap T1 u1).objs.size = some _ := Heap.get?_push_of_some _ (Heap.get?_push_of_some _ (Heap.get?_push_of_some _ (Heap.get?_push_size _ rfl)))
  have g1 : (zG5 s.heap T1 T2 u1 u2).get? s.heap.objs.size = some _ := Heap.get?_push_of_some _ (Heap.get?_push_of_some _ (Heap.get?_push_of_some _ (Heap.get?_push_of_some _ (Heap.get?_push_size _ rfl))))
  show _ ∧ _
  rw [z2, z3, z4] at g5
  rw [z1, z2] at g3
  rw [z3] at g4
  rw [z1] at g2
  rw [z4]
  exact ⟨⟨_, g5, rfl⟩, h _ g5 g3 g4 ⟨_, g1, rfl, rfl⟩ ⟨_, g2, rfl, rfl⟩ z5 fun c o x =>
    Heap.get?_push_of_some _ (Heap.get?_push_of_some _ (Heap.get?_push_of_some _ (Heap.get?_push_of_some _ (Heap.get?_push_of_some _ x))))⟩
theorem draws_tuple (hh : A.handled = none) (it l : Addr) (hne : l ≠ it) (items : Array Value) :
    Draws prog w A it [it, l] items.size (fun i v => items[i]? = some v) (fun i h => h.IsTupleIter it l i ∧ h.IsTuple l items) where
  live := fun _ _ st => let ⟨o, ho, _⟩ := st.1; ⟨o, ho⟩
  frame := fun _ _ _ st hk => ⟨st.1.at fun o e => hk it (by simp) o e, let ⟨o, ho, r⟩ := st.2; ⟨o, hk l (by simp) o ho, r⟩⟩
  item := fun i s Q E hi st hQ => by
    refine RZ.nextOf_tuple_item st.1 st.2 (x := items[i]) (by simp [hi]) fun h' hit' hs' => ?_
    exact hQ _ h' s.toks (by simp [hi]) ⟨hit', let ⟨o, ho, r⟩ := st.2; ⟨o, hs'.extBut _ _ hne ho, r⟩⟩ hs'
  done := fun s Q E st hE => RZ.nextOf_tuple_end hh st.1 st.2 (by simp) hE
end
theorem vals_back : ∀ {xs : List V} {us : List Value} {i : Nat} {u : Value}, Vals xs us → us[i]? = some u → ∃ x, xs[i]? = some x ∧ RelV x u
  | [], _, i, u, .nil, e => by simp at e
  | x :: xs, _, 0, u, .cons r _, e => by simp at e; subst e; exact ⟨x, rfl, r⟩
  | x :: xs, _, i + 1, u, .cons _ r, e => by simpa using vals_back r (by simpa using e)
theorem fpc {c it a : Addr} (h : c = it ∨ c = a) : c = it ∨ Value.ref a = .ref c := h.imp_right fun e => by rw [e]
theorem draws_of {X : Cx} {A : Around} {pins : List (Addr × Obj)} {σ : L2.St} {H : Hp} {s : Shared} (hh : A.handled = none) (I : Inv X pins σ H s) {k : Sk} {xs : List V} (ha : k.at X.K H xs) {u : Value} (r : RelV k.val u) {it : Addr} {i : Nat}
    (hne : ∀ a, u = .ref a → a ≠ it) (st : ItS k.ty u it i s.heap) :
    ∃ (fp : List Addr) (P : Nat → Value → Prop) (St : Nat → Heap → Prop), Draws X.prog X.w A it fp xs.length P St ∧ St i s.heap ∧ it ∈ fp ∧ (∀ c, c ∈ fp → c = it ∨ u = .ref c) ∧ (∀ j h', St j h' → ItS k.ty u it j h') ∧ ∀ v, P i v → ∃ x, xs[i]? = some x ∧ RelV x v := by
  cases k with
  | l a =>
    cases r
    obtain ⟨its, rv, p, _⟩ := I.list (show SqL X.K H a xs from ha)
    have e : xs.length = its.toArray.size := by rw [rv.length]; simp
    rw [e]
    refine ⟨_, _, _, Draws.list hh it a (hne a rfl) its.toArray, ⟨st, p.isList⟩, by simp, fun c hc => fpc (by simpa using hc), fun j h' q => q.1, fun v hv => ?_⟩
    exact vals_back rv (by simpa using hv)
  | t a =>
    cases r
    obtain ⟨its, rv, p, _⟩ := I.tuple (show SqT X.K H a xs from ha)
    have e : xs.length = its.toArray.size := by rw [rv.length]; simp
    rw [e]
    refine ⟨_, _, _, draws_tuple hh it a (hne a rfl) its.toArray, ⟨st, p⟩, by simp, fun c hc => fpc (by simpa using hc), fun j h' q => q.1, fun v hv => ?_⟩
    exact vals_back rv (by simpa using hv)
  | s x =>
    obtain ⟨tk, r⟩ := (show ∃ t, u = Value.str x t from r)
    subst r
    have hx : xs = x.cps.toList.map fun c => V.str ⟨#[c]⟩ := ha
    have e : xs.length = x.cps.size := by rw [hx]; simp
    rw [e]
    have fin : ∀ v, (∃ c u, x.cps[i]? = some c ∧ v = Value.str ⟨#[c]⟩ u) → ∃ y, xs[i]? = some y ∧ RelV y v := by
      rintro v ⟨c, u, hc, rfl⟩
      exact ⟨.str ⟨#[c]⟩, by rw [hx]; simp [hc], ⟨u, rfl⟩⟩
    cases hA : x.cps.all (· < 128)
    · have et : strIterType x = "str_iterator" := by simp [strIterType, hA]
      have st' : ItS (strIterType x) _ it i s.heap := st
      simp only [Sk.ty]
      rw [et] at st' ⊢
      exact ⟨_, _, _, Draws.strWide hh it x _, st', by simp, fun c hc => by simpa using hc, fun j h' q => q, fin⟩
    · have et : strIterType x = "str_ascii_iterator" := by simp [strIterType, hA]
      have st' : ItS (strIterType x) _ it i s.heap := st
      simp only [Sk.ty]
      rw [et] at st' ⊢
      exact ⟨_, _, _, Draws.strAscii hh it x _, st', by simp, fun c hc => by simpa using hc, fun j h' q => q, fin⟩

def ItG (K : PySem.W.Frag) (k1 k2 : Sk) : It :=
  ⟨fun i H => ∃ (xs ys : List V) (x y : V), k1.at K H xs ∧ k2.at K H ys ∧ xs[i]? = some x ∧ ys[i]? = some y,
    fun i H v H' => ∃ T x y, v = .ref T ∧ H T = none ∧ H' = upd H T (.tup [x, y]) ∧ (∀ xs, k1.at K H xs → xs[i]? = some x) ∧ ∀ ys, k2.at K H ys → ys[i]? = some y,
    fun i H => ∃ xs ys : List V, k1.at K H xs ∧ k2.at K H ys ∧ i = min xs.length ys.length⟩
theorem at_inj {X : Cx} {pins : List (Addr × Obj)} {σ : L2.St} {H : Hp} {s : Shared} (I : Inv X pins σ H s) : ∀ {k : Sk} {xs ys : List V}, k.at X.K H xs → k.at X.K H ys → xs = ys
  | .l _, _, _, h, h' => I.list_inj h h'
  | .t _, _, _, h, h' => I.tuple_inj h h'
  | .s _, _, _, h, h' => h.trans h'.symm
theorem sep_of {B : Nat} {u1 u2 : Value} {fp1 fp2 : List Addr} (h1 : ∀ a, u1 = .ref a → a < B) (h2 : ∀ a, u2 = .ref a → a < B) (m1 : B ∈ fp1) (m2 : B + 1 ∈ fp2) (f1 : ∀ c, c ∈ fp1 → c = B ∨ u1 = .ref c) (f2 : ∀ c, c ∈ fp2 → c = B + 1 ∨ u2 = .ref c) :
    ZipSep2 (B + 4) (B + 2) (B + 3) B (B + 1) fp1 fp2 := by
  have q1 : ∀ c, c ∈ fp1 → c = B ∨ c < B := fun c hc => (f1 c hc).imp_right fun e => h1 c e
  have q2 : ∀ c, c ∈ fp2 → c = B + 1 ∨ c < B := fun c hc => (f2 c hc).imp_right fun e => h2 c e
  have ne : ∀ (a b : Nat), a ≠ b → ((a : Addr) ≠ b) := fun _ _ h => h
  refine ⟨ne _ _ (by omega), ne _ _ (by omega), ne _ _ (by omega), ne _ _ (by omega), m1, fun h => ?_, fun h => ?_, ne _ _ (by omega), m2, fun h => ?_, fun h => ?_, fun h => ?_, fun h => ?_⟩
  · rcases q1 _ h with z | z
    · exact absurd z (ne _ _ (by omega))
    · exact absurd (show (B + 4 : Nat) < B from z) (by omega)
  · rcases q1 _ h with z | z
    · exact absurd z (ne _ _ (by omega))
    · exact absurd (show (B + 3 : Nat) < B from z) (by omega)
  · rcases q2 _ h with z | z
    · exact absurd z (ne _ _ (by omega))
    · exact absurd (show (B + 4 : Nat) < B from z) (by omega)
  · rcases q2 _ h with z | z
    · exact absurd z (ne _ _ (by omega))
    · exact absurd (show (B + 3 : Nat) < B from z) (by omega)
  · rcases q2 _ h with z | z
    · exact absurd z (ne _ _ (by omega))
    · exact absurd (show (B : Nat) < B from z) (by omega)
  · rcases q1 _ h with z | z
    · exact absurd z (ne _ _ (by omega))
    · exact absurd (show (B + 1 : Nat) < B from z) (by omega)
theorem turn_zipG {P : Program} {w : World} {K : PySem.W.Frag} {elts : List Expr} {kk : Nat} {tpos : Pos} {k1 k2 : Sk} {u1 u2 : Value} {B : Nat} (r1 : RelV k1.val u1) (r2 : RelV k2.val u2) (h1 : ∀ a, u1 = .ref a → a < B) (h2 : ∀ a, u2 = .ref a → a < B) :
    Turn P w K (.Tuple elts kk tpos) (ItG K k1 k2) [B + 4, B + 2, B + 3, B, B + 1] (B + 4) (fun i h => IsZip h (B + 4) (B + 2) (B + 3) .none ∧ IsPair h (B + 2) (.ref B) (.ref (B + 1)) ∧ (∃ x y, IsPair h (B + 3) x y) ∧ ItS k1.ty u1 B i h ∧ ItS k2.ty u2 (B + 1) i h) where
  mem := by simp
  obj := fun i h st c hc => by
    obtain ⟨hz, hTI, ⟨x, y, hTO⟩, ⟨o1, e1, _, d1⟩, ⟨o2, e2, _, d2⟩⟩ := st
    have e' : c = B + 4 ∨ c = B + 2 ∨ c = B + 3 ∨ c = B ∨ c = B + 1 := by simpa using hc
    rcases e' with q | q | q | q | q
    · rw [q]; exact ⟨_, hz, fun v q => nomatch q⟩
    · rw [q]; exact ⟨_, hTI, fun v q => nomatch q⟩
    · rw [q]; exact ⟨_, hTO, fun v q => nomatch q⟩
    · rw [q]; exact ⟨o1, e1, fun v q => by rw [d1] at q; cases q⟩
    · rw [q]; exact ⟨o2, e2, fun v q => by rw [d2] at q; cases q⟩
  keep := fun i h h' st k => by
    obtain ⟨hz, hTI, ⟨x, y, hTO⟩, h1, h2⟩ := st
    exact ⟨k (B + 4) (by simp) _ hz, k (B + 2) (by simp) _ hTI, ⟨x, y, k (B + 3) (by simp) _ hTO⟩, h1.at fun o q => k B (by simp) o q, h2.at fun o q => k (B + 1) (by simp) o q⟩
  item := by
    intro X hP hw hK hc i pins s σ H E I hf st hg
    subst hP hw hK
    obtain ⟨hz, hTI, ⟨x0, y0, hTO⟩, s1, s2⟩ := st
    obtain ⟨xs, ys, x, y, hqx, hqy, hx, hy⟩ := hg
    obtain ⟨fp1, P1, St1, D1, t1, m1, f1, b1, v1⟩ := draws_of (A := X.A.in1) (show X.A.in1.handled = none from I.ok.hd hc) I hqx r1 (fun a e => Nat.ne_of_lt (h1 a e)) s1
    obtain ⟨fp2, P2, St2, D2, t2, m2, f2, b2, v2⟩ := draws_of (A := X.A.in1) (show X.A.in1.handled = none from I.ok.hd hc) I hqy r2 (fun a e => Nat.ne_of_lt (Nat.lt_succ_of_lt (h2 a e))) s2
    have S := sep_of h1 h2 m1 m2 f1 f2
    have hzl : B + 4 < s.heap.objs.size := Heap.lt_size hz
    refine wpAny_pyNext_zipD2_item S D1 D2 hz hTI hTO t1 t2 (List.getElem?_eq_some_iff.mp hx).1 (List.getElem?_eq_some_iff.mp hy).1 fun w1 w2 h' tk p1 p2 z' TO' d1 d2 hT hsz hk => ?_
    obtain ⟨x', ex, rx⟩ := v1 w1 p1
    obtain ⟨y', ey, ry⟩ := v2 w2 p2
    have ex' : x = x' := Option.some.inj (hx.symm.trans ex)
    have ey' : y = y' := Option.some.inj (hy.symm.trans ey)
    subst ex' ey'
    refine ⟨_, rfl, wpAny_letOwnedTupleGo_zip (s := { s with heap := h', toks := tk }) z' fun h'' z'' sb => ?_⟩
    have hT2 : h''.get? s.heap.objs.size = some { cls := .type "tuple", data := .seq #[w1, w2] } := (sb.2 _ (Nat.ne_of_gt hzl)).trans hT
    have new : ObjOk X.prog X.w (upd H s.heap.objs.size (.tup [x, y])) h'' s.heap.objs.size (.tup [x, y]) :=
      ⟨by show 2 ≤ sizeLine; decide, [w1, w2], .cons rx (.cons ry .nil), ⟨_, hT2, rfl, _, rfl⟩⟩
    have I1 : Inv X pins σ (upd H s.heap.objs.size (.tup [x, y])) { s with heap := h'', toks := tk } :=
      I.turnedNew (t' := tk) (ch := [B + 4, B + 2, B + 3, B, B + 1]) (fun c o hb q => (sb.2 c (fun q' => hb (by simp [q']))).trans (hk c o (fun q' => hb (by simp [q'])) (fun q' => hb (by simp [q'])) (fun q' => hb (by simp [q'])) (fun q' => hb (by simp [q'])) q)) hf (Nat.le_refl _) new
    have ne : ∀ (a b : Nat), a ≠ b → ((a : Addr) ≠ b) := fun _ _ h => h
    refine ⟨.ref s.heap.objs.size, _, I1, rfl, ⟨_, x, y, rfl, I.hok.fresh (Nat.le_refl _), rfl, fun l hl => by rw [at_inj I hl hqx]; exact hx, fun l hl => by rw [at_inj I hl hqy]; exact hy⟩, ⟨z'', ?_, ⟨w1, w2, ?_⟩, ?_, ?_⟩, fun c hcm => ?_⟩
    · exact (sb.2 _ S.TIz).trans (hk _ _ S.TIz S.TITO S.TIi1 S.TIi2 hTI)
    · exact (sb.2 _ S.TOz).trans TO'
    · exact (b1 _ _ d1).at fun o q => (sb.2 _ (ne _ _ (by omega))).trans q
    · exact (b2 _ _ d2).at fun o q => (sb.2 _ (ne _ _ (by omega))).trans q
    · have hlt : c < s.heap.objs.size := by
        have e' : c = B + 4 ∨ c = B + 2 ∨ c = B + 3 ∨ c = B ∨ c = B + 1 := by simpa using hcm
        rcases e' with q | q | q | q | q
        · rw [q]; exact hzl
        · rw [q]; exact Heap.lt_size hTI
        · rw [q]; exact Heap.lt_size hTO
        · rw [q]; obtain ⟨_, e1, _⟩ := s1; exact Heap.lt_size e1
        · rw [q]; obtain ⟨_, e2, _⟩ := s2; exact Heap.lt_size e2
      rw [upd_ne (Nat.ne_of_lt hlt)]
      exact (hf c hcm).1
  done := by
    intro X hP hw hK hc i pins s σ H E I hf st hg
    subst hP hw hK
    obtain ⟨hz, hTI, ⟨x0, y0, hTO⟩, s1, s2⟩ := st
    obtain ⟨xs, ys, hqx, hqy, hend⟩ := hg
    obtain ⟨fp1, P1, St1, D1, t1, m1, f1, b1, v1⟩ := draws_of (A := X.A.in1) (show X.A.in1.handled = none from I.ok.hd hc) I hqx r1 (fun a e => Nat.ne_of_lt (h1 a e)) s1
    obtain ⟨fp2, P2, St2, D2, t2, m2, f2, b2, v2⟩ := draws_of (A := X.A.in1) (show X.A.in1.handled = none from I.ok.hd hc) I hqy r2 (fun a e => Nat.ne_of_lt (Nat.lt_succ_of_lt (h2 a e))) s2
    have S := sep_of h1 h2 m1 m2 f1 f2
    refine wpAny_pyNext_zipD2_end S D1 D2 hz hTI hTO t1 t2 (by rw [hend]; exact Nat.min_le_left _ _) (by rw [hend]; exact Nat.min_le_right _ _) (by rw [hend]; omega) fun h' tk hk => ⟨rfl, I.turnedL (t' := tk) (ch := [B + 4, B + 2, B + 3, B, B + 1]) (fun c o hb q =>
      hk c o (fun q' => hb (by simp [q'])) (fun q' => hb (by simp [q'])) (fun q' => hb (by simp [q'])) (fun q' => hb (by simp [q'])) q) hf⟩
  self := fun A i s Q E st h => wpAny_pyIter_zip st.1 h
def iZipG (K : PySem.W.Frag) (ta : TA) : TI := fun σ H R => ta σ H fun vs H1 => ∃ (k1 k2 : Sk) (xs ys : List V), vs = [k1.val, k2.val] ∧ k1.at K H1 xs ∧ k2.at K H1 ys ∧ R (ItG K k1 k2) H1
theorem iterOf_of {X : Cx} {pins : List (Addr × Obj)} {σ : L2.St} {H : Hp} {s : Shared} (I : Inv X pins σ H s) {k : Sk} {xs : List V} (ha : k.at X.K H xs) {u : Value} (r : RelV k.val u) : IterOf u k.ty s.heap ∧ ∀ a, u = .ref a → a < s.heap.objs.size := by
  cases k with
  | l a =>
    cases r
    obtain ⟨its, rv, p, _⟩ := I.list (show SqL X.K H a xs from ha)
    exact ⟨.inl ⟨a, _, rfl, rfl, p.isList⟩, fun b e => by cases e; exact p.lt⟩
  | t a =>
    cases r
    obtain ⟨its, rv, p, _⟩ := I.tuple (show SqT X.K H a xs from ha)
    obtain ⟨o1, ho1, _⟩ := id p
    exact ⟨.inr (.inl ⟨a, _, rfl, rfl, p⟩), fun b e => by cases e; exact Heap.lt_size ho1⟩
  | s x =>
    obtain ⟨tk, r⟩ := (show ∃ t, u = Value.str x t from r)
    subst r
    exact ⟨.inr (.inr ⟨x, tk, rfl, rfl⟩), fun b e => by cases e⟩
theorem pi_zipG {X : Cx} {e e2 : Expr} {ta : TA} {p pos tpos : Pos} {elts : List Expr} {kk : Nat} (hg : Gl X "zip") (hm : X.mg "zip" = none) (ha : PA X [e, e2] ta)
    (hs : starEach [e, e2] X.env = (false, eval e X.env) :: starEach [e2] X.env := by rfl) (hpl : (backTo pos (starEach [e2] X.env)).any (·.1) = false := by rfl) :
    PI X (.Tuple elts kk tpos) (.Call (.Name "zip" p) [e, e2] [] pos) (iZipG X.K ta) := by
  refine ⟨fun pins s σ H R I h => ?_⟩
  refine Call_ (ld_blt I hg hm PyProof.Rows.boot_zip (PyProof.Rows.callWith_type1 (thn (ha.run pos pins s σ H _ I h) fun us s1 ⟨vs, H1, I1, r1, q1⟩ => ?_) hs hpl))
  obtain ⟨k1, k2, xs, ys, ex, hqx, hqy, q⟩ := q1
  subst ex
  cases r1 with
  | cons r rr =>
    cases rr with
    | cons r' rr =>
      cases rr
      have fresh5 : ∀ c, c ∈ [s1.heap.objs.size + 4, s1.heap.objs.size + 2, s1.heap.objs.size + 3, s1.heap.objs.size, s1.heap.objs.size + 1] → FpOk X pins H1 c := fun c hcm => by
        have e' : c = s1.heap.objs.size + 4 ∨ c = s1.heap.objs.size + 2 ∨ c = s1.heap.objs.size + 3 ∨ c = s1.heap.objs.size ∨ c = s1.heap.objs.size + 1 := by simpa using hcm
        have hle : s1.heap.objs.size ≤ c := by
          rcases e' with z | z | z | z | z
          · rw [z]; exact Nat.le_add_right _ _
          · rw [z]; exact Nat.le_add_right _ _
          · rw [z]; exact Nat.le_add_right _ _
          · rw [z]; exact Nat.le_refl _
          · rw [z]; exact Nat.le_add_right _ _
        exact I1.fpOk hle (I1.hok.fresh hle)
      obtain ⟨i1, l1⟩ := iterOf_of I1 hqx r
      obtain ⟨i2, l2⟩ := iterOf_of I1 hqy r'
      refine call_zipG i1 i2 fun h' hz hTI hTO h1 h2 hsz hk => wpAny_pyIter_zip hz ?_
      have I2 : Inv X pins σ H1 { s1 with heap := h' } := I1.kept (t' := s1.toks) hk
      exact ⟨s1.heap.objs.size + 4, [s1.heap.objs.size + 4, s1.heap.objs.size + 2, s1.heap.objs.size + 3, s1.heap.objs.size, s1.heap.objs.size + 1], _, _, H1, rfl, I2, turn_zipG r r' l1 l2, ⟨hz, hTI, ⟨_, _, hTO⟩, h1, h2⟩, fresh5, q⟩
def zipP : List PV → List PV → List PV
  | x :: xs, y :: ys => .tup [x, y] :: zipP xs ys
  | _, _ => []
theorem zipP_length : ∀ (xs ys : List PV), (zipP xs ys).length = min xs.length ys.length
  | [], ys => by simp [zipP]
  | x :: xs, [] => by simp [zipP]
  | x :: xs, y :: ys => by simp [zipP, zipP_length xs ys]
theorem zipP_get : ∀ (xs ys : List PV) (i : Nat) (p : PV), (zipP xs ys)[i]? = some p → ∃ x y, xs[i]? = some x ∧ ys[i]? = some y ∧ p = .tup [x, y]
  | [], ys, i, p, h => by simp [zipP] at h
  | x :: xs, [], i, p, h => by simp [zipP] at h
  | x :: xs, y :: ys, 0, p, h => by simp [zipP] at h; exact ⟨x, y, rfl, rfl, h.symm⟩
  | x :: xs, y :: ys, i + 1, p, h => by
    simp only [zipP, List.getElem?_cons_succ] at h ⊢
    exact zipP_get xs ys i p h
section
variable {K : KW} {H : Hp} {μ : Mu} {ps qs : List PV} {vs ws : List V}
theorem sup_zipG {k1 k2 : Sk} (t1 : ∀ μ' H', Gr μ H μ' H' → k1.at K H' vs) (t2 : ∀ μ' H', Gr μ H μ' H' → k2.at K H' ws) (r : VRs K H μ ps vs) (r' : VRs K H μ qs ws) : Sup K (ItG K k1 k2) (zipP ps qs) μ H := fun μ' H' st g sr => by
  have q1 := t1 μ' H' g
  have q2 := t2 μ' H' g
  refine ⟨fun i p hp => ?_, ⟨vs, ws, q1, q2, by rw [zipP_length, VRs.length r, VRs.length r']⟩⟩
  obtain ⟨x, y, h1, h2, rfl⟩ := zipP_get _ _ _ _ hp
  obtain ⟨u, e1, f1⟩ := VRs.get (VRs.mono g ps vs r) h1
  obtain ⟨w, e2, f2⟩ := VRs.get (VRs.mono g qs ws r') h2
  refine ⟨⟨vs, ws, u, w, q1, q2, e1, e2⟩, fun z H2 hz => ?_⟩
  obtain ⟨T, x', y', ex, hT, eh, hx, hy'⟩ := hz
  subst ex eh
  have ev : u = x' := Option.some.inj (e1.symm.trans (hx vs q1))
  have ew : w = y' := Option.some.inj (e2.symm.trans (hy' ws q2))
  subst ev ew
  refine ⟨gr_new hT, sr.new hT, ?_⟩
  refine (show ∃ a zs, V.ref T = .ref a ∧ TupAt K (upd H' T (.tup [u, w])) μ' a zs ∧ VRs K (upd H' T (.tup [u, w])) μ' [x, y] zs from ⟨T, _, rfl, ?_, VRs.cons (VR.mono (gr_new hT) _ _ f1) (VRs.cons (VR.mono (gr_new hT) _ _ f2) VRs.nil)⟩)
  exact .inl ⟨upd_same, sr.free hT⟩
end
def skOf : PV → Option (List PV)
  | .tup ps => some ps
  | .lst ps => some ps
  | .frz ps => some ps
  | .str x => some (x.map fun c => .str [c])
  | _ => none
theorem VRs.chars {K : PySem.W.Frag} {H : Hp} {μ : Mu} : ∀ (x : List Nat), VRs K H μ (x.map fun c => .str [c]) (x.map fun c => V.str ⟨#[c]⟩)
  | [] => rfl
  | c :: x => VRs.cons rfl (VRs.chars x)
theorem sk_at {K : PySem.W.Frag} {H : Hp} {μ : Mu} {p : PV} {v : V} {ps : List PV} (r : VR K H μ p v) (e : skOf p = some ps) : ∃ (k : Sk) (vs : List V), v = k.val ∧ (∀ μ' H', Gr μ H μ' H' → k.at K H' vs) ∧ VRs K H μ ps vs := by
  cases p <;> simp [skOf] at e
  case str x =>
    subst e
    cases (show v = V.str ⟨x.toArray⟩ from r)
    exact ⟨.s ⟨x.toArray⟩, x.map fun c => V.str ⟨#[c]⟩, rfl, fun _ _ _ => by show _ = _; simp, VRs.chars x⟩
  case tup xs =>
    subst e
    obtain ⟨a, vs, rfl, t, rs⟩ := tup_at r
    exact ⟨.t a, vs, rfl, fun _ _ g => (t.grow g).sq, rs⟩
  case lst xs =>
    subst e
    obtain ⟨a, vs, rfl, t, rs⟩ := lst_at r
    exact ⟨.l a, vs, rfl, fun _ _ g => (t.grow g).sq, rs⟩
  case frz xs =>
    subst e
    obtain ⟨a, vs, rfl, t, rs⟩ := frz_at r
    exact ⟨.l a, vs, rfl, fun _ _ g => (t.grow g).sq, rs⟩
def zipM (xs : List PV) : M (List PV) := match xs with
  | [p, q] => match skOf p, skOf q with
    | some ps, some qs => M.ret (zipP ps qs)
    | _, _ => M.fail
  | _ => M.fail
section
variable {X : Cx} {W : WX} {e e2 : Expr} {p pos : Pos} {ma : Rho → M (List PV)}
theorem mi_zip {tpos : Pos} {elts : List Expr} {kk : Nat} (hg : Gl X "zip") (hm : X.mg "zip" = none) (ha : MA X W [e, e2] ma)
    (hs : starEach [e, e2] X.env = (false, eval e X.env) :: starEach [e2] X.env := by kernel_rfl) (hpl : (backTo pos (starEach [e2] X.env)).any (·.1) = false := by kernel_rfl) :
    MI X W (.Tuple elts kk tpos) (.Call (.Name "zip" p) [e, e2] [] pos) (iCall zipM ma) :=
  PI.imp (pi_zipG hg hm ha hs hpl) fun σ H R ⟨μ, st, ρ, er, sr, h⟩ => ⟨μ, st, ρ, er, sr, (PostG.bind h).mono fun us H1 ⟨μ1, st1, xs, g1, s1, rxs, h1⟩ => by
    unfold zipM at h1
    split at h1
    · rename_i p q
      cases e1 : skOf p with
      | none => rw [e1] at h1; exact h1.elim
      | some ps =>
        cases e2 : skOf q with
        | none => rw [e1, e2] at h1; exact h1.elim
        | some qs =>
          rw [e1, e2] at h1
          obtain ⟨u, w, rfl, ru, rw'⟩ := two_of rxs
          obtain ⟨k1, vs, rfl, t1, r1⟩ := sk_at ru e1
          obtain ⟨k2, ws, rfl, t2, r2⟩ := sk_at rw' e2
          exact ⟨k1, k2, vs, ws, rfl, t1 _ _ (Gr.refl _ _), t2 _ _ (Gr.refl _ _), h1 μ1 H1 _ (Gr.refl _ _) s1 (sup_zipG t1 t2 r1 r2)⟩
    · exact h1.elim⟩
end
theorem fnOk_no {P : Program} {w : World} {K : PySem.W.Frag} {mg : Str → Option Value} {base : Heap} {k : Nat} {f : Addr} {fd : FuncData} {ps : List Str} {nn : Nat} : FnOk P w K mg base (L2.CX P w) k f fd ps (spM ⟨w, K⟩ (fun _ => M.fail) nn) :=
  ⟨fun vs H Q E h => let ⟨_, _, _, _, _, _, h⟩ := h; h.elim, fun _ _ _ _ _ _ _ _ _ _ _ _ _ h => let ⟨_, _, _, _, _, _, h⟩ := h; h.elim⟩
section
variable {X : Cx} {W : WX} {pos : Pos}
theorem me_call0 {x : Str} {f : Addr} {fd : FuncData} {ps : List Str} {k : Nat} {p : Pos} {mf : List PV → M PV} (F : FnOk X.prog X.w X.K X.mg X.base (L2.CX X.prog X.w) k f fd ps (spM (kw X) mf 0)) (hr : Room k X.A) (hg : Gl X x) (hm : X.mg x = some (.ref f))
    (hk : PySem.W.keepIn X.K (.ref f) = true) (hb : Binds X.K fd ps []) (tk : Takes X W) (hdb : (x == ("__debug__" : Str)) = false := by kernel_rfl) :
    ME X W (.Call (.Name x p) [] [] pos) (eCall mf aNil) := by
  refine PE.imp (t := fun σ H Q => spM (kw X) mf 0 [] H Q (WE W σ)) ⟨fun pins s σ H Q I h => ?_⟩ fun σ H Q ⟨μ, st, ρ, er, sr, h⟩ => ⟨μ, st, [], sr, VRs.nil, rfl, h⟩
  refine wpAny_Call_Name_kw (ld_glob I hg hm ?_ hdb)
  exact PySem.W.callWith_K0 I.kIn hk (run_fnSD (us := []) (vs := []) (dvs := []) (ds := []) (E := WE W) F hr hb .nil (passAt tk σ) I .nil h)
end
end MP

set_option maxRecDepth 100000
set_option maxHeartbeats 1000000
namespace MP
open PySem L2
def forG (G : Sto → Bool) (g : GM) (b : Rho → M Fl) : List PV → Rho → M Fl
  | [], ρ => fun st => if G st = true then .ok (.next ρ) st else .bad
  | p :: ps, ρ => fun st => if G st = true then onErr ρ (g p ρ) (fun ρ1 => turnL (forG G g b ps) (b ρ1)) st else .bad
def SupG (K : KW) (J : It) (ps : List PV) (G : Sto → Bool) (μ0 : Mu) (H0 : Hp) : Prop :=
  ∀ μ H st, Gr μ0 H0 μ H → SR K μ st H → G st = true → (∀ (i : Nat) (p : PV), ps[i]? = some p → J.go i H ∧ ∀ x H', J.yld i H x H' → Gr μ H μ H' ∧ SR K μ st H' ∧ VR K H' μ p x) ∧ J.stop ps.length H
theorem PostS.ifG {K : KW} {W : WX} {D : Ends} {μ : Mu} {H : Hp} {c : Bool} {r : Res Fl} (h : PostS K W D μ H (if c = true then r else .bad)) : c = true ∧ PostS K W D μ H r := by
  cases c with
  | true => exact ⟨rfl, h⟩
  | false => exact h.elim
theorem PostG.ifG {α β : Type} {K : KW} {E : XK} {R : Hp → Mu → α → β → Prop} {Q : β → Hp → Prop} {μ : Mu} {H : Hp} {c : Bool} {r : Res α} (h : PostG K E R Q μ H (if c = true then r else .bad)) : c = true ∧ PostG K E R Q μ H r := by
  cases c with
  | true => exact ⟨rfl, h⟩
  | false => exact h.elim
theorem for_impG {K : KW} {W : WX} {D : Ends} {J : It} {ps : List PV} {G : Sto → Bool} {g : GM} {b : Rho → M Fl} {μ : Mu} {H : Hp} {σ : St} {ρ : Rho} {st : Sto} (su : SupG K J ps G μ H) (er : ER K H μ ρ σ) (sr : SR K μ st H) (h : PostS K W D μ H (forG G g b ps ρ st)) :
    ∃ V : Nat → Nat → St → Hp → Prop, (∃ m, V 0 m σ H) ∧ ∀ i m σ H, V i m σ H →
      (J.stop i H ∧ D.nx σ H) ∨ (J.go i H ∧ ∃ N : St → Hp → Prop, (∀ σ' H', N σ' H' → ∃ m', m' < m ∧ V (i + 1) m' σ' H') ∧ ∀ x H', J.yld i H x H' → tMG K W g x σ H' fun σ2 H2 => tMS K W b { D with nx := N, ct := N, bk := D.nx } σ2 H2) := by
  refine ⟨fun i m σ' H' => m = ps.length - i ∧ i ≤ ps.length ∧ ∃ μ' st' ρ', Gr μ H μ' H' ∧ ER K H' μ' ρ' σ' ∧ SR K μ' st' H' ∧ PostS K W D μ' H' (forG G g b (ps.drop i) ρ' st'), ⟨ps.length, by simp, Nat.zero_le _, μ, st, ρ, Gr.refl _ _, er, sr, by rw [List.drop_zero]; exact h⟩, ?_⟩
  rintro i m σ1 H1 ⟨rfl, hi, μ1, st1, ρ1, g1, e1, s1, h1⟩
  by_cases hlt : i < ps.length
  · have hp : ps[i]? = some ps[i] := by simp [hlt]
    rw [List.drop_eq_getElem_cons hlt] at h1
    unfold forG at h1
    obtain ⟨hG, h1⟩ := PostS.ifG h1
    obtain ⟨go, yl⟩ := (su μ1 H1 st1 g1 s1 hG).1 i ps[i] hp
    refine .inr ⟨go, fun σ' H' => ∃ μ' st' ρ', Gr μ H μ' H' ∧ ER K H' μ' ρ' σ' ∧ SR K μ' st' H' ∧ PostS K W D μ' H' (forG G g b (ps.drop (i + 1)) ρ' st'), fun σ' H' q => ⟨ps.length - (i + 1), by omega, rfl, hlt, q⟩, fun x H' y => ?_⟩
    obtain ⟨g2, s2, rx⟩ := yl x H' y
    refine ⟨μ1, st1, ρ1, ps[i], e1.mono g2, s2, rx, (PostS.onErr (PostS.grow h1 g2) (e1.mono g2)).mono fun σ3 H3 ⟨μ3, st3, ρ3, g3, s3, e3, h3⟩ => ⟨μ3, st3, ρ3, e3, s3, ?_⟩⟩
    have gg := (g1.trans g2 fun a m => (s2.ban a m).1).trans g3 fun a m => (s3.ban a m).1
    unfold turnL at h3
    cases q : b ρ3 st3 with
    | ok f st' =>
      rw [q] at h3
      cases f with
      | next ρ' => exact fun μ' H' σ' g4 s4 e4 => ⟨μ', st', ρ', gg.trans g4 (fun a m => (s4.ban a m).1), e4, s4, PostS.grow h3 g4⟩
      | cont ρ' => exact fun μ' H' σ' g4 s4 e4 => ⟨μ', st', ρ', gg.trans g4 (fun a m => (s4.ban a m).1), e4, s4, PostS.grow h3 g4⟩
      | brk ρ' => exact h3
      | ret p => exact h3
      | exc x ρ' => exact h3
    | err x st' => rw [q] at h3; exact h3
    | bad => rw [q] at h3; exact h3
  · have e : i = ps.length := by omega
    subst e
    rw [List.drop_length] at h1
    unfold forG at h1
    obtain ⟨hG, h1⟩ := PostS.ifG h1
    exact .inl ⟨(su μ1 H1 st1 g1 s1 hG).2, h1 μ1 H1 σ1 (Gr.refl _ _) s1 e1⟩
def gd (n : Nat) (xs : List PV) (st : Sto) : Bool := match st[n]? with
  | some (.lst ys) => decide (ys = xs)
  | _ => false
def atCell (v : PV) : M (Nat × List PV) := fun st => match v with
  | .loc n => match st[n]? with
    | some (.lst xs) => .ok (n, xs) st
    | _ => .bad
  | _ => .bad
def iCell (m : Rho → M PV) : Rho → M (Nat × List PV) := fun ρ => M.bind (m ρ) atCell
def tMIC (K : KW) (W : WX) (f : List PV → List PV) (m : Rho → M (Nat × List PV)) : TI := fun σ H R => ∃ μ st ρ, ER K H μ ρ σ ∧ SR K μ st H ∧ PostG K (fun c d H' => W c d σ H') (fun H μ nx (J : It) => SupG K J (f nx.2) (gd nx.1 nx.2) μ H) R μ H (m ρ st)
def MIC (X : Cx) (W : WX) (tg iter : Expr) (f : List PV → List PV) (m : Rho → M (Nat × List PV)) : Prop := PI X tg iter (tMIC (kw X) W f m)
def enumP (xs : List PV) : List PV := xs.mapIdx fun i p => .tup [.int (i : Nat), p]
theorem gd_at {n : Nat} {xs : List PV} {st : Sto} (h : gd n xs st = true) : st[n]? = some (.lst xs) := by
  unfold gd at h
  split at h
  · rename_i ys e
    rw [e, of_decide_eq_true h]
  · cases h
theorem sup_cell {K : KW} {H : Hp} {μ : Mu} {a : Addr} {n : Nat} {xs : List PV} (ha : μ.l[n]? = some a) : SupG K (Itl K a) xs (gd n xs) μ H := fun μ' H' st g sr hG => by
  obtain ⟨vs, q0, r⟩ := sr.cell n _ a (gd_at hG) (g.get ha)
  have q : SqL K H' a vs := SqL.of q0
  refine ⟨fun i p hp => ?_, ⟨vs, q, by rw [VRs.length r]; exact Nat.le_refl _⟩⟩
  obtain ⟨v, e1, e2⟩ := VRs.get r hp
  refine ⟨⟨vs, v, q, e1⟩, fun x H2 ⟨eh, y⟩ => ?_⟩
  subst eh
  have ex : v = x := Option.some.inj (e1.symm.trans (y vs q))
  subst ex
  exact ⟨Gr.refl _ _, sr, e2⟩
theorem PostG.tieA {K : KW} {E : XK} {Q : V → Hp → Prop} {Q' : List V → Hp → Prop} {μ : Mu} {H : Hp} {m : M PV} {st : Sto} (h : PostG K E (VR K) Q μ H (m st)) (i : ∀ u H1, Q u H1 → Q' [u] H1) : PostG K E (VRs K) Q' μ H (M.bind m (fun x => M.bind (M.ret []) fun xs => M.ret (x :: xs)) st) := by
  unfold M.bind
  cases q : m st with
  | ok a s' =>
    rw [q] at h
    intro μ1 H1 us g s r
    obtain ⟨u, rfl, ru⟩ := one_of r
    exact i _ _ (h μ1 H1 u g s ru)
  | err x s' => rw [q] at h; exact h
  | bad => rw [q] at h; exact h.elim
section
variable {X : Cx} {W : WX} {tg e : Expr} {me : Rho → M PV}
theorem mic_cell (he : ME X W e me) : MIC X W tg e id (iCell me) := PI.imp (pi_list he) fun σ H R ⟨μ, st, ρ, er, sr, h⟩ => ⟨μ, st, ρ, er, sr, (PostG.bind h).mono fun u H1 ⟨μ1, st1, v, g1, s1, rv, h1⟩ => by
  unfold atCell at h1
  cases v with
  | loc n =>
    dsimp only at h1
    cases q : st1[n]? with
    | none => rw [q] at h1; exact h1.elim
    | some c =>
      rw [q] at h1
      cases c with
      | lst xs =>
        obtain ⟨a, rfl, ha⟩ := loc_at rv
        obtain ⟨vs, q0, r⟩ := s1.cell n _ a q ha
        exact ⟨a, rfl, ⟨vs, SqL.of q0⟩, h1 μ1 H1 _ (Gr.refl _ _) s1 (sup_cell ha)⟩
      | dct kvs => exact h1.elim
      | ins C fs => exact h1.elim
      | dcl kvs => exact h1.elim
      | dcn kvs => exact h1.elim
      | lck kvs => exact h1.elim
  | _ => exact h1.elim⟩
theorem sup_cellE {K : KW} {H : Hp} {μ : Mu} {a : Addr} {n : Nat} {xs : List PV} (ha : μ.l[n]? = some a) : SupG K (Ite K a) (enumP xs) (gd n xs) μ H := fun μ' H' st g sr hG => by
  obtain ⟨vs, q0, r⟩ := sr.cell n _ a (gd_at hG) (g.get ha)
  have q : SqL K H' a vs := SqL.of q0
  refine ⟨fun i p hp => ?_, ⟨vs, q, by unfold enumP; rw [List.length_mapIdx, VRs.length r]; exact Nat.le_refl _⟩⟩
  unfold enumP at hp
  rw [List.getElem?_mapIdx] at hp
  cases hq : xs[i]? with
  | none => rw [hq] at hp; cases hp
  | some p0 =>
    rw [hq] at hp
    cases hp
    obtain ⟨v, e1, e2⟩ := VRs.get r hq
    refine ⟨⟨vs, v, q, e1⟩, fun x H2 ⟨T, y, ex, hT, eh, hy⟩ => ?_⟩
    subst ex eh
    have ev : v = y := Option.some.inj (e1.symm.trans (hy vs q))
    subst ev
    refine ⟨gr_new hT, sr.new hT, ?_⟩
    refine (show ∃ a ws, V.ref T = .ref a ∧ TupAt K (upd H' T (.tup [.int (i : Nat), v])) μ' a ws ∧ VRs K (upd H' T (.tup [.int (i : Nat), v])) μ' [.int (i : Nat), p0] ws from ⟨T, _, rfl, ?_, VRs.cons rfl (VRs.cons (VR.mono (gr_new hT) _ _ e2) VRs.nil)⟩)
    exact .inl ⟨upd_same, sr.free hT⟩
theorem mic_enum {p pos tpos : Pos} {elts : List Expr} {kk : Nat} (hg : Gl X "enumerate") (hm : X.mg "enumerate" = none) (he : ME X W e me) (hs : starEach [e] X.env = [(false, eval e X.env)] := by kernel_rfl) :
    MIC X W (.Tuple elts kk tpos) (.Call (.Name "enumerate" p) [e] [] pos) enumP (iCell me) := PI.imp (pi_enum hg hm (ma_cons he ma_nil hs) hs) fun σ H R ⟨μ, st, ρ, er, sr, h⟩ => ⟨μ, st, ρ, er, sr, by
  have h0 := (PostG.bind (R' := VR X.K) h)
  unfold aCons
  refine PostG.tieA h0 fun u H1 ⟨μ1, st1, v, g1, s1, rv, h1⟩ => ?_
  unfold atCell at h1
  cases v with
  | loc n =>
    dsimp only at h1
    cases q : st1[n]? with
    | none => rw [q] at h1; exact h1.elim
    | some c =>
      rw [q] at h1
      cases c with
      | lst xs =>
        obtain ⟨a, rfl, ha⟩ := loc_at rv
        obtain ⟨vs, q0, r⟩ := s1.cell n _ a q ha
        exact ⟨a, vs, rfl, SqL.of q0, h1 μ1 H1 _ (Gr.refl _ _) s1 (sup_cellE ha)⟩
      | dct kvs => exact h1.elim
      | ins C fs => exact h1.elim
      | dcl kvs => exact h1.elim
      | dcn kvs => exact h1.elim
      | lck kvs => exact h1.elim
  | _ => exact h1.elim⟩
variable {pos : Pos} {m : Rho → M Fl}
def sForC (f : List PV → List PV) (mi : Rho → M (Nat × List PV)) (g : GM) (b : Rho → M Fl) : Rho → M Fl := fun ρ => onErr ρ (mi ρ) fun nx => forG (gd nx.1 nx.2) g b (f nx.2) ρ
theorem ms_forC {f : List PV → List PV} {iter : Expr} {body : List Stmt} {mi : Rho → M (Nat × List PV)} {g : GM} (hp : PassesOwn (model X.prog X.w) X.A X.env X.xe) (hc : X.calm = true) (hi : MIC X W tg iter f mi) (hg : MG X W tg g) (hb : MSs X W body m)
    (hs : ∀ x, foldedSetIterable iter X.env x = pure x := by intro _; kernel_rfl) : MS X W (.For tg iter body [] pos) (sForC f mi g m) :=
  PS.imp (ps_for hp hc hi hg hb hs) fun D σ H ⟨μ, st, ρ, er, sr, h⟩ => ⟨μ, st, ρ, er, sr, (PostS.onErr h er).mono fun J H1 ⟨μ1, st1, nx, g1, s1, su, h1⟩ => for_impG su (er.mono g1) s1 h1⟩
end
def lcG (G : Sto → Bool) (g : GM) (t : Rho → M Bool) (e : Rho → M PV) (ρ0 : Rho) : List PV → List PV → M (List PV)
  | [], acc => fun st => if G st = true then .ok acc st else .bad
  | p :: ps, acc => fun st => if G st = true then (M.bind (M.calm (g p ρ0)) fun ρ1 => M.bind (M.calm (t ρ1)) fun c => if c = true then M.bind (M.calm (e ρ1)) fun y => if acc.length < SZ then lcG G g t e ρ0 ps (acc ++ [y]) else M.fail else lcG G g t e ρ0 ps acc) st else .bad
theorem bind_ifG {α β : Type} {G : Sto → Bool} {m : M α} {k : α → M β} : M.bind (fun st => if G st = true then m st else .bad) k = fun st => if G st = true then M.bind m k st else .bad := by
  funext st
  unfold M.bind
  dsimp only
  cases G st <;> rfl
theorem lc_impG {K : KW} {E : XK} {Q : VK} {J : It} {ps : List PV} {G : Sto → Bool} {g0 : TG} {g : GM} {t : Rho → M Bool} {e : Rho → M PV} {k : List PV → M PV} {vs : List Nat} {μ : Mu} {H : Hp} {σ : St} {ρ : Rho} {st : Sto} {D : Addr} (su : SupG K J ps G μ H) (er : ER K H μ ρ σ) (sr : SR K μ st H) (tg : TGo K vs g0 g) (le : LcEnd K k)
    (hD : H D = none) (h : PostG K E (VR K) Q μ H (M.bind (lcG G g t e (wipeP ρ vs) ps []) k st)) :
    ∃ V : Nat → Nat → Hp → Prop, (∃ m, V 0 m (upd H D (.lst []))) ∧ ∀ i m H, V i m H →
      (J.stop i H ∧ Q (.ref D) H) ∨ (J.go i H ∧ ∃ Nx : Hp → Prop, (∀ H', Nx H' → ∃ m', m' < m ∧ V (i + 1) m' H') ∧ ∀ x H', J.yld i H x H' → g0 x (L2.wipe σ vs) H' fun σ2 H2 => L2.wipe σ2 vs = L2.wipe σ vs ∧ tMT K W0 t σ2 H2 fun b H3 =>
        if b = true then tM K W0 e σ2 H3 fun y H4 => ∃ acc, H4 D = some (.lst acc) ∧ acc.length < sizeLine ∧ Nx (upd H4 D (.lst (acc ++ [y]))) else Nx H3) := by
  let P : Nat → Hp → Prop := fun i H' => ∃ μ' st' acc va, Gr μ H μ' H' ∧ SR K μ' st' H' ∧ D ∈ μ'.b ∧ H' D = some (.lst va) ∧ VRs K H' μ' acc va ∧ PostG K E (VR K) Q μ H (M.bind (lcG G g t e (wipeP ρ vs) (ps.drop i) acc) k st')
  refine ⟨fun i m H' => m = ps.length - i ∧ i ≤ ps.length ∧ P i H', ⟨ps.length, by simp, Nat.zero_le _, ?_⟩, ?_⟩
  · have gb : Gr μ H (μ.bar D) (upd H D (.lst [])) := ⟨⟨[], by simp [Mu.bar]⟩, fun a m => List.mem_cons_of_mem _ m, fun a m => by
      rcases List.mem_cons.mp m with z | z
      · rw [z]; exact .inr hD
      · exact .inl z, fun a m => .inl m, fun a o q _ => by rw [upd_ne (ne_of_none q hD)]; exact q, fun a o u q => by rw [upd_ne (ne_of_none q hD)]; exact q⟩
    refine ⟨μ.bar D, st, [], [], gb, ?_, List.mem_cons_self, upd_same, rfl, by rw [List.drop_zero]; exact h⟩
    refine ⟨sr.len, sr.nd, fun a m => ?_, fun n c a e1 e2 => (sr.cell n c a e1 e2).mono gb (upd_ne fun z => ?_)⟩
    · rcases List.mem_cons.mp m with z | z
      · subst z
        exact ⟨fun q => sr.free hD (.inl q), _, upd_same⟩
      · obtain ⟨n1, o, q⟩ := sr.ban a z
        exact ⟨n1, o, by rw [upd_ne (ne_of_none q hD)]; exact q⟩
    · obtain ⟨u, q⟩ := (sr.cell n c a e1 e2).has
      rw [z, hD] at q; cases q
  · rintro i m H1 ⟨rfl, hi, μ1, st1, acc, va, g1, s1, b1, d1, r1, h1⟩
    by_cases hlt : i < ps.length
    · have hp : ps[i]? = some ps[i] := by simp [hlt]
      rw [List.drop_eq_getElem_cons hlt] at h1
      unfold lcG at h1
      rw [bind_ifG] at h1
      obtain ⟨hG, h1⟩ := PostG.ifG h1
      obtain ⟨go, yl⟩ := (su μ1 H1 st1 g1 s1 hG).1 i ps[i] hp
      refine .inr ⟨go, P (i + 1), fun H' q => ⟨ps.length - (i + 1), by omega, rfl, hlt, q⟩, fun x H2 y => ?_⟩
      obtain ⟨g2, s2, rx⟩ := yl x H2 y
      have gg2 := g1.trans g2 fun a m => (s2.ban a m).1
      rw [M.bind_assoc] at h1
      refine tg x _ H2 _ μ1 st1 _ ps[i] ((er.mono gg2).wipe vs) s2 rx ((PostG.calm (PostG.bindAt h1 gg2)).mono fun σ3 H3 ⟨μ3, st3, ρ3, g3, s3, ⟨e3, w3⟩, h3⟩ => ⟨w3.trans (wipe_wipe fun _ z => z), ?_⟩)
      have gg3 := gg2.trans g3 fun a m => (s3.ban a m).1
      rw [M.bind_assoc] at h3
      refine ⟨μ3, st3, ρ3, e3, s3, (PostG.calm (PostG.bindAt h3 gg3)).mono fun c H4 ⟨μ4, st4, c', g4, s4, ec, h4⟩ => ?_⟩
      subst ec
      have gg4 := gg3.trans g4 fun a m => (s4.ban a m).1
      have keepD : ∀ {μa μb : Mu} {Ha Hb : Hp} {sa : Sto} {w : List V}, Gr μa Ha μb Hb → SR K μa sa Ha → D ∈ μa.b → Ha D = some (.lst w) → Hb D = some (.lst w) := fun g s m q => g.keep D _ q (s.ban D m).1
      have d2 := keepD g2 s1 b1 d1
      have b2 := g2.ban D b1
      have d3 := keepD g3 s2 b2 d2
      have b3 := g3.ban D b2
      have d4 := keepD g4 s3 b3 d3
      have b4 := g4.ban D b3
      have r4 : VRs K H4 μ4 acc va := VRs.mono g4 _ _ (VRs.mono g3 _ _ (VRs.mono g2 _ _ r1))
      cases c' with
      | false =>
        rw [if_neg Bool.false_ne_true] at h4 ⊢
        exact ⟨μ4, st4, acc, va, gg4, s4, b4, d4, r4, h4⟩
      | true =>
        rw [if_pos rfl] at h4 ⊢
        rw [M.bind_assoc] at h4
        refine ⟨μ4, st4, ρ3, e3.mono g4, s4, (PostG.calm (PostG.bindAt h4 gg4)).mono fun w H5 ⟨μ5, st5, py, g5, s5, rw5, h5⟩ => ?_⟩
        have gg5 := gg4.trans g5 fun a m => (s5.ban a m).1
        have d5 := keepD g5 s4 b4 d4
        have b5 := g5.ban D b4
        have r5 : VRs K H5 μ5 acc va := VRs.mono g5 _ _ r4
        by_cases hz : acc.length < SZ
        · rw [if_pos hz] at h5
          refine ⟨va, d5, by rw [← VRs.length r5, sz_eq]; exact hz, μ5, st5, acc ++ [py], va ++ [w], ?_, sr_bar b5 s5, b5, upd_same, VRs.monov (gv_bar b5) _ _ (VRs.append r5 (VRs.cons rw5 VRs.nil)), h5⟩
          exact ⟨gg5.pre, gg5.ban, gg5.bnew, gg5.new, fun a o q n => by rw [upd_ne (ne_of_none q hD)]; exact gg5.keep a o q n, fun a o u q => by rw [upd_ne (ne_of_none q hD)]; exact gg5.fz a o u q⟩
        · rw [if_neg hz] at h5
          exact h5.elim
    · have ei : i = ps.length := by omega
      subst ei
      rw [List.drop_length] at h1
      unfold lcG at h1
      rw [show (fun st => if G st = true then Res.ok acc st else Res.bad) = (fun st => if G st = true then M.ret acc st else .bad) from rfl, bind_ifG] at h1
      obtain ⟨hG, h1⟩ := PostG.ifG h1
      exact .inl ⟨(su μ1 H1 st1 g1 s1 hG).2, le μ μ1 st st1 H H1 D acc va E Q sr hD g1 s1 b1 d1 r1 h1⟩
def eLcC (f : List PV → List PV) (k : List PV → M PV) (mi : Rho → M (Nat × List PV)) (g : GM) (t : Rho → M Bool) (e : Rho → M PV) (vs : List Nat) : Rho → M PV := fun ρ => M.bind (mi ρ) fun nx => M.bind (lcG (gd nx.1 nx.2) g t e (wipeP ρ vs) (f nx.2) []) k
section
variable {X : Cx} {W : WX}
theorem lc_tieC {f : List PV → List PV} {mi : Rho → M (Nat × List PV)} {g0 : TG} {g : GM} {t : Rho → M Bool} {e : Rho → M PV} {k : List PV → M PV} {vs : List Nat} (tg : TGo (kw X) vs g0 g) (le : LcEnd (kw X) k) : ∀ σ H Q, tM (kw X) W (eLcC f k mi g t e vs) σ H Q → tLc (tMIC (kw X) W f mi) g0 (tMT (kw X) W0 t) (tM (kw X) W0 e) vs σ H Q :=
  fun σ H Q ⟨μ, st, ρ, er, sr, h⟩ => ⟨μ, st, ρ, er, sr, (PostG.bind h).mono fun J H1 ⟨μ1, st1, nx, g1, s1, su, h1⟩ D hD => lc_impG su (er.mono g1) s1 tg le hD h1⟩
theorem me_lcC {f : List PV → List PV} {elt tgt iter : Expr} {ifs : List Expr} {scope : Scope} {own : List (Str × Nat)} {pos : Pos} {mi : Rho → M (Nat × List PV)} {g0 : TG} {g : GM} {t : Rho → M Bool} {e : Rho → M PV} {k : List PV → M PV} (hc : X.calm = true) (hN : X.N.Nodup) (hi : MIC X W tgt iter f mi) (ok : BlkOk X.N X.env.scope scope own) (tg : TGo (kw X) (own.map (·.2)) g0 g) (le : LcEnd (kw X) k)
    (hg : ∀ (s : Shared) (H : Hp) (C : Addr) (cl : List (Str × Addr)) (fp : List Addr), PG (X.blk s H scope (compEnvC scope cl C X.env) fp) tgt g0)
    (ht : ∀ (s : Shared) (H : Hp) (C : Addr) (cl : List (Str × Addr)) (fp : List Addr), MTs (X.blk s H scope (compEnvC scope cl C X.env) fp) W0 ifs t)
    (he : ∀ (s : Shared) (H : Hp) (C : Addr) (cl : List (Str × Addr)) (fp : List Addr), ME (X.blk s H scope (compEnvC scope cl C X.env) fp) W0 elt e) (hs : ∀ x, foldedSetIterable iter X.env x = pure x := by intro _; kernel_rfl) :
    ME X W (.ListComp elt [⟨tgt, iter, ifs, 0⟩] scope pos) (eLcC f k mi g t e (own.map (·.2))) := PE.imp (pe_lc (tt := tMT (kw X) W0 t) (te := tM (kw X) W0 e) hc hN hi ok hg ht he hs) (lc_tieC tg le)
theorem ms_setLcC {f : List PV → List PV} {i : Nat} {y : Str} {py spos : Pos} {elt tgt iter : Expr} {ifs : List Expr} {scope : Scope} {own : List (Str × Nat)} {pos : Pos} {mi : Rho → M (Nat × List PV)} {g0 : TG} {g : GM} {t : Rho → M Bool} {e : Rho → M PV} {k : List PV → M PV} (hc : X.calm = true) (hN : X.N.Nodup) (hy : X.N[i]? = some y) (hyl : X.env.scope.names.lookup y = some .local)
    (hsw : swapsWith (.ListComp elt [⟨tgt, iter, ifs, 0⟩] scope pos) (some (.Name y py)) spos.line X.env = pure true) (hi : MIC X W tgt iter f mi) (ok : BlkOk X.N X.env.scope scope own) (tg : TGo (kw X) (own.map (·.2)) g0 g) (le : LcEnd (kw X) k)
    (hg : ∀ (s : Shared) (H : Hp) (C : Addr) (cl : List (Str × Addr)) (fp : List Addr), PG (X.blk s H scope (compEnvC scope cl C X.env) fp) tgt g0)
    (ht : ∀ (s : Shared) (H : Hp) (C : Addr) (cl : List (Str × Addr)) (fp : List Addr), MTs (X.blk s H scope (compEnvC scope cl C X.env) fp) W0 ifs t)
    (he : ∀ (s : Shared) (H : Hp) (C : Addr) (cl : List (Str × Addr)) (fp : List Addr), ME (X.blk s H scope (compEnvC scope cl C X.env) fp) W0 elt e) (hs : ∀ x, foldedSetIterable iter X.env x = pure x := by intro _; kernel_rfl) :
    MS X W (.Assign [.Name y py] (.ListComp elt [⟨tgt, iter, ifs, 0⟩] scope pos) spos) (sSet i (eLcC f k mi g t e (own.map (·.2)))) := PS.imp (ps_setLc (tt := tMT (kw X) W0 t) (te := tM (kw X) W0 e) hc hN hy hyl hsw hi ok hg ht he hs) fun D σ H ⟨μ, st, ρ, er, sr, h⟩ =>
      lc_tieC tg le σ H _ ⟨μ, st, ρ, er, sr, (PostS.onErr h er).mono fun u H1 ⟨μ1, st1, x, g1, s1, rx, h1⟩ => h1 μ1 H1 _ (Gr.refl _ _) s1 ((er.mono g1).set rx i)⟩
end
end MP

set_option maxRecDepth 100000
set_option maxHeartbeats 3200000
namespace MP
open PySem L2 PySem.Spec PyProof.Rows
def ddS {κ : Type} [DecidableEq κ] (acc : List κ) (k : κ) : List κ := if k ∈ acc then acc else acc ++ [k]
def dd {κ : Type} [DecidableEq κ] (l : List κ) : List κ := l.foldl ddS []
def mem1 {κ : Type} [DecidableEq κ] (l : List κ) (k : κ) : Bool := decide (k ∈ l)
section
variable {κ : Type} [DecidableEq κ]
theorem dd_snoc (l : List κ) (k : κ) : dd (l ++ [k]) = ddS (dd l) k := by simp [dd]
theorem ddS_len (l : List κ) (k : κ) : (ddS l k).length ≤ l.length + 1 := by unfold ddS; split <;> simp
theorem dd_len (l : List κ) : (dd l).length ≤ l.length := by
  have : ∀ (l acc : List κ), (l.foldl ddS acc).length ≤ acc.length + l.length := by
    intro l; induction l with
    | nil => intro acc; simp
    | cons k l ih => intro acc; have := ih (ddS acc k); have := ddS_len acc k; simp; omega
  have q := this l []
  simp only [List.length_nil, Nat.zero_add] at q
  exact q
theorem ddS_mem (l : List κ) (k j : κ) : mem1 (ddS l k) j = (mem1 l j || decide (j = k)) := by
  unfold ddS mem1
  by_cases h : k ∈ l
  · rw [if_pos h]
    by_cases e : j = k
    · subst e; simp [h]
    · simp [e]
  · rw [if_neg h]; simp
theorem ddS_count (l : List κ) (k : κ) : (ddS l k).length = if mem1 l k = true then l.length else l.length + 1 := by
  unfold ddS mem1
  by_cases h : k ∈ l <;> simp [h]
end
section
variable {prog : Program} {w : World} {A : Around} {R : Result → Shared → Prop} {it : Addr} {fp wr : List Addr} {G : Array GenState → Array GenState → Prop} {n : Nat} {P : Nat → Value → Prop} {St : Nat → Shared → Prop} {κ : Type} [DecidableEq κ] {knd : KeyKind prog w κ}
theorem set_stays {h h' : Heap} {a : Addr} {F : κ → Bool} {m : Nat} (x : h.SetOf knd a F m) (hk : ∀ o, h.get? a = some o → h'.get? a = some o) : h'.SetOf knd a F m := by
  obtain ⟨o, es, ep, tb, ho, rest⟩ := x
  exact ⟨o, es, ep, tb, hk o ho, rest⟩
theorem set_like {h : Heap} {a : Addr} {F F' : κ → Bool} {m m' : Nat} (x : h.SetOf knd a F m) (e : ∀ k, F k = F' k) (em : m = m') : h.SetOf knd a F' m' := by
  rw [← em, ← show F = F' from funext e]; exact x
theorem set_loop (W : WalksS prog w A.in1 it fp wr G n P St) (S : Addr) (nS : S ∉ fp) (ks : List κ) (hn : ks.length = n) (hv : ∀ i v, P i v → ∃ k, ks[i]? = some k ∧ knd.is k v = true ∧ v.scannable = true) (hb : n + 1 < scanBound) :
    ∀ (j i : Nat) (sh : Shared), n - i = j → i ≤ n → St i sh → sh.heap.SetOf knd S (mem1 (dd (ks.take i))) (dd (ks.take i)).length →
      (∀ s2, Moved (S :: wr) G sh s2 → s2.heap.SetOf knd S (mem1 (dd ks)) (dd ks).length → R (.ok (.ret .none)) s2) → codeAny (model prog w) A (.builtin "set.update.loop" ⟨[.ref S, .ref it], []⟩) R sh := by
  have nw : S ∉ wr := fun q => nS (W.sub _ q)
  have sb : ∀ b ∈ wr, b ∈ S :: wr := fun b q => List.mem_cons_of_mem _ q
  intro j
  induction j with
  | zero =>
    intro i sh hj hi st hS hR
    have ei : i = n := by omega
    subst ei
    rw [List.take_of_length_le (by omega)] at hS
    refine codeAny_builtin F.entry_set_update_loop ?_
    rw [Around.under_plainId F.plain_set_update_loop _]
    refine (show wpAny _ A.in1 (pyNext (.ref it) >>= _) _ _ sh from wpAny_bind (W.done sh _ _ st fun s2 mv => ?_))
    exact (show wpAny _ A.in1 (ret Value.none) _ _ s2 from wpAny_pure (hR s2 (mv.mono sb) (set_stays hS fun o ho => mv.heap S o nw ho)))
  | succ j ih =>
    intro i sh hj hi st hS hR
    have hlt : i < n := by omega
    refine codeAny_builtin F.entry_set_update_loop ?_
    rw [Around.under_plainId F.plain_set_update_loop _]
    refine (show wpAny _ A.in1 (pyNext (.ref it) >>= _) _ _ sh from wpAny_bind (W.item i sh _ _ hlt st fun v s2 hP st2 mv => ?_))
    obtain ⟨k, ek, isk, sck⟩ := hv i v hP
    have hS2 := set_stays hS (h' := s2.heap) fun o ho => mv.heap S o nw ho
    refine (show wpAny _ A.in1 (holding [v] (setAdd S v) >>= _) _ _ s2 from wpAny_bind (wpAny_holding ?_))
    unfold setAdd
    refine wpAny_holding (wpAny_bind (knd.pyHash isk ?_))
    have room : (dd (ks.take i)).length + 1 < scanBound := by
      have := dd_len (ks.take i)
      have := List.length_take_le i ks
      omega
    refine wpAny_setAddHashed_of (knd := knd) (s := { s2 with toks := s2.toks + 1 }) isk sck hS2 room fun h3 same hS3 => ?_
    have et : ks.take (i + 1) = ks.take i ++ [k] := by rw [List.take_succ, ek]; rfl
    have hS4 : h3.SetOf knd S (mem1 (dd (ks.take (i + 1)))) (dd (ks.take (i + 1))).length :=
      set_like hS3 (fun q => by rw [et, dd_snoc, ddS_mem]) (by rw [et, dd_snoc, ddS_count])
    refine wpAny_pure ⟨plainId_quiet F.plain_set_update_loop _, ih (i + 1) _ (by omega) hlt (W.frame _ s2 _ _ st2 (Nat.le_succ _) fun b hb o e => ?_) hS4 fun s5 mv5 hS5 => ?_⟩
    · rw [same.2 b (fun q => nS (by rw [← q]; exact hb))]; exact e
    · refine hR s5 (Moved.trans W.gtrans ((mv.mono sb).then_heap (Nat.le_succ _) fun b o hb e => ?_) mv5) hS5
      rw [same.2 b (fun q => hb (by rw [q]; exact List.mem_cons_self))]; exact e
end
section
variable {prog : Program} {w : World} {A : Around} {E : Value → Shared → Prop} {sh : Shared} {κ : Type} [DecidableEq κ] {knd : KeyKind prog w κ}
abbrev set0 (led : Bool) : Obj := { cls := .type "set", dict := none, data := .set #[] 0 (.fresh 0 0 led) }
theorem sub_tuple_set : isSubtype (.type "tuple") (.type "set") = pure false := by rw [isSubtype_type]; kernel_rfl
theorem sub_tuple_frozenset : isSubtype (.type "tuple") (.type "frozenset") = pure false := by rw [isSubtype_type]; kernel_rfl
theorem call_setList {l : Addr} {its : Array Value} {ks : List κ} {Q : Value → Shared → Prop} (hh : A.handled = none) (hl : sh.heap.IsList l its)
    (hn : ks.length = its.size) (hv : ∀ (i : Nat) (v : Value), its[i]? = some v → ∃ k, ks[i]? = some k ∧ knd.is k v = true ∧ v.scannable = true) (hb : its.size + 1 < scanBound)
    (hQ : ∀ (h' : Heap) (tk : Nat), h'.SetOf knd sh.heap.objs.size (mem1 (dd ks)) (dd ks).length → (∀ b o, b < sh.heap.objs.size → sh.heap.get? b = some o → h'.get? b = some o) → Q (.ref sh.heap.objs.size) { sh with heap := h', toks := tk }) :
    wpAny (model prog w) A (call (.type "set") [.ref l]) Q E sh := by
  obtain ⟨c0, tl0, hmro⟩ := F.called_set.mro
  have hmade := F.called_set.made
  have hsub := F.called_set.sub
  refine wpAny_call (codeAny_of_tree (show wpAny _ _ (callAny (.type "set") _) _ _ _ from wpAny_pure ⟨Code.quiet_builtin _ (by decide +kernel), codeAny_builtin F.entry_type_call ?_⟩))
  rw [Around.under_plain (weight_type_call_type "set" [.ref l] []) rfl]
  have h1 := F.called_set.notType
  have h2 := F.called_set.canCreate
  have hct := F.typeCall_set_1 (.ref l)
  repeat (any_goals (first | assumption | wp_step))
  refine codeAny_mono (code_set_new_1 (.ref l) (E := E) (Q₁ := fun ob s1 => ∃ led : Bool, ob = .ref sh.heap.objs.size ∧ s1 = { sh with heap := sh.heap.push (set0 led) }) fun led => ⟨led, rfl, rfl⟩) fun r s1 hr => ?_
  cases r with
  | error e => exact hr
  | ok fl =>
    cases fl with
    | ret ob =>
      obtain ⟨led, rfl, rfl⟩ := hr
      have hS : (sh.heap.push (set0 led)).get? sh.heap.objs.size = some (set0 led) := Heap.get?_push_size _ rfl
      have hT : Shared.TypeIs { sh with heap := sh.heap.push (set0 led) } (.ref sh.heap.objs.size) "set" := ⟨_, hS, rfl⟩
      have hli := F.called_set.init.lookup
      have hbi := F.called_set.init.bind (.ref sh.heap.objs.size)
      repeat (any_goals (first | assumption | wp_step))
      refine codeAny_mono (codeAny_call_builtin (R := wants (fun r s2 => r = .none ∧ ∃ h' tk, s2 = { sh with heap := h', toks := tk } ∧ h'.SetOf knd sh.heap.objs.size (mem1 (dd ks)) (dd ks).length ∧
          (∀ b o, b < sh.heap.objs.size → sh.heap.get? b = some o → h'.get? b = some o)) E) F.called_set.init.plain F.entry_set_init (check_set_init_1 hT ?_)) fun r2 s2 hr2 => ?_
      · obtain ⟨ol, hol, hcl, nl, hdl⟩ := hl
        obtain ⟨ocls, odict, odata, oslots⟩ := ol
        simp only at hcl hdl
        subst hcl; subst hdl
        have hol' : (sh.heap.push (set0 led)).get? l = some { cls := .type "list", dict := odict, data := .seq its nl, slots := oslots } := Heap.get?_push_of_some _ hol
        have hsls := F.sub_list_set
        have hslf := F.sub_list_frozenset
        have hne : (Value.type "list" == Value.type "dict") = false := by decide
        have hl1 : (sh.heap.push (set0 led)).IsList l its := ⟨_, hol', rfl, nl, rfl⟩
        unfold Builtin.«set.__init__» noKeywords Builtin.Frozenset.updateFrom
        generalize hPI : pyIter = PI
        wp_walk
        subst hPI
        refine wpAny_pyIter_list hl1 (wpAny_bind (wpAny_runValue ?_))
        have hlS : l < sh.heap.objs.size := Heap.lt_size hol
        have hh3 : A.in1.in1.in1.handled = none := by simp [hh]
        have hz : (sh.heap.push (set0 led)).objs.size = sh.heap.objs.size + 1 := Heap.size_push ..
        have hneI : l ≠ (sh.heap.push (set0 led)).objs.size := by rw [hz]; exact Nat.ne_of_lt (Nat.lt_succ_of_lt hlS)
        have hSf : sh.heap.objs.size ∉ [(sh.heap.push (set0 led)).objs.size, l] := by
          rw [hz]; simp only [List.mem_cons, List.mem_singleton, List.not_mem_nil, or_false, not_or]
          exact ⟨Nat.ne_of_lt (Nat.lt_succ_self _), Nat.ne_of_gt hlS⟩
        refine set_loop ((Walks.list hh3 _ l hneI its).toS) sh.heap.objs.size hSf ks hn hv hb (its.size - 0) 0 _ (by omega) (Nat.zero_le _) ⟨⟨_, Heap.get?_push_size _ rfl, rfl, rfl⟩, (hl1.push _)⟩ ?hS0 ?hR
        case hS0 =>
          have hget : ((sh.heap.push (set0 led)).push { cls := .type "list_iterator", data := .fields #[.ref l, .int 0 0] }).get? sh.heap.objs.size = some (set0 led) := Heap.get?_push_of_some _ hS
          exact set_like ((setObjOf_fresh (knd := knd) led).setOf hget (by unfold scanBound; omega)) (fun k => by simp [dd, mem1]) (by simp [dd])
        case hR =>
          intro s3 hm hS3
          obtain ⟨h3, g3, d3, tk3, os3⟩ := s3
          have eg : g3 = sh.gens := hm.gens
          have ed : d3 = sh.drawn := hm.drawn
          have eo : os3 = sh.os := hm.os
          subst eg; subst ed; subst eo
          refine (show wpAny _ _ _ _ _ _ from wpAny_pure (show wpAny _ _ (ret Value.none) _ _ _ from wpAny_pure ⟨rfl, h3, tk3, rfl, hS3, fun b o hb e => ?_⟩))
          have hb1 : b ≠ sh.heap.objs.size := Nat.ne_of_lt hb
          have hb2 : b ≠ (sh.heap.push (set0 led)).objs.size := by rw [hz]; exact Nat.ne_of_lt (Nat.lt_succ_of_lt hb)
          exact hm.heap b o (by simp only [List.mem_cons, List.mem_singleton, List.not_mem_nil, or_false, not_or]; exact ⟨hb1, hb2⟩) (Heap.get?_push_of_some _ (Heap.get?_push_of_some _ e))
      · cases r2 with
        | error e => exact hr2
        | ok fl2 =>
          cases fl2 with
          | ret r =>
            obtain ⟨rfl, h', tk, rfl, hS', hk'⟩ := hr2
            repeat (any_goals (first | assumption | wp_step))
            exact hQ _ _ hS' hk'
          | _ => exact hr2.elim
    | _ => exact hr.elim
theorem call_setTuple {l : Addr} {its : Array Value} {ks : List κ} {Q : Value → Shared → Prop} (hh : A.handled = none) (hl : sh.heap.IsTuple l its)
    (hn : ks.length = its.size) (hv : ∀ (i : Nat) (v : Value), its[i]? = some v → ∃ k, ks[i]? = some k ∧ knd.is k v = true ∧ v.scannable = true) (hb : its.size + 1 < scanBound)
    (hQ : ∀ (h' : Heap) (tk : Nat), h'.SetOf knd sh.heap.objs.size (mem1 (dd ks)) (dd ks).length → (∀ b o, b < sh.heap.objs.size → sh.heap.get? b = some o → h'.get? b = some o) → Q (.ref sh.heap.objs.size) { sh with heap := h', toks := tk }) :
    wpAny (model prog w) A (call (.type "set") [.ref l]) Q E sh := by
  obtain ⟨c0, tl0, hmro⟩ := F.called_set.mro
  have hmade := F.called_set.made
  have hsub := F.called_set.sub
  refine wpAny_call (codeAny_of_tree (show wpAny _ _ (callAny (.type "set") _) _ _ _ from wpAny_pure ⟨Code.quiet_builtin _ (by decide +kernel), codeAny_builtin F.entry_type_call ?_⟩))
  rw [Around.under_plain (weight_type_call_type "set" [.ref l] []) rfl]
  have h1 := F.called_set.notType
  have h2 := F.called_set.canCreate
  have hct := F.typeCall_set_1 (.ref l)
  repeat (any_goals (first | assumption | wp_step))
  refine codeAny_mono (code_set_new_1 (.ref l) (E := E) (Q₁ := fun ob s1 => ∃ led : Bool, ob = .ref sh.heap.objs.size ∧ s1 = { sh with heap := sh.heap.push (set0 led) }) fun led => ⟨led, rfl, rfl⟩) fun r s1 hr => ?_
  cases r with
  | error e => exact hr
  | ok fl =>
    cases fl with
    | ret ob =>
      obtain ⟨led, rfl, rfl⟩ := hr
      have hS : (sh.heap.push (set0 led)).get? sh.heap.objs.size = some (set0 led) := Heap.get?_push_size _ rfl
      have hT : Shared.TypeIs { sh with heap := sh.heap.push (set0 led) } (.ref sh.heap.objs.size) "set" := ⟨_, hS, rfl⟩
      have hli := F.called_set.init.lookup
      have hbi := F.called_set.init.bind (.ref sh.heap.objs.size)
      repeat (any_goals (first | assumption | wp_step))
      refine codeAny_mono (codeAny_call_builtin (R := wants (fun r s2 => r = .none ∧ ∃ h' tk, s2 = { sh with heap := h', toks := tk } ∧ h'.SetOf knd sh.heap.objs.size (mem1 (dd ks)) (dd ks).length ∧
          (∀ b o, b < sh.heap.objs.size → sh.heap.get? b = some o → h'.get? b = some o)) E) F.called_set.init.plain F.entry_set_init (check_set_init_1 hT ?_)) fun r2 s2 hr2 => ?_
      · obtain ⟨ol, hol, hcl, nl, hdl⟩ := hl
        obtain ⟨ocls, odict, odata, oslots⟩ := ol
        simp only at hcl hdl
        subst hcl; subst hdl
        have hol' : (sh.heap.push (set0 led)).get? l = some { cls := .type "tuple", dict := odict, data := .seq its nl, slots := oslots } := Heap.get?_push_of_some _ hol
        have hsls := sub_tuple_set
        have hslf := sub_tuple_frozenset
        have hne : (Value.type "tuple" == Value.type "dict") = false := by decide
        have hl1 : (sh.heap.push (set0 led)).IsTuple l its := ⟨_, hol', rfl, nl, rfl⟩
        unfold Builtin.«set.__init__» noKeywords Builtin.Frozenset.updateFrom
        generalize hPI : pyIter = PI
        wp_walk
        subst hPI
        refine wpAny_pyIter_tuple hl1 (wpAny_bind (wpAny_runValue ?_))
        have hlS : l < sh.heap.objs.size := Heap.lt_size hol
        have hh3 : A.in1.in1.in1.handled = none := by simp [hh]
        have hz : (sh.heap.push (set0 led)).objs.size = sh.heap.objs.size + 1 := Heap.size_push ..
        have hneI : l ≠ (sh.heap.push (set0 led)).objs.size := by rw [hz]; exact Nat.ne_of_lt (Nat.lt_succ_of_lt hlS)
        have hSf : sh.heap.objs.size ∉ [(sh.heap.push (set0 led)).objs.size, l] := by
          rw [hz]; simp only [List.mem_cons, List.mem_singleton, List.not_mem_nil, or_false, not_or]
          exact ⟨Nat.ne_of_lt (Nat.lt_succ_self _), Nat.ne_of_gt hlS⟩
        refine set_loop ((Walks.tuple hh3 _ l hneI its).toS) sh.heap.objs.size hSf ks hn hv hb (its.size - 0) 0 _ (by omega) (Nat.zero_le _) ⟨⟨_, Heap.get?_push_size _ rfl, rfl, rfl⟩, (hl1.push _)⟩ ?hS0 ?hR
        case hS0 =>
          have hget : ((sh.heap.push (set0 led)).push { cls := .type "tuple_iterator", data := .fields #[.ref l, .int 0 0] }).get? sh.heap.objs.size = some (set0 led) := Heap.get?_push_of_some _ hS
          exact set_like ((setObjOf_fresh (knd := knd) led).setOf hget (by unfold scanBound; omega)) (fun k => by simp [dd, mem1]) (by simp [dd])
        case hR =>
          intro s3 hm hS3
          obtain ⟨h3, g3, d3, tk3, os3⟩ := s3
          have eg : g3 = sh.gens := hm.gens
          have ed : d3 = sh.drawn := hm.drawn
          have eo : os3 = sh.os := hm.os
          subst eg; subst ed; subst eo
          refine (show wpAny _ _ _ _ _ _ from wpAny_pure (show wpAny _ _ (ret Value.none) _ _ _ from wpAny_pure ⟨rfl, h3, tk3, rfl, hS3, fun b o hb e => ?_⟩))
          have hb1 : b ≠ sh.heap.objs.size := Nat.ne_of_lt hb
          have hb2 : b ≠ (sh.heap.push (set0 led)).objs.size := by rw [hz]; exact Nat.ne_of_lt (Nat.lt_succ_of_lt hb)
          exact hm.heap b o (by simp only [List.mem_cons, List.mem_singleton, List.not_mem_nil, or_false, not_or]; exact ⟨hb1, hb2⟩) (Heap.get?_push_of_some _ (Heap.get?_push_of_some _ e))
      · cases r2 with
        | error e => exact hr2
        | ok fl2 =>
          cases fl2 with
          | ret r =>
            obtain ⟨rfl, h', tk, rfl, hS', hk'⟩ := hr2
            repeat (any_goals (first | assumption | wp_step))
            exact hQ _ _ hS' hk'
          | _ => exact hr2.elim
    | _ => exact hr.elim
end
def keysOf : List PV → Option (List Key)
  | [] => some []
  | p :: r => match keyOf p, keysOf r with
    | some k, some ks => some (k :: ks)
    | _, _ => none
theorem keysOf_at {K : PySem.W.Frag} {H : Hp} {μ : Mu} : ∀ {ps : List PV} {vs : List V} {ks : List Key}, VRs K H μ ps vs → keysOf ps = some ks → vs = ks.map kV
  | [], vs, ks, r, h => by cases h; exact r
  | p :: ps, vs, ks, r, h => by
    obtain ⟨v, t, rfl, r1, r2⟩ := (show ∃ v t, vs = v :: t ∧ VR K H μ p v ∧ VRs K H μ ps t from r)
    unfold keysOf at h
    cases q1 : keyOf p with
    | none => rw [q1] at h; cases h
    | some k =>
      cases q2 : keysOf ps with
      | none => rw [q1, q2] at h; cases h
      | some cs =>
        rw [q1, q2] at h
        cases h
        rw [List.map_cons, keysOf_at r2 q2, keyOf_kV q1 r1]
def lenSetM (x : PV) : M PV := fun st => match seqOf x st with
  | some xs => match keysOf xs with
    | some ks => if ks.length ≤ 1000 then .ok (.int ((dd ks).length : Nat)) st else .bad
    | none => .bad
  | none => .bad
theorem keys_items {ks : List Key} {us : List Value} (r : Vals (ks.map kV) us) {P : Program} {w : World} : ∀ (i : Nat) (v : Value), us.toArray[i]? = some v → ∃ k, ks[i]? = some k ∧ (mixKind P w).is k v = true ∧ v.scannable = true := by
  intro i v h
  have h' : us[i]? = some v := by simpa using h
  have hl := r.length
  rw [List.length_map] at hl
  have hi : i < ks.length := by rw [hl]; exact (List.getElem?_eq_some_iff.mp h').1
  obtain ⟨u, e1, e2⟩ := r.get (show (ks.map kV)[i]? = some (kV ks[i]) by simp [hi])
  have eu : u = v := Option.some.inj (e1.symm.trans h')
  subst eu
  exact ⟨ks[i], by simp [hi], kV_is e2, key_scan e2⟩
section
variable {X : Cx} {W : WX} {a : Expr} {ma : Rho → M PV} {p p2 q pos : Pos}
def tLenSetK (K : PySem.W.Frag) (ta : TE) : TE := fun σ H Q => ta σ H fun x H1 => ∃ (l : Addr) (ks : List Key), x = V.ref l ∧ (SqL K H1 l (ks.map kV) ∨ SqT K H1 l (ks.map kV)) ∧ ks.length ≤ 1000 ∧ Q (.int ((dd ks).length : Nat)) H1
theorem pe_lenSetK {ta : TE} (hc : X.calm = true) (hg : Gl X "len") (hm : X.mg "len" = none) (hg2 : Gl X "set") (hm2 : X.mg "set" = none) (ha : PE X a ta) (na : starEach [a] X.env = (false, eval a X.env) :: starEach [] X.env)
    (nb : starEach [.Call (.Name "set" p2) [a] [] q] X.env = (false, eval (.Call (.Name "set" p2) [a] [] q) X.env) :: starEach [] X.env) : PE X (.Call (.Name "len" p) [.Call (.Name "set" p2) [a] [] q] [] pos) (tLenSetK X.K ta) := by
  refine ⟨fun pins s σ H Q I h => Call_ (ld_blt I hg hm PySem.boot_len (callWith_builtin1 (args_cons (Call_ (ld_blt I hg2 hm2 boot_set ?_)) nb) nb rfl))⟩
  refine callWith_type1 (args_cons (thn (ha.run pins s σ H _ I h) fun v s1 ⟨x, H1, I1, r1, q1⟩ => args_nil ?_) na) na rfl
  obtain ⟨l, ks, rfl, hq, h1, q1⟩ := q1
  cases r1
  have fin : ∀ (h' : Heap) (tk : Nat), h'.SetOf (mixKind X.prog X.w) s1.heap.objs.size (mem1 (dd ks)) (dd ks).length → (∀ b o, b < s1.heap.objs.size → s1.heap.get? b = some o → h'.get? b = some o) →
      wpAny (model X.prog X.w) X.A (call (.builtin "len") [.ref s1.heap.objs.size]) (EP X pins σ Q) X.xe { s1 with heap := h', toks := tk } := fun h' tk hS hk => by
    obtain ⟨o, es, ep, t, ho, hex, hd, _, _, hsz, hf, hn⟩ := hS
    have I2 : Inv X pins σ H1 { s1 with heap := h', toks := tk } := I1.kept fun b o e => hk b o (Heap.lt_size e) e
    have := dd_len ks
    exact call_len_set ho hex hd hf (by rw [hn]; omega) ⟨.int ((dd ks).length : Nat), H1, I2.tok _, ⟨_, by rw [hn]⟩, q1⟩
  rcases hq with hq | hq
  · obtain ⟨its, r, pl, hz⟩ := I1.list hq
    have hl : its.toArray.size = ks.length := by rw [List.size_toArray, ← r.length, List.length_map]
    exact call_setList (I1.ok.hd hc) pl.isList hl.symm (keys_items r) (by rw [hl]; unfold scanBound; omega) fun h' tk hS hk => args_nil (fin h' tk hS hk)
  · obtain ⟨its, r, pl, hz⟩ := I1.tuple hq
    have hl : its.toArray.size = ks.length := by rw [List.size_toArray, ← r.length, List.length_map]
    exact call_setTuple (I1.ok.hd hc) pl hl.symm (keys_items r) (by rw [hl]; unfold scanBound; omega) fun h' tk hS hk => args_nil (fin h' tk hS hk)
theorem me_lenSet (hc : X.calm = true) (hg : Gl X "len") (hm : X.mg "len" = none) (hg2 : Gl X "set") (hm2 : X.mg "set" = none) (ha : ME X W a ma) (na : starEach [a] X.env = (false, eval a X.env) :: starEach [] X.env := by kernel_rfl)
    (nb : starEach [.Call (.Name "set" p2) [a] [] q] X.env = (false, eval (.Call (.Name "set" p2) [a] [] q) X.env) :: starEach [] X.env := by kernel_rfl) : ME X W (.Call (.Name "len" p) [.Call (.Name "set" p2) [a] [] q] [] pos) (eUn lenSetM ma) :=
  PE.imp (pe_lenSetK hc hg hm hg2 hm2 ha na nb) fun σ H Q ⟨μ, st, ρ, er, sr, h⟩ => ⟨μ, st, ρ, er, sr, (PostG.bind h).mono fun u H1 ⟨μ1, st1, x, g1, s1, rx, h1⟩ => by
    unfold lenSetM at h1
    cases q1 : seqOf x st1 with
    | none => rw [q1] at h1; exact h1.elim
    | some xs =>
      rw [q1] at h1
      dsimp only at h1
      cases q2 : keysOf xs with
      | none => rw [q2] at h1; exact h1.elim
      | some ks =>
        rw [q2] at h1
        dsimp only at h1
        by_cases hk : ks.length ≤ 1000
        · rw [if_pos hk] at h1
          obtain ⟨l, vs, rfl, hq, rs⟩ := seqOf_at s1 rx q1
          have ev := keysOf_at rs q2
          subst ev
          exact ⟨l, ks, rfl, hq, hk, post_same h1 s1 rfl⟩
        · rw [if_neg hk] at h1; exact h1.elim⟩
end
end MP

set_option maxRecDepth 100000
set_option maxHeartbeats 1000000
namespace MP
open PySem L2 PySem.Spec PyProof.Rows
theorem ofString_inj {a b : String} (h : Str.ofString a = Str.ofString b) : a = b := by
  have e : (Str.ofString a).cps.toList = (Str.ofString b).cps.toList := by rw [h]
  rw [signs_ofString, signs_ofString] at e
  have inj : ∀ (x y : List Char), x.map Char.toNat = y.map Char.toNat → x = y := by
    intro x
    induction x with
    | nil => intro y h; cases y with
      | nil => rfl
      | cons c y => cases h
    | cons c x ih => intro y h; cases y with
      | nil => cases h
      | cons d y =>
        rw [List.map_cons, List.map_cons] at h
        injection h with h1 h2
        rw [ih y h2, Char.ext (UInt32.toNat_inj.mp h1)]
  exact String.toList_inj.mp (inj _ _ e)
def lookA : List (String × PV) → String → Option PV
  | [], _ => none
  | p :: r, f => if p.1 = f then some p.2 else lookA r f
def putA (f : String) (v : PV) : List (String × PV) → List (String × PV)
  | [] => [(f, v)]
  | p :: r => if p.1 = f then (p.1, v) :: r else p :: putA f v r
section
variable {K : PySem.W.Frag} {H : Hp} {μ : Mu}
theorem FRs.look {f : String} : ∀ {fs : List (String × PV)} {fv : List (Str × V)}, FRs K H μ fs fv → (∀ p, lookA fs f = some p → ∃ v, fv.lookup (Str.ofString f) = some v ∧ VR K H μ p v) ∧ (lookA fs f = none → fv.lookup (Str.ofString f) = none)
  | [], fv, h => by
    have e : fv = [] := h
    subst e
    exact ⟨fun p q => (nomatch q), fun _ => rfl⟩
  | p :: r, fv, h => by
    obtain ⟨v, t, rfl, rv, rt⟩ := h
    unfold lookA
    rw [List.lookup_cons]
    by_cases e : p.1 = f
    · subst e
      rw [if_pos rfl, beq_self_eq_true]
      exact ⟨fun q hq => by cases hq; exact ⟨v, rfl, rv⟩, fun hq => (nomatch hq)⟩
    · have e' : (Str.ofString f == Str.ofString p.1) = false := beq_eq_false_iff_ne.mpr fun q => e (ofString_inj q).symm
      rw [if_neg e, e']
      exact FRs.look rt
theorem FRs.put {f : String} {p : PV} {v : V} (rv : VR K H μ p v) : ∀ {fs : List (String × PV)} {fv : List (Str × V)}, FRs K H μ fs fv → FRs K H μ (putA f p fs) (putF (Str.ofString f) v fv)
  | [], fv, h => by
    have e : fv = [] := h
    subst e
    exact ⟨v, [], rfl, rv, rfl⟩
  | q :: r, fv, h => by
    obtain ⟨w, t, rfl, rw', rt⟩ := h
    unfold putA putF
    by_cases e : q.1 = f
    · subst e
      rw [if_pos rfl, if_pos rfl]
      exact ⟨v, t, rfl, rv, rt⟩
    · have e' : ¬ Str.ofString q.1 = Str.ofString f := fun z => e (ofString_inj z)
      rw [if_neg e, if_neg e']
      exact ⟨w, _, rfl, rw', FRs.put rv rt⟩
theorem FRs.length : ∀ {fs : List (String × PV)} {fv : List (Str × V)}, FRs K H μ fs fv → fs.length = fv.length
  | [], fv, h => by have e : fv = [] := h; subst e; rfl
  | q :: r, fv, h => by obtain ⟨w, t, rfl, _, rt⟩ := h; rw [List.length_cons, List.length_cons, FRs.length rt]
end
def attrM (cs : List String) (f : String) (x : PV) : M PV := fun st => match x with
  | .loc n => match st[n]? with
    | some (.ins c fs) => if c ∈ cs then (match lookA fs f with
      | some v => .ok v st
      | none => .bad) else .bad
    | _ => .bad
  | _ => .bad
def AttrOk (K : PySem.W.Frag) (cs : List String) (f : String) : Prop := ∀ c ∈ cs, ∀ C, ClsIn K c C → Cls K C ∧ NoAttr K C (Str.ofString f)
section
variable {X : Cx} {W : WX} {e o value : Expr} {pos p' : Pos} {me mo mv : Rho → M PV} {cs : List String} {f : String}
theorem me_attr (hc : AttrOk X.K cs f) (he : ME X W e me) (hb : attributeBase e (Str.ofString f) X.env (eval e X.env) = eval e X.env := by kernel_rfl) : ME X W (.Attribute e (Str.ofString f) pos) (eUn (attrM cs f) me) :=
  PE.imp (pe_fld he hb) fun σ H Q ⟨μ, st, ρ, er, sr, h⟩ => ⟨μ, st, ρ, er, sr, (PostG.bind h).mono fun u H1 ⟨μ1, st1, x, g1, s1, rx, h1⟩ => by
    unfold attrM at h1
    cases x with
    | loc n =>
      obtain ⟨a, rfl, ha⟩ := loc_at rx
      dsimp only at h1
      cases q : st1[n]? with
      | none => rw [q] at h1; exact h1.elim
      | some c =>
        rw [q] at h1
        cases c with
        | lst xs => exact h1.elim
        | dct xs => exact h1.elim
        | dcl kvs => exact h1.elim
        | dcn kvs => exact h1.elim
        | lck kvs => exact h1.elim
        | ins c fs =>
          dsimp only at h1
          by_cases hcs : c ∈ cs
          · rw [if_pos hcs] at h1
            obtain ⟨C, dx, fv, hC, eh, rf⟩ := s1.cell n _ a q ha
            obtain ⟨k1, k2⟩ := hc c hcs C hC
            cases hl : lookA fs f with
            | none => rw [hl] at h1; exact h1.elim
            | some p =>
              rw [hl] at h1
              obtain ⟨v, e1, rv⟩ := rf.look.1 p hl
              exact ⟨a, C, dx, fv, v, rfl, eh, k1, k2, e1, post_same h1 s1 rv⟩
          · rw [if_neg hcs] at h1; exact h1.elim
    | _ => exact h1.elim⟩
def setA (cs : List String) (f : String) (y x : PV) : M Unit := fun st => match x with
  | .loc n => match st[n]? with
    | some (.ins c fs) => if c ∈ cs ∧ fs.length < 1000 then .ok () (st.set n (.ins c (putA f y fs))) else .bad
    | _ => .bad
  | _ => .bad
def sAttr (cs : List String) (f : String) (mo mv : Rho → M PV) : Rho → M Fl := fun ρ => onErr ρ (mv ρ) fun y => onErr ρ (mo ρ) fun x => onErr ρ (setA cs f y x) fun _ => M.ret (.next ρ)
theorem ms_attr (hc : AttrOk X.K cs f) (ho : ME X W o mo) (hv : ME X W value mv) (hs : swapsWith value (some (.Attribute o (Str.ofString f) p')) pos.line X.env = pure false := by kernel_rfl) : MS X W (.Assign [.Attribute o (Str.ofString f) p'] value pos) (sAttr cs f mo mv) :=
  PS.imp (ps_fld ho hv hs) fun D σ H ⟨μ, st, ρ, er, sr, h⟩ => ⟨μ, st, ρ, er, sr, (PostS.onErr h er).mono fun u H1 ⟨μ1, st1, y, g1, s1, ry, h1⟩ =>
    ⟨μ1, st1, ρ, er.mono g1, s1, (PostS.onErr h1 (er.mono g1)).mono fun w H2 ⟨μ2, st2, x, g2, s2, rx, h2⟩ => by
      unfold onErr setA at h2
      cases x with
      | loc n =>
        obtain ⟨a, rfl, ha⟩ := loc_at rx
        dsimp only at h2
        cases q : st2[n]? with
        | none => rw [q] at h2; exact h2.elim
        | some c =>
          rw [q] at h2
          cases c with
          | lst xs => exact h2.elim
          | dct xs => exact h2.elim
          | dcl kvs => exact h2.elim
          | dcn kvs => exact h2.elim
          | lck kvs => exact h2.elim
          | ins c fs =>
            dsimp only at h2
            by_cases hcs : c ∈ cs ∧ fs.length < 1000
            · rw [if_pos hcs] at h2
              obtain ⟨C, dx, fv, hC, eh, rf⟩ := s2.cell n _ a q ha
              obtain ⟨k1, k2⟩ := hc c hcs.1 C hC
              have gp : Gr μ2 H2 μ2 (upd H2 a (.ins C dx (putF (Str.ofString f) u fv))) := gr_put ha eh rfl
              refine ⟨a, C, dx, fv, rfl, eh, k1, k2, by rw [← rf.length]; exact hcs.2, ?_⟩
              refine h2 μ2 _ σ gp (s2.put ha ⟨C, dx, _, hC, upd_same, FRs.mono gp.v _ _ (rf.put (VR.mono g2 _ _ ry))⟩) ((er.mono g1).mono g2 |>.mono gp)
            · rw [if_neg hcs] at h2; exact h2.elim
      | _ => exact h2.elim⟩⟩
end
def insC (c m : String) (o : PV) : M Unit := fun st => match o with
  | .loc n => match st[n]? with
    | some (.ins c' fs) => if c' = c ∧ lookA fs m = none then .ok () st else .bad
    | _ => .bad
  | _ => .bad
def eMth (c m : String) (mf : List PV → M PV) (mo : Rho → M PV) (ma : Rho → M (List PV)) : Rho → M PV := fun ρ => M.bind (mo ρ) fun o => M.bind (insC c m o) fun _ => M.bind (ma ρ) fun xs => mf (o :: xs)
section
variable {X : Cx} {W : WX} {e o : Expr} {es : List Expr} {pos apos : Pos} {mo : Rho → M PV} {ma : Rho → M (List PV)} {c m : String} {C f : Addr} {fd : FuncData} {ps : List Str} {k n : Nat} {mf : List PV → M PV}
theorem ins_at {E : XK} {Q : VK} {α : Type} {μ : Mu} {H : Hp} {st : Sto} {x : PV} {u : V} {g : Unit → M PV} (hC : ClsIn X.K c C) (sr : SR (kw X) μ st H) (rx : VR X.K H μ x u) (h : PostG (kw X) E (VR X.K) Q μ H (M.bind (insC c m x) g st)) :
    ∃ a dx fs, u = .ref a ∧ H a = some (.ins C dx fs) ∧ fs.lookup (Str.ofString m) = none ∧ PostG (kw X) E (VR X.K) Q μ H (g () st) := by
  unfold M.bind insC at h
  cases x with
  | loc n =>
    obtain ⟨a, rfl, ha⟩ := loc_at rx
    dsimp only at h
    cases q : st[n]? with
    | none => rw [q] at h; exact h.elim
    | some cc =>
      rw [q] at h
      cases cc with
      | lst xs => exact h.elim
      | dct xs => exact h.elim
      | dcl kvs => exact h.elim
      | dcn kvs => exact h.elim
      | lck kvs => exact h.elim
      | ins c' fs =>
        dsimp only at h
        by_cases hcs : c' = c ∧ lookA fs m = none
        · rw [if_pos hcs] at h
          obtain ⟨C', dx, fv, hC', eh, rf⟩ := sr.cell n _ a q ha
          rw [hcs.1] at hC'
          have ee := hC.one hC'
          subst ee
          exact ⟨a, dx, fv, rfl, eh, rf.look.2 hcs.2, h⟩
        · rw [if_neg hcs] at h; exact h.elim
  | _ => exact h.elim
theorem me_mth {pl : Sem Bool} (cl : Cls X.K C) (hC : ClsIn X.K c C) (hm : Meth X.K C (Str.ofString m) f) (F : FnOk X.prog X.w X.K X.mg X.base (L2.CX X.prog X.w) k f fd ps (spM (kw X) mf (n + 1))) (hr : Room k X.A) (hb : Binds X.K fd ps []) (tk : Takes X W)
    (ho : ME X W o mo) (ha : MA X W (e :: es) ma) (hl : aLen n ma) (hst : starEach (e :: es) X.env = (false, eval e X.env) :: starEach es X.env := by kernel_rfl) (hpl : (backTo pos (starEach es X.env)).any (·.1) = false := by kernel_rfl)
    (ht : eval (.Call (.Attribute o (Str.ofString m) apos) (e :: es) [] pos) X.env = (do
      let ov ← eval o X.env
      standAt apos.atName
      let (f, first) ← holding [ov] (getMethod ov (Str.ofString m) pl)
      callWith pos f first (backTo pos (starEach (e :: es) X.env)) (backToKw pos (keywordEach [] X.env))) := by rfl) :
    ME X W (.Call (.Attribute o (Str.ofString m) apos) (e :: es) [] pos) (eMth c m mf mo ma) := by
  refine PE.imp (t := fun σ H Q => tM (kw X) W mo σ H fun x H1 => ∃ a dx fs, x = .ref a ∧ H1 a = some (.ins C dx fs) ∧ fs.lookup (Str.ofString m) = none ∧ tMA (kw X) W ma σ H1 fun vs H2 => spM (kw X) mf (n + 1) (x :: vs) H2 Q (WE W σ)) ⟨fun pins s σ H Q I h => ?_⟩ fun σ H Q ⟨μ, st, ρ, er, sr, h⟩ => ?_
  · refine PySem.W.methodCall_KW (pl := pl) (thn (ho.run pins s σ H _ I h) fun u s1 ⟨x, H1, I1, rx, a, dx, fs, ex, ea, l, q⟩ => ?_) ht
    subst ex
    cases (show u = Value.ref a from rx)
    refine getmeth_ok I1 ea cl hm l (PySem.W.callWith_K (first := [.ref a]) (h₀ := X.base) I.ok.mod.kin hm.kp (thn (ha.run pos pins s1 σ H1 _ I1 q) fun us s2 ⟨vs, H2, I2, r, q2⟩ => ⟨I2.kIn, ?_⟩) hst hpl)
    exact run_fnSD (us := .ref a :: us) (vs := .ref a :: vs) (dvs := []) (ds := []) (E := WE W) F hr hb .nil (passAt tk σ) I2 (.cons rfl r) (by rw [List.append_nil]; exact q2)
  · refine ⟨μ, st, ρ, er, sr, (PostG.bind h).mono fun u H1 ⟨μ1, st1, x, g1, s1, rx, h1⟩ => ?_⟩
    obtain ⟨a, dx, fs, e1, e2, e3, h2⟩ := ins_at (α := PV) hC s1 rx h1
    exact ⟨a, dx, fs, e1, e2, e3, μ1, st1, ρ, er.mono g1, s1, PostG.lens hl ((PostG.bind h2).mono fun us H2 ⟨μ2, st2, xs, g2, s2, ⟨rxs, hn⟩, h3⟩ => ⟨μ2, st2, x :: xs, s2, VRs.cons (VR.mono g2 _ _ rx) rxs, by rw [List.length_cons, hn], h3⟩)⟩
theorem me_mth0 {pl : Sem Bool} (cl : Cls X.K C) (hC : ClsIn X.K c C) (hm : Meth X.K C (Str.ofString m) f) (F : FnOk X.prog X.w X.K X.mg X.base (L2.CX X.prog X.w) k f fd ps (spM (kw X) mf 1)) (hr : Room k X.A) (hb : Binds X.K fd ps []) (tk : Takes X W)
    (ho : ME X W o mo)
    (ht : eval (.Call (.Attribute o (Str.ofString m) apos) [] [] pos) X.env = (do
      let ov ← eval o X.env
      standAt apos.atName
      let (f, first) ← holding [ov] (getMethod ov (Str.ofString m) pl)
      callWith pos f first (backTo pos (starEach [] X.env)) (backToKw pos (keywordEach [] X.env))) := by rfl) :
    ME X W (.Call (.Attribute o (Str.ofString m) apos) [] [] pos) (eMth c m mf mo aNil) := by
  refine PE.imp (t := fun σ H Q => tM (kw X) W mo σ H fun x H1 => ∃ a dx fs, x = .ref a ∧ H1 a = some (.ins C dx fs) ∧ fs.lookup (Str.ofString m) = none ∧ spM (kw X) mf 1 [x] H1 Q (WE W σ)) ⟨fun pins s σ H Q I h => ?_⟩ fun σ H Q ⟨μ, st, ρ, er, sr, h⟩ => ?_
  · refine PySem.W.methodCall_KW (pl := pl) (thn (ho.run pins s σ H _ I h) fun u s1 ⟨x, H1, I1, rx, a, dx, fs, ex, ea, l, q⟩ => ?_) ht
    subst ex
    cases (show u = Value.ref a from rx)
    exact getmeth_ok I1 ea cl hm l (PySem.W.callWith_K0 (first := [.ref a]) I1.kIn hm.kp (run_fnSD (us := [.ref a]) (vs := [.ref a]) (dvs := []) (ds := []) (E := WE W) F hr hb .nil (passAt tk σ) I1 (.cons rfl .nil) q))
  · refine ⟨μ, st, ρ, er, sr, (PostG.bind h).mono fun u H1 ⟨μ1, st1, x, g1, s1, rx, h1⟩ => ?_⟩
    obtain ⟨a, dx, fs, e1, e2, e3, h2⟩ := ins_at (α := PV) hC s1 rx h1
    exact ⟨a, dx, fs, e1, e2, e3, μ1, st1, [x], s1, VRs.cons rx VRs.nil, rfl, h2⟩
def mkIns (c : String) (mf : List PV → M PV) (xs : List PV) : M PV := fun st => match mf (.loc st.length :: xs) (st ++ [.ins c []]) with
  | .ok .non st' => .ok (.loc st.length) st'
  | _ => .bad
theorem new_at {E : XK} {Q : VK} {μ : Mu} {H : Hp} {st : Sto} {xs : List PV} {vs : List V} (hC : ClsIn X.K c C) (sr : SR (kw X) μ st H) (rs : VRs X.K H μ xs vs) (hn : xs.length = n) (h : PostG (kw X) E (VR X.K) Q μ H (mkIns c mf xs st)) :
    ∀ x dx, H x = none → H dx = none → dx ≠ x → spM (kw X) mf (n + 1) (.ref x :: vs) (upd (upd H dx (.own x)) x (.ins C dx [])) (fun v H2 => v = .non ∧ Q (.ref x) H2) (fun _ _ _ => False) := by
  intro x dx hx hd hne
  have g1 : Gr μ H μ (upd H dx (.own x)) := gr_new hd
  have s1 := sr.new (o := .own x) hd
  have hx1 : upd H dx (.own x) x = none := by rw [upd_ne (fun q => hne q.symm)]; exact hx
  have g2 : Gr μ (upd H dx (.own x)) (μ.add x) (upd (upd H dx (.own x)) x (.ins C dx [])) := gr_alloc hx1
  have s2 : SR (kw X) (μ.add x) (st ++ [.ins c []]) (upd (upd H dx (.own x)) x (.ins C dx [])) := s1.alloc hx1 ⟨C, dx, [], hC, upd_same, rfl⟩
  have g := g1.trans g2 fun a m => (s2.ban a m).1
  have hloc : (μ.add x).l[st.length]? = some x := by rw [← sr.len]; simp [Mu.add]
  refine ⟨μ.add x, st ++ [.ins c []], .loc st.length :: xs, s2, VRs.cons (show ∃ a, V.ref x = .ref a ∧ (μ.add x).l[st.length]? = some a from ⟨x, rfl, hloc⟩) (VRs.mono g _ _ rs), by rw [List.length_cons, hn], ?_⟩
  unfold mkIns at h
  cases q : mf (.loc st.length :: xs) (st ++ [.ins c []]) with
  | ok v st' =>
    rw [q] at h
    cases v with
    | non =>
      intro μ' H' b gg ss rb
      refine ⟨rb, ?_⟩
      exact h μ' H' (.ref x) (g.trans gg fun a m => (ss.ban a m).1) ss (show ∃ a, V.ref x = .ref a ∧ μ'.l[st.length]? = some a from ⟨x, rfl, gg.get hloc⟩)
    | _ => exact h.elim
  | err y st' => rw [q] at h; exact h.elim
  | bad => rw [q] at h; exact h.elim
theorem me_new {x : Str} {p : Pos} (M : Mk X.K C f) (hC : ClsIn X.K c C) (F : FnOk X.prog X.w X.K X.mg X.base (L2.CX X.prog X.w) k f fd ps (spM (kw X) mf (n + 1))) (hr : Room (k + 1) X.A) (hg : Gl X x) (hm : X.mg x = some (.ref C)) (hb : Binds X.K fd ps []) (hx : Passes (L2.CX X.prog X.w) X (fun _ _ _ => False))
    (ha : MA X W (e :: es) ma) (hl : aLen n ma) (hdb : (x == ("__debug__" : Str)) = false := by kernel_rfl) (he : starEach (e :: es) X.env = (false, eval e X.env) :: starEach es X.env := by kernel_rfl) (hpl : (backTo pos (starEach es X.env)).any (·.1) = false := by kernel_rfl) :
    ME X W (.Call (.Name x p) (e :: es) [] pos) (eCall (mkIns c mf) ma) :=
  PE.imp (pe_make (dvs := []) (ds := []) (E := fun _ _ _ => False) M F hr hg hm hb .nil hx ha hdb he hpl) fun σ H Q ⟨μ, st, ρ, er, sr, h⟩ =>
    ⟨μ, st, ρ, er, sr, PostG.lens hl ((PostG.bind h).mono fun us H1 ⟨μ1, st1, xs, g1, s1, ⟨rxs, hn⟩, h1⟩ => by
      simp only [List.append_nil]
      exact new_at hC s1 rxs hn h1)⟩
theorem me_new0 {x : Str} {p : Pos} (M : Mk X.K C f) (hC : ClsIn X.K c C) (F : FnOk X.prog X.w X.K X.mg X.base (L2.CX X.prog X.w) k f fd ps (spM (kw X) mf 1)) (hr : Room (k + 1) X.A) (hg : Gl X x) (hm : X.mg x = some (.ref C)) (hb : Binds X.K fd ps []) (hx : Passes (L2.CX X.prog X.w) X (fun _ _ _ => False))
    (hdb : (x == ("__debug__" : Str)) = false := by kernel_rfl) : ME X W (.Call (.Name x p) [] [] pos) (eCall (mkIns c mf) aNil) :=
  PE.imp (pe_make0 (dvs := []) (ds := []) (E := fun _ _ _ => False) M F hr hg hm hb .nil hx hdb) fun σ H Q ⟨μ, st, ρ, er, sr, h⟩ =>
    new_at hC sr VRs.nil rfl h
end
theorem passes_no {X : Cx} : Passes (L2.CX X.prog X.w) X (fun _ _ _ => False) := fun _ _ _ _ _ _ _ c => let ⟨_, _, _, _, _, _, _, _, _, _, _, _, h⟩ := c; h.elim
theorem attr_ok1 {K : PySem.W.Frag} {c f : String} {C : Addr} (hC : ClsIn K c C) (cl : Cls K C) (na : NoAttr K C (Str.ofString f)) : AttrOk K [c] f := fun c' h C' hC' => by
  rw [List.mem_singleton.mp h] at hC'
  rw [← hC.one hC']
  exact ⟨cl, na⟩
theorem attr_ok2 {K : PySem.W.Frag} {cs : List String} {c f : String} {C : Addr} (hC : ClsIn K c C) (cl : Cls K C) (na : NoAttr K C (Str.ofString f)) (r : AttrOk K cs f) : AttrOk K (c :: cs) f := fun c' h C' hC' => by
  rcases List.mem_cons.mp h with h | h
  · rw [h] at hC'
    rw [← hC.one hC']
    exact ⟨cl, na⟩
  · exact r c' h C' hC'
end MP

set_option maxRecDepth 100000
set_option maxHeartbeats 1000000
namespace MP
open PySem L2 PySem.Spec PyProof.Rows
def sBad : Rho → M Fl := fun _ => M.fail
def eBad : Rho → M PV := fun _ => M.fail
theorem ms_bad {X : Cx} {W : WX} {s : Stmt} : MS X W s sBad := ⟨fun _ _ _ _ _ _ ⟨_, _, _, _, _, h⟩ => h.elim⟩
theorem me_bad {X : Cx} {W : WX} {e : Expr} : ME X W e eBad := ⟨fun _ _ _ _ _ _ ⟨_, _, _, _, _, h⟩ => h.elim⟩
def isDct (x : PV) : M Unit := fun st => match dctOf x st with
  | some _ => .ok () st
  | none => .bad
def dgetM (x y z : PV) : M PV := fun st => match dctOf x st with
  | some kvs => if (keyOf y).isSome = true then .ok ((lookP kvs y).getD z) st else .bad
  | none => .bad
def eGet1 (mo me : Rho → M PV) : Rho → M PV := fun ρ => M.bind (mo ρ) fun x => M.bind (isDct x) fun _ => M.bind (me ρ) fun y => dgetM x y .non
def eGet2 (mo me mz : Rho → M PV) : Rho → M PV := fun ρ => M.bind (mo ρ) fun x => M.bind (isDct x) fun _ => M.bind (me ρ) fun y => M.bind (mz ρ) fun z => dgetM x y z
theorem isDct_at {K : KW} {H : Hp} {μ : Mu} {st : Sto} {x : PV} {v : V} {α β : Type} {E : XK} {R : Hp → Mu → α → β → Prop} {Q : β → Hp → Prop} {k : Unit → M α} (sr : SR K μ st H) (r : VR K H μ x v)
    (h : PostG K E R Q μ H (M.bind (isDct x) k st)) : (∃ a, v = .ref a ∧ IsD H a) ∧ PostG K E R Q μ H (k () st) := by
  unfold M.bind isDct at h
  cases q : dctOf x st with
  | none => rw [q] at h; exact h.elim
  | some kvs =>
    rw [q] at h
    obtain ⟨n, a, kv, ex, rfl, ha, hc, h1, h2⟩ := dctOf_at sr r q
    exact ⟨⟨a, rfl, .inl ⟨kv, .inl h1⟩⟩, h⟩
theorem dget_at {K : KW} {H : Hp} {μ : Mu} {st : Sto} {x y z : PV} {a : Addr} {v w : V} {E : XK} {Q : V → Hp → Prop} (sr : SR K μ st H) (r : VR K H μ x (.ref a)) (ry : VR K H μ y v) (rz : VR K H μ z w)
    (h : PostG K E (VR K) Q μ H (dgetM x y z st)) : ∃ o, DGet H a v o ∧ Q (o.getD w) H := by
  unfold dgetM at h
  cases hd : dctOf x st with
  | none => rw [hd] at h; exact h.elim
  | some kvs =>
    rw [hd] at h
    dsimp only at h
    by_cases hk : (keyOf y).isSome = true
    · rw [if_pos hk] at h
      obtain ⟨k', ek⟩ := Option.isSome_iff_exists.mp hk
      obtain ⟨n, a', kv, ex, e, ha, hc, h1, h2⟩ := dctOf_at sr r hd
      cases e
      rw [keyOf_kV ek ry]
      refine ⟨_, DGet.k h1, ?_⟩
      cases q : lookP kvs y with
      | none =>
        rw [(KRs.look ek h2).2 q]
        rw [q] at h
        exact post_same h sr rz
      | some p =>
        obtain ⟨u, e, ru⟩ := (KRs.look ek h2).1 p q
        rw [e]
        rw [q] at h
        exact post_same h sr ru
    · rw [if_neg hk] at h
      exact h.elim
section
variable {X : Cx} {W : WX} {o e f : Expr} {apos cpos : Pos} {mo me mz : Rho → M PV}
theorem me_get1 (hu : X.A.units + 64 < cLine) (ho : ME X W o mo) (he : ME X W e me) (hb : attributeBase o "get" X.env (eval o X.env) = eval o X.env := by kernel_rfl)
    (hf : ((backTo cpos (starEach [e] X.env)).all (fun x => !x.1) && (backToKw cpos (keywordEach [] X.env)).all (fun x => x.1.isSome)
      && decide (([e] : List Expr).length + ([] : List Keyword).length + (if ([] : List Keyword).isEmpty then 0 else 1) < 30)) = true := by kernel_rfl)
    (hl : (apos.endLine == cpos.line) = true := by kernel_rfl) (ht : backTo cpos (starEach [e] X.env) = [(false, eval e X.env)] := by kernel_rfl) :
    ME X W (.Call (.Attribute o "get" apos) [e] [] cpos) (eGet1 mo me) :=
  PE.imp (pe_dget1 (by omega) ho he ⟨hb, hf, hl, ht⟩) fun σ H Q ⟨μ, st, ρ, er, sr, h⟩ => ⟨μ, st, ρ, er, sr, (PostG.bind h).mono fun u H1 ⟨μ1, st1, x, g1, s1, rx, h1⟩ => by
    obtain ⟨⟨a, rfl, d⟩, h2⟩ := isDct_at s1 rx h1
    exact ⟨a, rfl, d, μ1, st1, ρ, er.mono g1, s1, (PostG.bind h2).mono fun v H2 ⟨μ2, st2, y, g2, s2, ry, h3⟩ => dget_at s2 (VR.mono g2 x _ rx) ry (z := .non) (show VR X.K H2 μ2 .non .non from rfl) h3⟩⟩
theorem me_get2 (hu : X.A.units + 64 < cLine) (ho : ME X W o mo) (he : ME X W e me) (hz : ME X W f mz) (hb : attributeBase o "get" X.env (eval o X.env) = eval o X.env := by kernel_rfl)
    (hf : ((backTo cpos (starEach [e, f] X.env)).all (fun x => !x.1) && (backToKw cpos (keywordEach [] X.env)).all (fun x => x.1.isSome)
      && decide (([e, f] : List Expr).length + ([] : List Keyword).length + (if ([] : List Keyword).isEmpty then 0 else 1) < 30)) = true := by kernel_rfl)
    (hl : (apos.endLine == cpos.line) = true := by kernel_rfl) (ht : backTo cpos (starEach [e, f] X.env) = [(false, eval e X.env), (false, eval f X.env)] := by kernel_rfl) :
    ME X W (.Call (.Attribute o "get" apos) [e, f] [] cpos) (eGet2 mo me mz) :=
  PE.imp (pe_dget2 (by omega) ho he hz ⟨hb, hf, hl, ht⟩) fun σ H Q ⟨μ, st, ρ, er, sr, h⟩ => ⟨μ, st, ρ, er, sr, (PostG.bind h).mono fun u H1 ⟨μ1, st1, x, g1, s1, rx, h1⟩ => by
    obtain ⟨⟨a, rfl, d⟩, h2⟩ := isDct_at s1 rx h1
    exact ⟨a, rfl, d, μ1, st1, ρ, er.mono g1, s1, (PostG.bind h2).mono fun v H2 ⟨μ2, st2, y, g2, s2, ry, h3⟩ => ⟨μ2, st2, ρ, (er.mono g1).mono g2, s2, (PostG.bind h3).mono fun w H3 ⟨μ3, st3, z, g3, s3, rz, h4⟩ =>
      dget_at s3 (VR.mono g3 x _ (VR.mono g2 x _ rx)) (VR.mono g3 y _ ry) rz h4⟩⟩⟩
end
def idxP (y : PV) : List PV → Option Nat
  | [] => none
  | p :: r => if eqb p y = true then some 0 else (idxP y r).map (· + 1)
theorem idxP_some {y : PV} : ∀ {xs : List PV} {j : Nat}, idxP y xs = some j → (∃ p, xs[j]? = some p ∧ eqb p y = true) ∧ ∀ m p, m < j → xs[m]? = some p → eqb p y = false
  | [], _, h => by cases h
  | p :: r, j, h => by
    unfold idxP at h
    by_cases e : eqb p y = true
    · rw [if_pos e] at h; cases h
      exact ⟨⟨p, rfl, e⟩, fun m _ q => absurd q (Nat.not_lt_zero m)⟩
    · rw [if_neg e] at h
      cases q : idxP y r with
      | none => rw [q] at h; cases h
      | some k =>
        rw [q] at h; cases h
        obtain ⟨⟨z, hz, ez⟩, h2⟩ := idxP_some q
        refine ⟨⟨z, by simpa using hz, ez⟩, fun m p' hm hp => ?_⟩
        cases m with
        | zero => simp at hp; subst hp; simpa using e
        | succ m => exact h2 m p' (Nat.lt_of_succ_lt_succ hm) (by simpa using hp)
def indexL (o : PV) (xs : List PV) : M PV := match o, xs with
  | .lst ys, [y] => if (flatP y && ys.all flatP) = true then (match idxP y ys with
    | some j => M.ret (.int (j : Nat))
    | none => M.fail) else M.fail
  | _, _ => M.fail
theorem VRs.back {K : PySem.W.Frag} {H : Hp} {μ : Mu} {i : Nat} {v : V} : ∀ {ps : List PV} {vs : List V} {i : Nat}, VRs K H μ ps vs → vs[i]? = some v → ∃ p, ps[i]? = some p ∧ VR K H μ p v
  | [], vs, i, h, e => by have z : vs = [] := h; rw [z] at e; simp at e
  | p :: ps, vs, i, h, e => by
    obtain ⟨w, r, rfl, h1, h2⟩ := (show ∃ v r, vs = v :: r ∧ VR K H μ p v ∧ VRs K H μ ps r from h)
    cases i with
    | zero => simp at e; subst e; exact ⟨p, rfl, h1⟩
    | succ i =>
      obtain ⟨q, e1, e2⟩ := VRs.back (i := i) h2 (by simpa using e)
      exact ⟨q, by simpa using e1, e2⟩
theorem t_indexL {K : KW} : TMe K (rIndex K) indexL := by
  intro μ st H o xs u us E Q sr ro rs h
  unfold indexL at h
  split at h
  · rename_i ys y
    obtain ⟨w, rfl, ry⟩ := one_of rs
    obtain ⟨a, vs, rfl, t, rvs⟩ := lst_at ro
    by_cases hf : (flatP y && ys.all flatP) = true
    · rw [if_pos hf] at h
      obtain ⟨fy, fys⟩ := Bool.and_eq_true_iff.mp hf
      cases q : idxP y ys with
      | none => rw [q] at h; exact h.elim
      | some j =>
        rw [q] at h
        obtain ⟨⟨p, hp, ep⟩, hno⟩ := idxP_some q
        obtain ⟨v, hv, rv⟩ := VRs.get rvs hp
        have fl : ∀ {q : PV} {x : V} {i : Nat}, ys[i]? = some q → VR K H μ q x → flatV x = true ∧ flatV w = true ∧ L2.eqV x w = eqb q y := fun hq rq => flat_eq rq ry (List.all_eq_true.mp fys _ (List.mem_of_getElem? hq)) fy
        obtain ⟨_, fw, ev⟩ := fl hp rv
        refine ⟨a, vs, w, j, v, rfl, rfl, t.sq, fw, ?_, hv, by rw [ev]; exact ep, fun m z hm hz => ?_, post_same h sr rfl⟩
        · refine List.all_eq_true.mpr fun z hz => ?_
          obtain ⟨i, hi⟩ := List.mem_iff_getElem?.mp hz
          obtain ⟨q, hq, rq⟩ := VRs.back (i := i) rvs hi
          exact (fl hq rq).1
        · obtain ⟨q, hq, rq⟩ := VRs.back (i := m) rvs hz
          rw [(fl hq rq).2.2]
          exact hno m q hm hq
    · rw [if_neg hf] at h; exact h.elim
  · exact h.elim
section
variable {X : Cx} {W : WX} {o e : Expr} {apos cpos : Pos} {mo : Rho → M PV} {ma : Rho → M (List PV)}
theorem me_indexL (ho : ME X W o mo) (ha : MA X W [e] ma)
    (hbase : attributeBase o "index" X.env (eval o X.env) = eval o X.env := by kernel_rfl)
    (hfew : ((backTo cpos (starEach [e] X.env)).all (fun x => !x.1) && (backToKw cpos (keywordEach [] X.env)).all (fun x => x.1.isSome)
      && decide ([e].length + ([] : List Keyword).length + (if ([] : List Keyword).isEmpty then 0 else 1) < 30)) = true := by kernel_rfl)
    (hline : (apos.endLine == cpos.line) = true := by kernel_rfl) (hs : starEach [e] X.env = (false, eval e X.env) :: starEach [] X.env := by kernel_rfl) :
    ME X W (.Call (.Attribute o "index" apos) [e] [] cpos) (eMeth "list" indexL mo ma) :=
  me_meth PySem.F.plainAttrs_list PySem.F.slot_list_index PySem.F.type_list_index mt_index t_indexL ho ha hbase hfew hline hs rfl
end
def mulL (x y : PV) : M PV := match x, y with
  | .lst a, .int k => if -1000000 ≤ k ∧ k ≤ 1000 ∧ a.length ≤ 1000 then M.ret (.lst (List.replicate k.toNat a).flatten) else M.fail
  | _, _ => M.fail
theorem t_mulL {K : KW} : T2 K rRep mulL := by
  intro μ st H x y u v E Q sr rx ry h
  unfold mulL at h
  split at h
  · rename_i a k
    obtain ⟨p, vs, rfl, h1, r1⟩ := lst_at rx
    cases (show v = V.int k from ry)
    by_cases hz : -1000000 ≤ k ∧ k ≤ 1000 ∧ a.length ≤ 1000
    · rw [if_pos hz] at h
      refine ⟨p, k, vs, rfl, rfl, h1.1, by omega, by omega, ?_, fun q hq => post_lst sr (VRs.rep r1 _) hq h⟩
      rw [← VRs.length r1, sz_eq]
      have h3 : a.length * k.toNat ≤ 1000 * 1000 := Nat.mul_le_mul hz.2.2 (by omega)
      refine Nat.le_trans h3 ?_
      decide
    · rw [if_neg hz] at h
      exact h.elim
  · exact h.elim
section
variable {X : Cx} {W : WX} {a b : Expr} {pos : Pos} {ma mb : Rho → M PV}
theorem me_mulL (ha : ME X W a ma) (hb : ME X W b mb) : ME X W (.BinOp a .Mult b pos) (eBin mulL ma mb) := me_bin op_rep t_mulL ha hb
end
def addN (x y : PV) : M PV := fun st => match listOf x st, listOf y st with
  | some a, some b => if a.length + b.length ≤ SZ then .ok (.loc st.length) (st ++ [.lst (a ++ b)]) else .bad
  | _, _ => .bad
theorem t_addN {K : KW} : T2 K rCat addN := by
  intro μ st H x y u v E Q sr rx ry h
  unfold addN at h
  cases q1 : listOf x st with
  | none => rw [q1] at h; exact h.elim
  | some a =>
    cases q2 : listOf y st with
    | none => rw [q1, q2] at h; exact h.elim
    | some b =>
      rw [q1, q2] at h
      dsimp only at h
      by_cases hz : a.length + b.length ≤ SZ
      · rw [if_pos hz] at h
        obtain ⟨p, vs, rfl, h1, r1⟩ := listOf_at sr rx q1
        obtain ⟨p', vs', rfl, h2, r2⟩ := listOf_at sr ry q2
        exact ⟨p, p', vs, vs', rfl, rfl, h1, h2, by rw [← VRs.length r1, ← VRs.length r2, sz_eq]; exact hz, fun q hq => post_cell h sr hq ⟨_, upd_same, VRs.mono (gr_alloc hq) _ _ (VRs.append r1 r2)⟩⟩
      · rw [if_neg hz] at h; exact h.elim
section
variable {X : Cx} {W : WX} {a b : Expr} {pos : Pos} {ma mb : Rho → M PV}
theorem me_addN (ha : ME X W a ma) (hb : ME X W b mb) : ME X W (.BinOp a .Add b pos) (eBin addN ma mb) := me_bin op_cat t_addN ha hb
end
end MP

set_option maxRecDepth 100000
namespace MP
open PySem L2 PySem.Spec PyProof.Rows
def pairsOf : List PV → Option (List (PV × PV))
  | [] => some []
  | .tup [k, v] :: r => (pairsOf r).map fun ps => (k, v) :: ps
  | _ :: _ => none
def dictM (xs : List PV) : M PV := fun st => match xs with
  | [x] => match dctOf x st with
    | some kvs => .ok (.loc st.length) (st ++ [.dct kvs])
    | none => match listOf x st with
      | some ys => match pairsOf ys with
        | some ps => if keysOk ps = true then .ok (.loc st.length) (st ++ [.dct (mergeP [] ps)]) else .bad
        | none => .bad
      | none => .bad
  | _ => .bad
abbrev rDictD : List V → Hp → VK → Prop := fun xs H Q => ∃ (a : Addr) (kvs : List (Key × V)), xs = [.ref a] ∧ Rd H a (.dK kvs) ∧ ∀ p, H p = none → Q (.ref p) (upd H p (.dK kvs))
abbrev rDictP (K : PySem.W.Frag) : List V → Hp → VK → Prop := fun xs H Q => ∃ (a : Addr) (ps : List Addr) (kvs : List (Key × V)), xs = [.ref a] ∧ SqL K H a (ps.map V.ref) ∧ Paired (fun p kv => SqT K H p [kV kv.1, kv.2]) ps kvs ∧ ∀ p, H p = none → Q (.ref p) (upd H p (.dK (mergeK [] kvs)))
theorem pairs_at {K : PySem.W.Frag} {H : Hp} {μ : Mu} : ∀ {ys : List PV} {vs : List V} {ps : List (PV × PV)}, VRs K H μ ys vs → pairsOf ys = some ps → keysOk ps = true → ∃ (as : List Addr) (kvs : List (Key × V)), vs = as.map V.ref ∧ Paired (fun p kv => SqT K H p [kV kv.1, kv.2]) as kvs ∧ KRs K H μ ps kvs
  | [], vs, ps, r, h, hk => by cases h; have e : vs = [] := r; subst e; exact ⟨[], [], rfl, .nil, rfl⟩
  | y :: ys, vs, ps, r, h, hk => by
    obtain ⟨v, t, rfl, r1, r2⟩ := r
    unfold pairsOf at h
    split at h
    · rename_i e; cases e
    · rename_i k x r' e
      cases e
      cases q : pairsOf ys with
      | none => rw [q] at h; cases h
      | some ps' =>
        rw [q] at h
        cases h
        have hk' : (keyOf k).isSome = true ∧ keysOk ps' = true := by simpa [keysOk] using hk
        obtain ⟨k', ek⟩ := Option.isSome_iff_exists.mp hk'.1
        obtain ⟨a, ws, rfl, ha, rw_⟩ := tup_at r1
        obtain ⟨w1, t1, rfl, rk, t2⟩ := rw_
        obtain ⟨w2, t3, rfl, rv, t4⟩ := t2
        have e3 : t3 = [] := t4
        subst e3
        obtain ⟨as, kvs, rfl, hp, hr⟩ := pairs_at r2 q hk'.2
        have e1 := keyOf_kV ek rk
        subst e1
        exact ⟨a :: as, (k', w2) :: kvs, rfl, .cons ha.sq hp, k', w2, kvs, rfl, ek, rv, hr⟩
    · cases h
theorem t_dictM {K : KW} : TL K (fun xs H Q => rDictD xs H Q ∨ rDictP K xs H Q) dictM := by
  intro μ st H xs us E Q sr r h
  cases xs with
  | nil => exact h.elim
  | cons x t =>
    cases t with
    | cons y t => exact h.elim
    | nil =>
      obtain ⟨u, rfl, rx⟩ := one_of r
      unfold dictM at h
      dsimp only at h
      cases hd : dctOf x st with
      | some kvs =>
        rw [hd] at h
        obtain ⟨n, a, kv, ex, rfl, ha, hc, h1, h2⟩ := dctOf_at sr rx hd
        exact .inl ⟨a, kv, rfl, .of h1, fun p hp => post_cell h sr hp ⟨_, upd_same, KRs.mono (gr_alloc hp).v _ _ h2⟩⟩
      | none =>
        rw [hd] at h
        dsimp only at h
        cases hl : listOf x st with
        | none => rw [hl] at h; exact h.elim
        | some ys =>
          rw [hl] at h
          dsimp only at h
          cases hp : pairsOf ys with
          | none => rw [hp] at h; exact h.elim
          | some ps =>
            rw [hp] at h
            dsimp only at h
            by_cases hk : keysOk ps = true
            · rw [if_pos hk] at h
              obtain ⟨a, vs, rfl, h1, r1⟩ := listOf_at sr rx hl
              obtain ⟨as, kvs, rfl, hpr, hkr⟩ := pairs_at r1 hp hk
              exact .inr ⟨a, as, kvs, rfl, SqL.of h1, hpr, fun p hp => post_cell h sr hp ⟨_, upd_same, KRs.mono (gr_alloc hp).v _ _ (KRs.merge hkr (show KRs K H μ [] [] from rfl))⟩⟩
            · rw [if_neg hk] at h; exact h.elim
section
variable {X : Cx} {W : WX} {e : Expr} {p pos : Pos} {ma : Rho → M (List PV)}
theorem me_dictOf (hc : X.calm = true) (hg : Gl X "dict") (hm : X.mg "dict" = none) (ha : MA X W [e] ma) (he : starEach [e] X.env = (false, eval e X.env) :: starEach [] X.env := by kernel_rfl) : ME X W (.Call (.Name "dict" p) [e] [] pos) (eCall dictM ma) :=
  me_callTy (call_dictD.or (call_dictP hc)) t_dictM hg hm (by decide +kernel) ha (by decide) (by decide) he rfl
end
def sortI (ns : List Int) : List Int := ns.mergeSort (fun a b => decide (a ≤ b))
def sortS (ns : List (List Nat)) : List (List Nat) := ns.mergeSort (fun a b => decide (a ≤ b))
theorem sortI_of {ns ys : List Int} (h : ys.Perm ns) (hs : ys.Pairwise (· ≤ ·)) : ys = sortI ns := by
  have h1 : (sortI ns).Perm ns := List.mergeSort_perm _ _
  have h2 : (sortI ns).Pairwise (fun a b => decide (a ≤ b) = true) := List.pairwise_mergeSort (fun a b c h1 h2 => by simp at *; omega) (fun a b => by simp; omega) ns
  exact PySem.W.lks_uniq (h.trans h1.symm) hs (h2.imp fun h => by simpa using h)
theorem sortS_of {ns ys : List (List Nat)} (h : ys.Perm ns) (hs : ys.Pairwise (· ≤ ·)) : ys = sortS ns := by
  have h1 : (sortS ns).Perm ns := List.mergeSort_perm _ _
  have h2 : (sortS ns).Pairwise (fun a b => decide (a ≤ b) = true) := List.pairwise_mergeSort (fun a b c h1 h2 => by simp at *; exact List.le_trans h1 h2) (fun a b => by simp; exact List.le_total a b) ns
  exact (h.trans h1.symm).eq_of_pairwise (fun a b _ _ h1 h2 => List.le_antisymm h1 h2) hs (h2.imp fun h => by simpa using h)
abbrev mkS (x : List Nat) : Str := ⟨x.toArray⟩
theorem rising_pw : ∀ {l : List (List Nat)} {p : List Nat}, risingS (mkS p) (l.map mkS) = true → (∀ x ∈ l, p ≤ x) ∧ l.Pairwise (· ≤ ·)
  | [], p, _ => ⟨fun x hx => absurd hx (by simp), .nil⟩
  | x :: l, p, h => by
    rw [List.map_cons] at h
    unfold risingS at h
    rw [Bool.and_eq_true] at h
    obtain ⟨h1, h2⟩ := h
    obtain ⟨g1, g2⟩ := rising_pw h2
    have hpx : p ≤ x := by
      have : ltCps x p = false := by simpa using h1
      rw [ltCps_eq] at this
      have : ¬ x < p := by simpa using this
      exact List.not_lt.mp this
    refine ⟨fun y hy => ?_, .cons g1 g2⟩
    rcases List.mem_cons.mp hy with e | e
    · subst e; exact hpx
    · exact List.le_trans hpx (g1 y e)
theorem sorted_pw {l : List (List Nat)} (h : sortedS (l.map mkS) = true) : l.Pairwise (· ≤ ·) := by
  cases l with
  | nil => exact .nil
  | cons x l =>
    obtain ⟨g1, g2⟩ := rising_pw (show risingS (mkS x) (l.map mkS) = true from h)
    exact .cons g1 g2
theorem strs_back : ∀ (ys : List Str), ys = (ys.map fun y => y.cps.toList).map mkS
  | [] => rfl
  | y :: ys => by rw [List.map_cons, List.map_cons, ← strs_back ys]
theorem sortS_str {ns : List (List Nat)} {ys : List Str} (h : ys.Perm (ns.map mkS)) (hs : sortedS ys = true) : ys = (sortS ns).map mkS := by
  have e := strs_back ys
  rw [e] at h hs
  have hp : (ys.map fun y => y.cps.toList).Perm ns := by
    have := h.map (fun y : Str => y.cps.toList)
    have e2 : ∀ l : List (List Nat), (l.map mkS).map (fun y : Str => y.cps.toList) = l := fun l => by
      induction l with
      | nil => rfl
      | cons x l ih => rw [List.map_cons, List.map_cons, ih]
    rw [e2, e2] at this
    exact this
  rw [e, ← sortS_of hp (sorted_pw hs)]
def sortedM (xs : List PV) : M PV := fun st => match xs with
  | [x] => match dctOf x st with
    | some kvs => match strsOf (kvs.map Prod.fst) with
      | some ss => if ss.length < 64 then .ok (.lst ((sortS ss).map .str)) st else .bad
      | none => match intsOf (kvs.map Prod.fst) with
        | some ns => .ok (.lst ((sortI ns).map .int)) st
        | none => .bad
    | none => match listOf x st with
      | some ys => match intsOf ys with
        | some ns => .ok (.lst ((sortI ns).map .int)) st
        | none => match strsOf ys with
          | some ss => if ss.length < 64 then .ok (.lst ((sortS ss).map .str)) st else .bad
          | none => .bad
      | none => .bad
  | _ => .bad
theorem krs_str {K : PySem.W.Frag} {H : Hp} {μ : Mu} : ∀ {kvs : List (PV × PV)} {kv : List (Key × V)} {ss : List (List Nat)}, KRs K H μ kvs kv → strsOf (kvs.map Prod.fst) = some ss → kv.map (·.1) = (ss.map mkS).map Sum.inr
  | [], kv, ss, r, h => by cases h; have e : kv = [] := r; subst e; rfl
  | (p, q) :: kvs, kv, ss, r, h => by
    obtain ⟨k, v, t, rfl, ek, h1, h2⟩ := r
    rw [List.map_cons] at h
    cases p with
    | str x =>
      simp only [strsOf] at h
      cases q' : strsOf (kvs.map Prod.fst) with
      | none => rw [q'] at h; cases h
      | some t' =>
        rw [q'] at h
        cases h
        have : k = Sum.inr (mkS x) := by simpa [keyOf] using ek.symm
        subst this
        rw [List.map_cons, List.map_cons, List.map_cons, krs_str h2 q']
    | _ => cases h
theorem krs_int {K : PySem.W.Frag} {H : Hp} {μ : Mu} : ∀ {kvs : List (PV × PV)} {kv : List (Key × V)} {ss : List Int}, KRs K H μ kvs kv → intsOf (kvs.map Prod.fst) = some ss → kv.map (·.1) = ss.map Sum.inl
  | [], kv, ss, r, h => by cases h; have e : kv = [] := r; subst e; rfl
  | (p, q) :: kvs, kv, ss, r, h => by
    obtain ⟨k, v, t, rfl, ek, h1, h2⟩ := r
    rw [List.map_cons] at h
    cases p with
    | int x =>
      simp only [intsOf] at h
      cases q' : intsOf (kvs.map Prod.fst) with
      | none => rw [q'] at h; cases h
      | some t' =>
        rw [q'] at h
        cases h
        have : k = Sum.inl x := by simpa [keyOf] using ek.symm
        subst this
        rw [List.map_cons, List.map_cons, krs_int h2 q']
    | _ => cases h
theorem vrs_strs {K : PySem.W.Frag} {H : Hp} {μ : Mu} : ∀ {ss : List (List Nat)}, VRs K H μ (ss.map PV.str) ((ss.map mkS).map V.str)
  | [] => rfl
  | x :: ss => ⟨_, _, rfl, rfl, vrs_strs (ss := ss)⟩
abbrev rSortedD : List V → Hp → VK → Prop := fun xs H Q => ∃ (a : Addr) (kvs : List (Key × V)) (ks : List Str), xs = [.ref a] ∧ Rd H a (.dK kvs) ∧ kvs.map (·.1) = ks.map Sum.inr ∧ ks.length < 64 ∧ ∀ ys p, ys.Perm ks → sortedS ys = true → H p = none → Q (.ref p) (upd H p (.lst (ys.map V.str)))
abbrev rSortedDI : List V → Hp → VK → Prop := fun xs H Q => ∃ (a : Addr) (kvs : List (Key × V)) (ks : List Int), xs = [.ref a] ∧ Rd H a (.dK kvs) ∧ kvs.map (·.1) = ks.map Sum.inl ∧ ∀ (ys : List Int) (p : Addr), ys.Perm ks → ys.Pairwise (· ≤ ·) → H p = none → Q (.ref p) (upd H p (.lst (ys.map V.int)))
theorem call_sortedDA {X : Cx} (hcalm : X.calm = true) : CallR X (.builtin "sorted") rSortedDI := by
  intro pins s σ H xs us Q I r ⟨a, kvs, ks, ex, hd, hks, q⟩
  subst ex
  obtain ⟨u, rfl, rx⟩ := vals1 r
  cases rx
  obtain ⟨hz, lo, vs, rel, dd⟩ := dk_rd I.hok hd
  obtain ⟨ep, hat⟩ := dd.dictAt
  have hkeys : vs.map (·.1) = ks.map Sum.inl := rel.keys.symm.trans hks
  have hl : vs.length = ks.length := by simpa using congrArg List.length hkeys
  have hz2 : vs.length ≤ sizeLine := by rw [← rel.length]; exact hz
  have hz3 : ks.length ≤ sizeLine := by rw [← hl]; exact hz2
  refine Calls.call_function_entry PyProof.Rows.kind_sorted PyProof.Rows.plain_sorted PyProof.Rows.entry_sorted (PyProof.Rows.args_sorted1 _) ?_
  unfold Builtin.«sorted»
  refine wpAny_bind (m := checkCount "sorted" 1 1 _) (wpAny_pure ?_)
  refine wpAny_bind (PySem.W.kdu_collect (A := X.A.in1) (PySem.W.kdl_dict (knd := mixKind X.prog X.w) (kvs := vs) (ep := ep) lo) (I.ok.hd hcalm) hat hz2 fun h1 tk acc hk hacc => ?_)
  have hal : acc.toList.length = ks.length := by rw [Array.length_toList, hacc.1, hl]
  have hS : IntsAre acc.toList ks := ints_each hal fun j v e => by
    obtain ⟨k, x, e1, e2⟩ := hacc.2 j v (by rw [← Array.getElem?_toList]; exact e)
    have e3 : (vs.map (·.1))[j]? = some k := by rw [List.getElem?_map, e1]; rfl
    rw [hkeys, List.getElem?_map] at e3
    cases e4 : ks[j]? with
    | none => rw [e4] at e3; cases e3
    | some y =>
      rw [e4] at e3
      have e5 : Sum.inl y = k := Option.some.inj e3
      subst e5
      rcases keyIs_shape (show keyIs (Sum.inl y) v = true from e2) with ⟨i, t, ek, ev⟩ | ⟨z, t, ek, ev⟩
      · cases ek
        exact ⟨y, t, rfl, ev⟩
      · cases ek
  have I1 : Inv X pins σ H { s with heap := h1, toks := tk } := I.kept hk
  refine wpAny_bind (wpAny_newList ?_ (by rw [hal]; exact hz3))
  have hoL : (h1.push (seqObj "list" acc.toList.toArray 0)).get? h1.objs.size = some (seqObj "list" acc.toList.toArray 0) := Heap.get?_push_size _ rfl
  show wpAny _ _ _ _ _ { s with heap := h1.push (seqObj "list" acc.toList.toArray 0), toks := tk }
  refine wpAny_bind (wpAny_holding (wpAny_call_entry PyProof.Rows.slot_list_sort ⟨_, hoL, rfl⟩ PyProof.Rows.entry_list_sort
    (SrtO.list_sort_ord (s := { s with heap := h1.push (seqObj "list" acc.toList.toArray 0), toks := tk }) SrtO.swo_int hoL (by rw [hal]; exact hz3) (fun h2 => SrtO.ints_sortable hS h2) fun out g1 g2 => ⟨_, rfl, ?_⟩) (PyProof.Rows.args_list_sort _)))
  obtain ⟨k1, k2, k3⟩ := SrtO.ints_out hS g1 g2
  obtain ⟨e', he'⟩ := PyProof.Rows.sortedHeap_at (vs := acc.toList) (out := out.toArray) hoL
  have hlen : ((out.map SrtO.iv).map V.int).length ≤ sizeLine := by
    rw [List.length_map, k2.length_eq]
    exact hz3
  refine wpAny_pure ⟨_, rfl, .ref h1.objs.size, upd H h1.objs.size (.lst ((out.map SrtO.iv).map V.int)), I1.laid (t' := tk) (fun b u e => ?_) (Nat.le_refl _)
    (show ObjOk X.prog X.w _ _ _ (.lst ((out.map SrtO.iv).map V.int)) from ⟨hlen, out, e', vals_of_ints k1, he'⟩), rfl, q _ _ k2 k3 (I1.hok.fresh (Nat.le_refl _))⟩
  have hb : b < h1.objs.size := Heap.lt_size e
  rw [PyProof.Rows.sortedHeap_old (Nat.ne_of_lt hb) (by rw [size_push']; exact Nat.lt_succ_of_lt hb)]
  exact Heap.get?_push_of_some _ e
theorem t_sortedM {K : KW} : TL K (fun xs H Q => (rSortedD xs H Q ∨ rSortedDI xs H Q) ∨ (rSortedI K xs H Q ∨ rSortedS K xs H Q)) sortedM := by
  intro μ st H xs us E Q sr r h
  cases xs with
  | nil => exact h.elim
  | cons x t =>
    cases t with
    | cons y t => exact h.elim
    | nil =>
      obtain ⟨u, rfl, rx⟩ := one_of r
      unfold sortedM at h
      dsimp only at h
      cases hd : dctOf x st with
      | some kvs =>
        rw [hd] at h
        dsimp only at h
        obtain ⟨n, a, kv, ex, rfl, ha, hc, h1, h2⟩ := dctOf_at sr rx hd
        cases hs : strsOf (kvs.map Prod.fst) with
        | some ss =>
          rw [hs] at h
          dsimp only at h
          by_cases hz : ss.length < 64
          · rw [if_pos hz] at h
            refine .inl (.inl ⟨a, kv, ss.map mkS, rfl, .of h1, krs_str h2 hs, by rw [List.length_map]; exact hz, fun ys p hp hso hf => ?_⟩)
            rw [sortS_str hp hso]
            exact post_lst sr vrs_strs hf h
          · rw [if_neg hz] at h; exact h.elim
        | none =>
          rw [hs] at h
          dsimp only at h
          cases hi : intsOf (kvs.map Prod.fst) with
          | none => rw [hi] at h; exact h.elim
          | some ns =>
            rw [hi] at h
            dsimp only at h
            refine .inl (.inr ⟨a, kv, ns, rfl, .of h1, krs_int h2 hi, fun ys p hp hso hf => ?_⟩)
            rw [sortI_of hp hso]
            exact post_lst sr VRs.ints hf h
      | none =>
        rw [hd] at h
        dsimp only at h
        cases hl : listOf x st with
        | none => rw [hl] at h; exact h.elim
        | some ys =>
          rw [hl] at h
          dsimp only at h
          obtain ⟨a, vs, rfl, h1, r1⟩ := listOf_at sr rx hl
          cases hi : intsOf ys with
          | some ns =>
            rw [hi] at h
            dsimp only at h
            have e := intsOf_at r1 hi
            subst e
            refine .inr (.inl ⟨a, ns, rfl, SqL.of h1, fun ys p hp hso hf => ?_⟩)
            rw [sortI_of hp hso]
            exact post_lst sr VRs.ints hf h
          | none =>
            rw [hi] at h
            dsimp only at h
            cases hs : strsOf ys with
            | none => rw [hs] at h; exact h.elim
            | some ss =>
              rw [hs] at h
              dsimp only at h
              by_cases hz : ss.length < 64
              · rw [if_pos hz] at h
                have e := strsOf_at r1 hs
                subst e
                refine .inr (.inr ⟨a, ss.map mkS, rfl, SqL.of h1, by rw [List.length_map]; exact hz, fun ys p hp hso hf => ?_⟩)
                rw [sortS_str hp hso]
                exact post_lst sr vrs_strs hf h
              · rw [if_neg hz] at h; exact h.elim
section
variable {X : Cx} {W : WX} {e : Expr} {p pos : Pos} {ma : Rho → M (List PV)}
theorem me_sorted (hc : X.calm = true) (hg : Gl X "sorted") (hm : X.mg "sorted" = none) (ha : MA X W [e] ma) (he : starEach [e] X.env = (false, eval e X.env) :: starEach [] X.env := by kernel_rfl) : ME X W (.Call (.Name "sorted" p) [e] [] pos) (eCall sortedM ma) :=
  me_callB (((call_sortedD hc).or (call_sortedDA hc)).or (cr_sortedI.or cr_sortedS)) t_sortedM hg hm (by decide +kernel) ha (by decide) (by decide) he rfl
end
end MP

set_option maxRecDepth 100000
set_option maxHeartbeats 1000000
namespace MP
open PySem L2
def IsG (K : KW) (H : Hp) (a : Addr) : Prop := (∃ xs, H a = some (leafD K.w a xs)) ∨ ∃ xs, H a = some (nestD K.w a xs)
theorem isG_at {X : Cx} {pins : List (Addr × Obj)} {σ : L2.St} {H : Hp} {s : Shared} {a : Addr} (I : Inv X pins σ H s) (d : IsG (kw X) H a) :
    s.TypeIs (.ref a) "dict" ∧ (∀ b, Value.ref a = .ref b → ∃ ob, s.heap.get? b = some ob ∧ ob.dict = none) := by
  rcases d with ⟨xs, e⟩ | ⟨xs, e⟩
  · obtain ⟨⟨o, es, ep, h1, h2, h3, h4⟩, _, _⟩ := (show ObjOk X.prog X.w H s.heap a (leafD X.w a xs) from I.hok a _ e)
    exact ⟨⟨o, h1, h2.1⟩, fun b q => by cases q; exact ⟨o, h1, h2.2.1⟩⟩
  · obtain ⟨⟨o, es, ep, h1, h2, h3, h4⟩, _, _⟩ := (show ObjOk X.prog X.w H s.heap a (nestD X.w a xs) from I.hok a _ e)
    exact ⟨⟨o, h1, h2.1⟩, fun b q => by cases q; exact ⟨o, h1, h2.2.1⟩⟩
def tGGet1 (K : KW) (td ty : TE) : TE := fun σ H Q => td σ H fun x H1 => ∃ a, x = .ref a ∧ IsG K H1 a ∧ ty σ H1 fun y H2 => ∃ o, GGet K H2 a y o ∧ Q (o.getD .non) H2
theorem pe_gget1 {X : Cx} {o e : Expr} {apos cpos : Pos} {td ty : TE} (hu : X.A.units + 64 < cLine) (ho : PE X o td) (he : PE X e ty) (m : M1 X o "get" apos e cpos) : PE X (.Call (.Attribute o "get" apos) [e] [] cpos) (tGGet1 (kw X) td ty) := by
  refine ⟨fun pins s σ H Q I h => ?_⟩
  refine wpAny_Call_method m.base m.few m.line PySem.F.plainAttrs_dict PySem.F.slot_dict_get PySem.F.type_dict_get (thn (ho.run pins s σ H _ I h) fun u s1 ⟨x, H1, I1, rx, a, ex, d, q1⟩ => ?_)
  subst ex
  obtain rfl : u = Value.ref a := rx
  obtain ⟨t1, t2⟩ := isG_at I1 d
  refine ⟨t1, t2, ?_⟩
  rw [m.trees]
  refine Calls.callWith_builtin rfl (Calls.evalArgs_plain (Calls.spliced_cons (thn (he.run pins s1 σ H1 _ I1 q1) fun iv s2 ⟨y, H2, I2, ry, ov, g, q2⟩ => Calls.spliced_nil ?_)))
  exact g_get1 hu I2 g ry fun w' s3 I3 rw' => ⟨_, H2, I3, rw', q2⟩
def isGd (x : PV) : M Unit := fun st => match x with
  | .loc n => match st[n]? with
    | some (.dcl _) => .ok () st
    | some (.dcn _) => .ok () st
    | _ => .bad
  | _ => .bad
def ggetM (x y : PV) : M PV := fun st => match gdOf x y st with
  | some kvs => .ok ((lookP kvs y).getD .non) st
  | none => .bad
def eGetG (mo me : Rho → M PV) : Rho → M PV := fun ρ => M.bind (mo ρ) fun x => M.bind (isGd x) fun _ => M.bind (me ρ) fun y => ggetM x y
theorem isGd_at {K : KW} {H : Hp} {μ : Mu} {st : Sto} {x : PV} {v : V} {α β : Type} {E : XK} {R : Hp → Mu → α → β → Prop} {Q : β → Hp → Prop} {k : Unit → M α} (sr : SR K μ st H) (r : VR K H μ x v)
    (h : PostG K E R Q μ H (M.bind (isGd x) k st)) : (∃ a, v = .ref a ∧ IsG K H a) ∧ PostG K E R Q μ H (k () st) := by
  unfold M.bind isGd at h
  cases x with
  | loc n =>
    obtain ⟨a, rfl, ha⟩ := loc_at r
    dsimp only at h
    cases q : st[n]? with
    | none => rw [q] at h; exact h.elim
    | some c =>
      rw [q] at h
      cases c with
      | dcl kvs =>
        obtain ⟨xs, e, _⟩ := sr.cell n _ a q ha
        exact ⟨⟨a, rfl, .inl ⟨xs, e⟩⟩, h⟩
      | dcn kvs =>
        obtain ⟨xs, e, _⟩ := sr.cell n _ a q ha
        exact ⟨⟨a, rfl, .inr ⟨xs, e⟩⟩, h⟩
      | lst xs => exact h.elim
      | dct xs => exact h.elim
      | ins C fs => exact h.elim
      | lck kvs => exact h.elim
  | _ => exact h.elim
theorem gget_at {K : KW} {H : Hp} {μ : Mu} {st : Sto} {x y : PV} {a : Addr} {v : V} {E : XK} {Q : V → Hp → Prop} (sr : SR K μ st H) (r : VR K H μ x (.ref a)) (ry : VR K H μ y v)
    (h : PostG K E (VR K) Q μ H (ggetM x y st)) : ∃ o, GGet K H a v o ∧ Q (o.getD .non) H := by
  unfold ggetM at h
  cases hd : gdOf x y st with
  | none => rw [hd] at h; exact h.elim
  | some kvs =>
    rw [hd] at h
    dsimp only at h
    obtain ⟨b, o, e, g, l1, l2⟩ := gdOf_at sr r ry hd
    cases e
    refine ⟨o, g, ?_⟩
    cases q : lookP kvs y with
    | none =>
      rw [l2 q]
      rw [q] at h
      exact post_same h sr rfl
    | some p =>
      obtain ⟨u, rfl, ru⟩ := l1 p q
      rw [q] at h
      exact post_same h sr ru
theorem me_getG {X : Cx} {W : WX} {o e : Expr} {apos cpos : Pos} {mo me : Rho → M PV} (hu : X.A.units + 64 < cLine) (ho : ME X W o mo) (he : ME X W e me) (hb : attributeBase o "get" X.env (eval o X.env) = eval o X.env := by kernel_rfl)
    (hf : ((backTo cpos (starEach [e] X.env)).all (fun x => !x.1) && (backToKw cpos (keywordEach [] X.env)).all (fun x => x.1.isSome)
      && decide (([e] : List Expr).length + ([] : List Keyword).length + (if ([] : List Keyword).isEmpty then 0 else 1) < 30)) = true := by kernel_rfl)
    (hl : (apos.endLine == cpos.line) = true := by kernel_rfl) (ht : backTo cpos (starEach [e] X.env) = [(false, eval e X.env)] := by kernel_rfl) :
    ME X W (.Call (.Attribute o "get" apos) [e] [] cpos) (eGetG mo me) :=
  PE.imp (pe_gget1 hu ho he ⟨hb, hf, hl, ht⟩) fun σ H Q ⟨μ, st, ρ, er, sr, h⟩ => ⟨μ, st, ρ, er, sr, (PostG.bind h).mono fun u H1 ⟨μ1, st1, x, g1, s1, rx, h1⟩ => by
    obtain ⟨⟨a, rfl, d⟩, h2⟩ := isGd_at s1 rx h1
    exact ⟨a, rfl, d, μ1, st1, ρ, er.mono g1, s1, (PostG.bind h2).mono fun v H2 ⟨μ2, st2, y, g2, s2, ry, h3⟩ => gget_at s2 (VR.mono g2 x _ rx) ry h3⟩⟩
end MP

set_option maxRecDepth 100000
set_option maxHeartbeats 1000000
namespace MP
open PySem L2
theorem ER.monov {K : PySem.W.Frag} {H H' : Hp} {μ μ' : Mu} {ρ : Rho} {σ : St} (g : Gv μ H μ' H') (e : ER K H μ ρ σ) : ER K H' μ' ρ σ :=
  ⟨e.len, fun i p h => let ⟨v, h1, h2⟩ := e.get i p h; ⟨v, h1, VR.monov g p v h2⟩⟩
def isLck (n : Nat) (kvs : List (PV × PV)) (st : Sto) : Bool := match st[n]? with
  | some (.lck k) => decide (k = kvs)
  | _ => false
theorem isLck_at {n : Nat} {kvs : List (PV × PV)} {st : Sto} (h : isLck n kvs st = true) : st[n]? = some (.lck kvs) := by
  unfold isLck at h
  split at h
  · rename_i k e
    rw [e, of_decide_eq_true h]
  · cases h
def unlk (n : Nat) (kvs : List (PV × PV)) (r : Res Fl) : Res Fl := match r with
  | .ok (.exc _ _) _ => .bad
  | .ok f st => if isLck n kvs st = true then .ok f (st.set n (.dct kvs)) else .bad
  | _ => .bad
def sForD (i : Nat) (g : GM) (b : Rho → M Fl) : Rho → M Fl := fun ρ st => match ρ[i]? with
  | some (some (.loc n)) => match st[n]? with
    | some (.dct kvs) => unlk n kvs (forL g b (kvs.map Prod.fst) ρ (st.set n (.lck kvs)))
    | _ => .bad
  | _ => sFor (iSeq (eVar i)) g b ρ st
section
variable {K : KW} {H H1 : Hp} {μ : Mu} {a : Addr} {n : Nat} {kvs : List (PV × PV)} {kv : List (Key × V)} {od : Obj}
theorem KRs.at : ∀ {kvs : List (PV × PV)} {kv : List (Key × V)} {i : Nat} {p : PV}, KRs K H μ kvs kv → (kvs.map Prod.fst)[i]? = some p → ∃ k v, kv[i]? = some (k, v) ∧ VR K H μ p (kV k)
  | [], _, _, _, _, e => by simp at e
  | q :: r, kv, 0, p, h, e => by
    obtain ⟨k, v, t, rfl, hk, _, _⟩ := h
    simp at e
    subst e
    refine ⟨k, v, rfl, ?_⟩
    cases hq : q.1 with
    | int i => rw [hq] at hk; cases hk; rfl
    | str x => rw [hq] at hk; cases hk; rfl
    | _ => rw [hq] at hk; cases hk
  | q :: r, kv, i + 1, p, h, e => by
    obtain ⟨k, v, t, rfl, hk, _, h2⟩ := h
    obtain ⟨k', v', e1, e2⟩ := KRs.at (i := i) (p := p) h2 (by simpa using e)
    exact ⟨k', v', by simpa using e1, e2⟩
theorem sup_keys (ha : μ.l[n]? = some a) (hf : H a = some (.frz od (.dK kv))) (hr : KRs K H μ kvs kv) : Sup K (Itk a od kv) (kvs.map Prod.fst) μ H := by
  intro μ' H' st g sr
  have hf' := g.fz a _ _ hf
  have hr' := KRs.mono g.v _ _ hr
  have hl := KRs.length hr
  refine ⟨fun i p hp => ?_, hf', by rw [List.length_map, hl]; exact Nat.le_refl _⟩
  obtain ⟨k, v, e1, e2⟩ := KRs.at hr' hp
  refine ⟨⟨hf', (List.getElem?_eq_some_iff.mp e1).1⟩, fun x H2 ⟨eh, k', v', e3, ex⟩ => ?_⟩
  subst eh ex
  rw [e1] at e3
  cases e3
  exact ⟨Gr.refl _ _, sr, e2⟩
theorem gr_unlk {μ2 : Mu} {H2 : Hp} {u : HO} (ha : μ.l[n]? = some a) (h0 : H a = some (.dK kv)) (g : Gr μ (upd H a (.frz od (.dK kv))) μ2 H2) : Gr μ H μ2 (upd H2 a u) := by
  have nn : ∀ b, upd H a (.frz od (.dK kv)) b = none → H b = none := fun b e => by
    by_cases hb : b = a
    · rw [hb, upd_same] at e; cases e
    · rw [upd_ne hb] at e; exact e
  refine ⟨g.pre, g.ban, fun b m => ?_, fun b m => ?_, fun b o e nb => ?_, fun b o x e => ?_⟩
  · rcases g.bnew b m with z | z
    · exact .inl z
    · exact .inr (nn b z)
  · rcases g.new b m with z | z
    · exact .inl z
    · exact .inr (nn b z)
  · have hb : b ≠ a := fun z => nb (by rw [z]; exact List.mem_of_getElem? ha)
    rw [upd_ne hb]
    exact g.keep b o (by rw [upd_ne hb]; exact e) nb
  · have hb : b ≠ a := fun z => by rw [z, h0] at e; cases e
    rw [upd_ne hb]
    exact g.fz b o x (by rw [upd_ne hb]; exact e)
theorem sr_unlk {μ2 : Mu} {H2 : Hp} {st : Sto} (ha : μ2.l[n]? = some a) (hf : H2 a = some (.frz od (.dK kv))) (s : SR K μ2 st H2) (hl : st[n]? = some (.lck kvs)) : SR K μ2 (st.set n (.dct kvs)) (upd H2 a (.dK kv)) := by
  obtain ⟨o, kv', e, r⟩ := s.cell n _ a hl ha
  rw [hf] at e
  cases e
  exact s.put ha ⟨kv, upd_same, KRs.mono (gv_put ha) _ _ r⟩
def unEnds (D : Ends) (a : Addr) (od : Obj) (u : HO) : Ends := ⟨fun σ' H' => H' a = some (.frz od u) ∧ D.nx σ' (upd H' a u), fun v H' => H' a = some (.frz od u) ∧ D.rt v (upd H' a u), fun σ' H' => H' a = some (.frz od u) ∧ D.bk σ' (upd H' a u), fun σ' H' => H' a = some (.frz od u) ∧ D.ct σ' (upd H' a u)⟩
theorem post_unlk {W : WX} {D : Ends} {μ1 : Mu} {r : Res Fl} (ha : μ.l[n]? = some a) (h0 : H a = some (.dK kv)) (g : Gr μ (upd H a (.frz od (.dK kv))) μ1 H1) (h : PostS K W D μ H (unlk n kvs r)) : PostS K W (unEnds D a od (.dK kv)) μ1 H1 r := by
  have fz0 : ∀ {μ2 : Mu} {H2 : Hp}, Gr μ1 H1 μ2 H2 → H2 a = some (.frz od (.dK kv)) := fun g2 => g2.fz a _ _ (g.fz a _ _ upd_same)
  have gt : ∀ {μ2 : Mu} {H2 : Hp} {st : Sto}, Gr μ1 H1 μ2 H2 → SR K μ2 st H2 → Gr μ (upd H a (.frz od (.dK kv))) μ2 H2 := fun g2 s2 => g.trans g2 fun b m => (s2.ban b m).1
  cases r with
  | bad => exact h.elim
  | err x st => exact h.elim
  | ok f st =>
    cases f with
    | exc x ρ => exact h.elim
    | next ρ =>
      obtain ⟨hl, h⟩ := PostS.ifG h
      intro μ2 H2 σ2 g2 s2 e2
      have g3 := gt g2 s2
      have ha2 := g3.get ha
      exact ⟨fz0 g2, h μ2 _ σ2 (gr_unlk ha h0 g3) (sr_unlk ha2 (fz0 g2) s2 (isLck_at hl)) (e2.monov (gv_put ha2))⟩
    | ret p =>
      obtain ⟨hl, h⟩ := PostS.ifG h
      intro μ2 H2 v g2 s2 e2
      have g3 := gt g2 s2
      have ha2 := g3.get ha
      exact ⟨fz0 g2, h μ2 _ v (gr_unlk ha h0 g3) (sr_unlk ha2 (fz0 g2) s2 (isLck_at hl)) (VR.monov (gv_put ha2) _ _ e2)⟩
    | brk ρ =>
      obtain ⟨hl, h⟩ := PostS.ifG h
      intro μ2 H2 σ2 g2 s2 e2
      have g3 := gt g2 s2
      have ha2 := g3.get ha
      exact ⟨fz0 g2, h μ2 _ σ2 (gr_unlk ha h0 g3) (sr_unlk ha2 (fz0 g2) s2 (isLck_at hl)) (e2.monov (gv_put ha2))⟩
    | cont ρ =>
      obtain ⟨hl, h⟩ := PostS.ifG h
      intro μ2 H2 σ2 g2 s2 e2
      have g3 := gt g2 s2
      have ha2 := g3.get ha
      exact ⟨fz0 g2, h μ2 _ σ2 (gr_unlk ha h0 g3) (sr_unlk ha2 (fz0 g2) s2 (isLck_at hl)) (e2.monov (gv_put ha2))⟩
end
theorem ms_forD {X : Cx} {W : WX} {pos npos : Pos} {x : Str} {i : Nat} {tg : Expr} {body : List Stmt} {g : GM} {m : Rho → M Fl} (hp : PassesOwn (model X.prog X.w) X.A X.env X.xe) (hc : X.calm = true) (he : ME X W (.Name x npos) (eVar i)) (hg : MG X W tg g) (hb : MSs X W body m)
    (hs : ∀ v, foldedSetIterable (.Name x npos) X.env v = pure v := by intro _; kernel_rfl) : MS X W (.For tg (.Name x npos) body [] pos) (sForD i g m) := by
  refine ⟨fun pins s σ H D I h => ?_⟩
  obtain ⟨μ, st, ρ, er, sr, h⟩ := h
  have plain : PostS (kw X) W D μ H (sFor (iSeq (eVar i)) g m ρ st) → _ := fun h' => (ms_for (pos := pos) hp hc (mi_seq he) hg hb hs).run pins s σ H D I ⟨μ, st, ρ, er, sr, h'⟩
  unfold sForD at h
  cases q : ρ[i]? with
  | none => rw [q] at h; exact plain h
  | some o =>
    cases o with
    | none => rw [q] at h; exact plain h
    | some v =>
      cases v with
      | loc n =>
        rw [q] at h
        dsimp only at h
        cases qc : st[n]? with
        | none => rw [qc] at h; exact h.elim
        | some c =>
          rw [qc] at h
          cases c with
          | dct kvs =>
            dsimp only at h
            obtain ⟨v, ev, rv⟩ := er.get i _ q
            obtain ⟨a, rfl, ha⟩ := loc_at rv
            obtain ⟨kv, h1, h2⟩ := sr.cell n _ a qc ha
            refine (ps_lock (ps_for (pos := pos) hp hc (pi_keys he) hg hb hs)).run pins s σ H D I ⟨a, .dK kv, h1, True.intro, fun od => ?_⟩
            have gv : Gv μ H μ (upd H a (.frz od (.dK kv))) := gv_put ha
            have r1 := KRs.mono gv _ _ h2
            refine ⟨μ, st.set n (.lck kvs), ρ, er.monov gv, sr.put ha ⟨od, kv, upd_same, r1⟩, ?_⟩
            unfold eVar
            rw [q]
            intro μ2 H2 u g2 s2 ru
            obtain ⟨a2, rfl, ha2⟩ := loc_at ru
            have ea : a2 = a := Option.some.inj (ha2.symm.trans (g2.get ha))
            subst ea
            have hf := g2.fz a2 _ _ upd_same
            refine ⟨a2, od, rfl, .inl ⟨kv, hf, ?_⟩⟩
            exact for_imp (sup_keys ha2 hf (KRs.mono g2.v _ _ r1)) ((er.monov gv).mono g2) s2 (post_unlk ha h1 g2 h)
          | lst xs => exact h.elim
          | ins C fs => exact h.elim
          | dcl k => exact h.elim
          | dcn k => exact h.elim
          | lck k => exact h.elim
      | _ => rw [q] at h; exact plain h
end MP

set_option maxRecDepth 100000
set_option maxHeartbeats 1000000
namespace MP
open PySem L2 PySem.Spec PyProof.Rows
abbrev eG1 (h : Heap) (T : String) (u : Value) : Heap := h.push { cls := .type T, data := .fields #[u, .int 0 0] }
abbrev eG2 (h : Heap) (T : String) (u : Value) : Heap := (eG1 h T u).push { cls := .type "enumerate", data := .fields #[.none, .bool false, .ref h.objs.size, rawInt 0, .none, .none] }
theorem meets_enumG_new (T : String) (u : Value) : Meets (Builtin.«enumerate.__new__» ⟨[.type "enumerate", u], []⟩) (fun _ R s => IterOf u T s.heap ∧ R (.ok (.ret (.ref (eG1 s.heap T u).objs.size))) { s with heap := eG2 s.heap T u }) :=
  .of_wp fun prog w A R s h => by
    obtain ⟨hp, g, d, tk, os⟩ := s; obtain ⟨hl, h⟩ := h
    have hsub := sub_enumerate
    have hL : IterOf u T (Shared.heap ⟨hp, g, d, tk, os⟩) := hl
    wp_walk using iter_of hL
    refine wpAny_stack_any fun st => wpAny_pure ?_
    split
    · rename_i c _ _ _ _ _
      cases (c == Value.type "enumerate") <;> (wp_walk using iter_of hL; exact ⟨_, rfl, h⟩)
    · wp_walk using iter_of hL
      exact ⟨_, rfl, h⟩
section
variable {prog : Program} {w : World} {A : Around} {E : Value → Shared → Prop} {s : Shared}
theorem call_enumG {T : String} {u : Value} {Q : Value → Shared → Prop} (hl : IterOf u T s.heap)
    (h : ∀ h', IsEnum h' (s.heap.objs.size + 1) s.heap.objs.size 0 .none → ItS T u s.heap.objs.size 0 h' → (∀ b o, s.heap.get? b = some o → h'.get? b = some o) → Q (.ref (s.heap.objs.size + 1)) { s with heap := h' }) :
    wpAny (model prog w) A (call (.type "enumerate") [u]) Q E s := by
  refine callType_new F.called_enumerate (by decide) (F.typeCall_enumerate_1 _) (F.newCall_enumerate_1 _) (fun obj => F.args_object_init_2 obj _) F.entry_enumerate_new (meets_enumG_new T u) ⟨hl, ?_⟩
  have hz : (eG1 s.heap T u).objs.size = s.heap.objs.size + 1 := Heap.size_push ..
  have g2 : (eG2 s.heap T u).get? (eG1 s.heap T u).objs.size = some _ := Heap.get?_push_size _ rfl
  have g1 : (eG2 s.heap T u).get? s.heap.objs.size = some _ := Heap.get?_push_of_some _ (Heap.get?_push_size _ rfl)
  show _ ∧ _
  rw [hz] at g2 ⊢
  exact ⟨⟨_, g2, rfl⟩, h _ g2 ⟨_, g1, rfl, rfl⟩ fun c o x => Heap.get?_push_of_some _ (Heap.get?_push_of_some _ x)⟩
end
def ItE (K : PySem.W.Frag) (k : Sk) : It :=
  ⟨fun i H => ∃ (xs : List V) (x : V), k.at K H xs ∧ xs[i]? = some x, fun i H v H' => ∃ T x, v = .ref T ∧ H T = none ∧ H' = upd H T (.tup [.int (i : Nat), x]) ∧ ∀ xs, k.at K H xs → xs[i]? = some x, fun i H => ∃ xs : List V, k.at K H xs ∧ i = xs.length⟩
theorem turn_enumG {P : Program} {w : World} {K : PySem.W.Frag} {elts : List Expr} {kk : Nat} {tpos : Pos} {k : Sk} {u : Value} {B : Nat} (r : RelV k.val u) (hb0 : ∀ a, u = .ref a → a < B) :
    Turn P w K (.Tuple elts kk tpos) (ItE K k) [B + 1, B] (B + 1) (fun i h => (∃ old, IsEnum h (B + 1) B ((i : Nat) : Int) old) ∧ ItS k.ty u B i h) where
  mem := by simp
  obj := fun i h st c hc => by
    obtain ⟨⟨old, he⟩, ⟨o1, e1, _, d1⟩⟩ := st
    have e' : c = B + 1 ∨ c = B := by simpa using hc
    rcases e' with q | q
    · rw [q]; exact ⟨_, he, fun v q => nomatch q⟩
    · rw [q]; exact ⟨o1, e1, fun v q => by rw [d1] at q; cases q⟩
  keep := fun i h h' st kp => by
    obtain ⟨⟨old, he⟩, h1⟩ := st
    exact ⟨⟨old, kp (B + 1) (by simp) _ he⟩, h1.at fun o q => kp B (by simp) o q⟩
  item := by
    intro X hP hw hK hc i pins s σ H E I hf st hg
    subst hP hw hK
    obtain ⟨⟨old, he⟩, s1⟩ := st
    obtain ⟨xs, x, hqx, hx⟩ := hg
    obtain ⟨fp1, P1, St1, D1, t1, m1, f1, b1, v1⟩ := draws_of (A := X.A.in1) (show X.A.in1.handled = none from I.ok.hd hc) I hqx r (fun a e => Nat.ne_of_lt (hb0 a e)) s1
    have ne : ∀ (a b : Nat), a ≠ b → ((a : Addr) ≠ b) := fun _ _ h => h
    have hef : B + 1 ∉ fp1 := fun hm => by
      rcases f1 _ hm with z | z
      · exact absurd z (ne _ _ (by omega))
      · exact absurd (show (B + 1 : Nat) < B from hb0 _ z) (by omega)
    have hel : B + 1 < s.heap.objs.size := Heap.lt_size he
    refine wpAny_pyNext_enum_itemD D1 he t1 (List.getElem?_eq_some_iff.mp hx).1 (ne _ _ (by omega)) hef fun y h' tk p1 ho d1 hT hsz hk => ?_
    obtain ⟨x', ex, rx⟩ := v1 y p1
    have ex' : x = x' := Option.some.inj (hx.symm.trans ex)
    subst ex'
    refine ⟨_, rfl, wpAny_letOwnedTupleGo_enum (s := { s with heap := h', toks := tk + 1 }) ho fun h'' he' sb => ?_⟩
    have hT2 : h''.get? s.heap.objs.size = some { cls := .type "tuple", data := .seq #[.int i tk, y] } := (sb.2 _ (Nat.ne_of_gt hel)).trans hT
    have new : ObjOk X.prog X.w (upd H s.heap.objs.size (.tup [.int (i : Nat), x])) h'' s.heap.objs.size (.tup [.int (i : Nat), x]) :=
      ⟨by show 2 ≤ sizeLine; decide, [.int i tk, y], .cons ⟨_, rfl⟩ (.cons rx .nil), ⟨_, hT2, rfl, _, rfl⟩⟩
    have I1 : Inv X pins σ (upd H s.heap.objs.size (.tup [.int (i : Nat), x])) { s with heap := h'', toks := tk + 1 } :=
      I.turnedNew (t' := tk + 1) (ch := [B + 1, B]) (fun c o hcm q => (sb.2 c (fun q' => hcm (by simp [q']))).trans (hk c o (fun q' => hcm (by simp [q'])) (fun q' => hcm (by simp [q'])) q)) hf (Nat.le_refl _) new
    refine ⟨.ref s.heap.objs.size, _, I1, rfl, ⟨_, x, rfl, I.hok.fresh (Nat.le_refl _), rfl, fun l hl => by rw [at_inj I hl hqx]; exact hx⟩, ⟨⟨y, ?_⟩, ?_⟩, fun c hcm => ?_⟩
    · have e1 : ((i + 1 : Nat) : Int) = (i : Int) + 1 := by omega
      rw [e1]; exact he'
    · exact (b1 _ _ d1).at fun o q => (sb.2 _ (ne _ _ (by omega))).trans q
    · have hlt : c < s.heap.objs.size := by
        have e' : c = B + 1 ∨ c = B := by simpa using hcm
        rcases e' with q | q
        · rw [q]; exact hel
        · rw [q]; obtain ⟨_, e1, _⟩ := s1; exact Heap.lt_size e1
      rw [upd_ne (Nat.ne_of_lt hlt)]
      exact (hf c hcm).1
  done := by
    intro X hP hw hK hc i pins s σ H E I hf st hg
    subst hP hw hK
    obtain ⟨⟨old, he⟩, s1⟩ := st
    obtain ⟨xs, hqx, hend⟩ := hg
    subst hend
    obtain ⟨fp1, P1, St1, D1, t1, m1, f1, b1, v1⟩ := draws_of (A := X.A.in1) (show X.A.in1.handled = none from I.ok.hd hc) I hqx r (fun a e => Nat.ne_of_lt (hb0 a e)) s1
    exact wpAny_pyNext_enum_endD D1 he t1 fun h' eb => ⟨rfl, I.turnedL (t' := s.toks) (ch := [B + 1, B]) (fun c o hcm q => eb c o (fun q' => hcm (by simp [q'])) q) hf⟩
  self := fun A i s Q E st h => let ⟨⟨_, he⟩, _⟩ := st; wpAny_pyIter_enum he h
def iEnumG (K : PySem.W.Frag) (ta : TA) : TI := fun σ H R => ta σ H fun vs H1 => ∃ (k : Sk) (xs : List V), vs = [k.val] ∧ k.at K H1 xs ∧ R (ItE K k) H1
theorem pi_enumG {X : Cx} {e : Expr} {ta : TA} {p pos tpos : Pos} {elts : List Expr} {kk : Nat} (hg : Gl X "enumerate") (hm : X.mg "enumerate" = none) (ha : PA X [e] ta) (hs : starEach [e] X.env = [(false, eval e X.env)] := by rfl) :
    PI X (.Tuple elts kk tpos) (.Call (.Name "enumerate" p) [e] [] pos) (iEnumG X.K ta) := by
  refine ⟨fun pins s σ H R I h => ?_⟩
  refine Call_ (ld_blt I hg hm boot_enumerate (PyProof.Rows.callWith_type1 (thn (ha.run pos pins s σ H _ I h) fun us s1 ⟨vs, H1, I1, r1, q1⟩ => ?_) hs rfl))
  obtain ⟨k, xs, ex, hqx, q⟩ := q1
  subst ex
  cases r1 with
  | cons r rr =>
    cases rr
    obtain ⟨i1, l1⟩ := iterOf_of I1 hqx r
    refine call_enumG i1 fun h' he h1 hk => wpAny_pyIter_enum he ?_
    have I2 : Inv X pins σ H1 { s1 with heap := h' } := I1.kept (t' := s1.toks) hk
    refine ⟨s1.heap.objs.size + 1, [s1.heap.objs.size + 1, s1.heap.objs.size], _, _, H1, rfl, I2, turn_enumG r l1, ⟨⟨.none, he⟩, h1⟩, fun b hb => ?_, q⟩
    have e' : b = s1.heap.objs.size + 1 ∨ b = s1.heap.objs.size := by simpa using hb
    have hle : s1.heap.objs.size ≤ b := by
      rcases e' with z | z
      · rw [z]; exact Nat.le_add_right _ _
      · rw [z]; exact Nat.le_refl _
    exact I1.fpOk hle (I1.hok.fresh hle)
theorem sup_enumG {K : KW} {H : Hp} {μ : Mu} {ps : List PV} {vs : List V} {k : Sk} (t1 : ∀ μ' H', Gr μ H μ' H' → k.at K H' vs) (r : VRs K H μ ps vs) : Sup K (ItE K k) (enumP ps) μ H := fun μ' H' st g sr => by
  have q1 := t1 μ' H' g
  refine ⟨fun i p hp => ?_, ⟨vs, q1, by unfold enumP; rw [List.length_mapIdx, VRs.length r]⟩⟩
  unfold enumP at hp
  rw [List.getElem?_mapIdx] at hp
  cases hq : ps[i]? with
  | none => rw [hq] at hp; cases hp
  | some p0 =>
    rw [hq] at hp
    cases hp
    obtain ⟨u, e1, f1⟩ := VRs.get (VRs.mono g ps vs r) hq
    refine ⟨⟨vs, u, q1, e1⟩, fun z H2 hz => ?_⟩
    obtain ⟨T, x', ex, hT, eh, hx⟩ := hz
    subst ex eh
    have ev : u = x' := Option.some.inj (e1.symm.trans (hx vs q1))
    subst ev
    refine ⟨gr_new hT, sr.new hT, ?_⟩
    refine (show ∃ a zs, V.ref T = .ref a ∧ TupAt K (upd H' T (.tup [.int (i : Nat), u])) μ' a zs ∧ VRs K (upd H' T (.tup [.int (i : Nat), u])) μ' [.int (i : Nat), p0] zs from ⟨T, _, rfl, ?_, VRs.cons rfl (VRs.cons (VR.mono (gr_new hT) _ _ f1) VRs.nil)⟩)
    exact .inl ⟨upd_same, sr.free hT⟩
def enumG (xs : List PV) : M (List PV) := match xs with
  | [p] => match skOf p with
    | some ps => M.ret (enumP ps)
    | none => M.fail
  | _ => M.fail
theorem mi_enumG {X : Cx} {W : WX} {e : Expr} {p pos tpos : Pos} {elts : List Expr} {kk : Nat} {ma : Rho → M (List PV)} (hg : Gl X "enumerate") (hm : X.mg "enumerate" = none) (ha : MA X W [e] ma) (hs : starEach [e] X.env = [(false, eval e X.env)] := by kernel_rfl) :
    MI X W (.Tuple elts kk tpos) (.Call (.Name "enumerate" p) [e] [] pos) (iCall enumG ma) :=
  PI.imp (pi_enumG hg hm ha hs) fun σ H R ⟨μ, st, ρ, er, sr, h⟩ => ⟨μ, st, ρ, er, sr, (PostG.bind h).mono fun us H1 ⟨μ1, st1, xs, g1, s1, rxs, h1⟩ => by
    unfold enumG at h1
    split at h1
    · rename_i q
      obtain ⟨u, rfl, ru⟩ := one_of rxs
      cases hk : skOf q with
      | none => rw [hk] at h1; exact h1.elim
      | some ps =>
        rw [hk] at h1
        obtain ⟨k, vs, rfl, t, rs⟩ := sk_at ru hk
        exact ⟨k, vs, rfl, t μ1 H1 (Gr.refl _ _), h1 μ1 H1 _ (Gr.refl _ _) s1 (sup_enumG t rs)⟩
    · exact h1.elim⟩
end MP

set_option maxRecDepth 100000
set_option maxHeartbeats 1000000
namespace MP
open PySem L2
theorem fold_app (x : Array Nat) : ∀ (k : Nat) (acc : Array Nat), ((List.replicate k x).foldl (· ++ ·) acc).toList = acc.toList ++ (List.replicate k x.toList).flatten
  | 0, acc => by simp
  | k + 1, acc => by
    rw [List.replicate_succ, List.foldl_cons, fold_app x k, List.replicate_succ, List.flatten_cons]
    simp
theorem fold_app0 (x : Array Nat) (k : Nat) : (List.replicate k x).foldl (· ++ ·) #[] = (List.replicate k x.toList).flatten.toArray := by
  apply Array.toList_inj.mp
  rw [fold_app]
  simp
theorem op_mulS {X : Cx} : OpR X (binaryOp .Mult) (fun x y H Q => ∃ (a : Str) (k : Int), x = .str a ∧ y = .int k ∧ -1000000 ≤ k ∧ k ≤ 1000 ∧ a.length ≤ 1000 ∧ Q (.str ⟨(List.replicate k.toNat a.cps.toList).flatten.toArray⟩) H) := by
  intro pins s σ H x y v u Q I rx ry h
  obtain ⟨a, k, rfl, rfl, h1, h2, h3, q⟩ := h
  obtain ⟨t, rfl⟩ := rx
  obtain ⟨t', rfl⟩ := ry
  refine P.mul_str ?_ ?_ ?_ ?_
  · rw [decide_eq_false (by omega), decide_eq_false (by omega)]; rfl
  · intro h4 _ h5
    have e1 : (2 ^ 63 - 1 : Int) / 1000 ≤ (2 ^ 63 - 1 : Int) / k := by
      have hk : 0 < k := by omega
      have e3 : k * ((2 ^ 63 - 1 : Int) / 1000) ≤ 1000 * ((2 ^ 63 - 1 : Int) / 1000) := Int.mul_le_mul_of_nonneg_right h2 (by decide)
      have e4 : 1000 * ((2 ^ 63 - 1 : Int) / 1000) ≤ 2 ^ 63 - 1 := by decide
      exact (Int.le_ediv_iff_mul_le hk).mpr (by rw [Int.mul_comm]; omega)
    have e2 : (1000 : Int) < (2 ^ 63 - 1 : Int) / 1000 := by decide
    omega
  · intro h4 _
    have e : a.length * k.toNat ≤ 1000 * 1000 := Nat.mul_le_mul h3 (by omega)
    exact decide_eq_false (fun z => by
      have := sizeLine_eq
      have z' : sizeLine < a.length * k.toNat := z
      omega)
  · by_cases h4 : k < 1
    · rw [if_pos h4]
      refine ⟨by decide, .str ⟨(List.replicate k.toNat a.cps.toList).flatten.toArray⟩, H, I.tok _, ?_, q⟩
      have : k.toNat = 0 := by omega
      rw [this]
      exact ⟨_, rfl⟩
    · rw [if_neg h4]
      by_cases h5 : (k == 1 || a.length == 0) = true
      · rw [if_pos h5]
        refine ⟨.str ⟨(List.replicate k.toNat a.cps.toList).flatten.toArray⟩, H, I, ?_, q⟩
        have e : (⟨(List.replicate k.toNat a.cps.toList).flatten.toArray⟩ : Str) = a := by
          rcases Bool.or_eq_true _ _ ▸ h5 with h6 | h6
          · have : k.toNat = 1 := by have := eq_of_beq h6; omega
            rw [this]
            simp
          · have h7 : a.cps.size = 0 := eq_of_beq h6
            have h8 : a.cps = #[] := Array.eq_empty_of_size_eq_zero h7
            obtain ⟨c⟩ := a
            simp at h8
            subst h8
            simp
        rw [e]
        exact ⟨t, rfl⟩
      · rw [if_neg h5]
        have e : ((List.replicate k.toNat a.cps).foldl (· ++ ·) #[]) = (List.replicate k.toNat a.cps.toList).flatten.toArray := fold_app0 _ _
        rw [e]
        refine ⟨?_, .str ⟨(List.replicate k.toNat a.cps.toList).flatten.toArray⟩, H, I.tok _, ⟨_, rfl⟩, q⟩
        show (⟨(List.replicate k.toNat a.cps.toList).flatten.toArray⟩ : Str).cps.size ≤ _
        have e : k.toNat * a.length ≤ 1000 * 1000 := Nat.mul_le_mul (by omega) h3
        have e2 : a.cps.toList.length = a.length := by simp [Str.length]
        simp [List.length_flatten, e2]
        have := sizeLine_eq
        omega
def mulS (x y : PV) : M PV := match x, y with
  | .str a, .int k => if -1000000 ≤ k ∧ k ≤ 1000 ∧ a.length ≤ 1000 then M.ret (.str (List.replicate k.toNat a).flatten) else M.fail
  | _, _ => M.fail
theorem t_mulS {K : KW} : T2 K (fun x y H Q => ∃ (a : Str) (k : Int), x = .str a ∧ y = .int k ∧ -1000000 ≤ k ∧ k ≤ 1000 ∧ a.length ≤ 1000 ∧ Q (.str ⟨(List.replicate k.toNat a.cps.toList).flatten.toArray⟩) H) mulS := by
  intro μ st H x y u v E Q sr rx ry h
  unfold mulS at h
  split at h
  · rename_i a k
    cases (show u = V.str ⟨a.toArray⟩ from rx)
    cases (show v = V.int k from ry)
    by_cases hz : -1000000 ≤ k ∧ k ≤ 1000 ∧ a.length ≤ 1000
    · rw [if_pos hz] at h
      refine ⟨⟨a.toArray⟩, k, rfl, rfl, hz.1, hz.2.1, by rw [str_len]; exact hz.2.2, ?_⟩
      exact post_same h sr rfl
    · rw [if_neg hz] at h
      exact h.elim
  · exact h.elim
theorem me_mulS {X : Cx} {W : WX} {a b : Expr} {pos : Pos} {ma mb : Rho → M PV} (ha : ME X W a ma) (hb : ME X W b mb) : ME X W (.BinOp a .Mult b pos) (eBin mulS ma mb) := me_bin op_mulS t_mulS ha hb
end MP

set_option maxRecDepth 100000
set_option maxHeartbeats 1000000
namespace MP
open PySem L2
def fV : V → Bool
  | .non => true
  | .int _ => true
  | .str _ => true
  | _ => false
theorem eqAt_flat {A : Around} {s : Shared} {x y : V} {v u : Value} (hx : fV x = true) (hy : fV y = true) (rx : RelV x v) (ry : RelV y u) : SeqAt.EqAt A s v u (decide (x = y)) := by
  cases x <;> simp [fV] at hx <;> cases y <;> simp [fV] at hy
  case non.non => cases rx; cases ry; exact SeqAt.EqAt.same _
  case non.int => cases rx; obtain ⟨t, rfl⟩ := ry; exact SeqAt.EqAt.none_int _ _
  case non.str => cases rx; obtain ⟨t, rfl⟩ := ry; exact SeqAt.EqAt.none_str _ _
  case int.non => cases ry; obtain ⟨t, rfl⟩ := rx; exact SeqAt.EqAt.int_none _ _
  case int.int i j =>
    obtain ⟨t, rfl⟩ := rx; obtain ⟨t', rfl⟩ := ry
    refine (SeqAt.EqAt.int_int i t j t').cast ?_
    by_cases h : i = j
    · subst h; simp
    · rw [decide_eq_false (fun z => h (V.int.inj z))]; simpa using h
  case int.str => obtain ⟨t, rfl⟩ := rx; obtain ⟨t', rfl⟩ := ry; exact SeqAt.EqAt.int_str _ _ _ _
  case str.non => cases ry; obtain ⟨t, rfl⟩ := rx; exact SeqAt.EqAt.str_none _ _
  case str.int => obtain ⟨t, rfl⟩ := rx; obtain ⟨t', rfl⟩ := ry; exact SeqAt.EqAt.str_int _ _ _ _
  case str.str a b =>
    obtain ⟨t, rfl⟩ := rx; obtain ⟨t', rfl⟩ := ry
    refine (SeqAt.EqAt.str_str a t b t').cast ?_
    by_cases h : a = b
    · subst h; simp
    · rw [decide_eq_false (fun z => h (V.str.inj z))]; simpa using h
def dEqV (ks ls : List (Key × V)) : Bool := (ks.length == ls.length) && ks.all fun p => decide (valV ls p.1 = some p.2)
def rEqDD (n : Bool) : R2 := fun x y H Q => ∃ a b ks ls, x = .ref a ∧ y = .ref b ∧ H a = some (.dK ks) ∧ H b = some (.dK ls) ∧ ks.all (fun p => fV p.2) = true ∧ ls.all (fun p => fV p.2) = true ∧ Q (.bl (ng n (dEqV ks ls))) H
theorem hits_of {A : Around} {s : Shared} {ls : List (Key × V)} {vb : List (Key × Value)} (rb : KV ls vb) (fl : ls.all (fun p => fV p.2) = true) {ks : List (Key × V)} {va : List (Key × Value)} (ra : KV ks va) (fk : ks.all (fun p => fV p.2) = true) :
    PySem.W.KeqHits A s vb va (ks.all fun p => decide (valV ls p.1 = some p.2)) := by
  unfold KV at ra
  induction ra with
  | nil => exact .nil
  | @cons p q ps qs h t ih =>
    rw [List.all_cons, Bool.and_eq_true] at fk
    rw [List.all_cons]
    obtain ⟨h1, h2⟩ := h
    obtain ⟨key, v⟩ := q
    have h1' : p.1 = key := h1
    subst h1'
    have rr := rb.val p.1
    cases e : valV ls p.1 with
    | none =>
      rw [e] at rr
      simp only [reduceCtorEq, decide_false, Bool.false_and]
      exact .miss (RelO.none_of rr)
    | some u =>
      rw [e] at rr
      obtain ⟨y, hy, ry⟩ := rr.some_of
      have fu : fV u = true := by
        have hm : ∃ p' ∈ ls, p'.2 = u := by
          unfold valV at e
          obtain ⟨p', e1, e2⟩ := Option.map_eq_some_iff.mp e
          exact ⟨p', List.mem_of_find?_eq_some e1, e2⟩
        obtain ⟨p', m, rfl⟩ := hm
        exact List.all_eq_true.mp fl p' m
      have hh := PySem.W.KeqHits.hit hy (eqAt_flat (A := A) (s := s) fk.1 fu h2 ry) (ih fk.2)
      have e2 : decide (p.2 = u) = decide (some u = some p.2) := by
        by_cases z : p.2 = u
        · subst z; simp
        · rw [decide_eq_false z, decide_eq_false (fun w => z (Option.some.inj w).symm)]
      rw [e2] at hh
      exact hh
theorem op_eqDD {X : Cx} (hu : X.A.units + 64 < cLine) : OpR X (compareOp .Eq) (rEqDD false) := by
  intro pins s σ H x y v u Q I rx ry h
  obtain ⟨a, b, ks, ls, rfl, rfl, ha, hb, fk, fl, q⟩ := h
  cases rx; cases ry
  obtain ⟨_, la, va, ra, da⟩ := dk_of I.hok ha
  obtain ⟨_, lb, vb, rb, db⟩ := dk_of I.hok hb
  refine PySem.W.keq_eq la lb da db (by omega) (fun _ => hits_of rb fl ra fk) ⟨.bl (dEqV ks ls), H, I, ?_, q⟩
  rw [← ra.length, ← rb.length]; rfl
theorem op_neDD {X : Cx} (hu : X.A.units + 64 < cLine) : OpR X (compareOp .NotEq) (rEqDD true) := by
  intro pins s σ H x y v u Q I rx ry h
  obtain ⟨a, b, ks, ls, rfl, rfl, ha, hb, fk, fl, q⟩ := h
  cases rx; cases ry
  obtain ⟨_, la, va, ra, da⟩ := dk_of I.hok ha
  obtain ⟨_, lb, vb, rb, db⟩ := dk_of I.hok hb
  refine PySem.W.keq_ne la lb da db (by omega) (fun _ => hits_of rb fl ra fk) ⟨.bl (!dEqV ks ls), H, I, ?_, q⟩
  rw [← ra.length, ← rb.length]; rfl
def flP : PV → Bool
  | .non => true
  | .int _ => true
  | .str _ => true
  | _ => false
def dEqP (kx ky : List (PV × PV)) : Bool := (kx.length == ky.length) && kx.all fun p => decide (lookP ky p.1 = some p.2)
theorem flP_V {K : PySem.W.Frag} {H : Hp} {μ : Mu} {p : PV} {v : V} (h : flP p = true) (r : VR K H μ p v) : fV v = true := by
  cases p <;> simp [flP] at h
  · cases (show v = V.non from r); rfl
  · rename_i i; cases (show v = V.int i from r); rfl
  · rename_i i; cases (show v = V.str ⟨i.toArray⟩ from r); rfl
theorem flP_dec {K : PySem.W.Frag} {H : Hp} {μ : Mu} {p q : PV} {v u : V} (h : flP p = true) (h' : flP q = true) (r : VR K H μ p v) (r' : VR K H μ q u) : (v = u) = (p = q) := by
  cases p <;> simp [flP] at h <;> cases q <;> simp [flP] at h'
  all_goals (first | cases (show v = V.non from r) | cases (show v = V.int _ from r) | cases (show v = V.str _ from r))
  all_goals (first | cases (show u = V.non from r') | cases (show u = V.int _ from r') | cases (show u = V.str _ from r'))
  all_goals simp
theorem KRs.flat {K : PySem.W.Frag} {H : Hp} {μ : Mu} : ∀ {kvs : List (PV × PV)} {kv : List (Key × V)}, KRs K H μ kvs kv → kvs.all (fun p => flP p.2) = true → kv.all (fun p => fV p.2) = true
  | [], kv, h, _ => by have e : kv = [] := h; subst e; rfl
  | p :: r, kv, h, f => by
    obtain ⟨k, v, t, rfl, _, rv, rt⟩ := h
    rw [List.all_cons, Bool.and_eq_true] at f ⊢
    exact ⟨flP_V f.1 rv, KRs.flat rt f.2⟩
theorem lookP_mem {ky : List (PV × PV)} {k p : PV} (h : lookP ky k = some p) : ∃ q ∈ ky, q.2 = p := by
  induction ky with
  | nil => cases h
  | cons q r ih =>
    unfold lookP at h
    by_cases e : q.1 = k
    · rw [if_pos e] at h; cases h; exact ⟨q, List.mem_cons_self, rfl⟩
    · rw [if_neg e] at h
      obtain ⟨q', m, e'⟩ := ih h
      exact ⟨q', List.mem_cons_of_mem _ m, e'⟩
theorem dEq_of {K : PySem.W.Frag} {H : Hp} {μ : Mu} {ky : List (PV × PV)} {ls : List (Key × V)} (rl : KRs K H μ ky ls) (fl : ky.all (fun p => flP p.2) = true) : ∀ {kx : List (PV × PV)} {ks : List (Key × V)}, KRs K H μ kx ks → kx.all (fun p => flP p.2) = true →
    (ks.all fun p => decide (valV ls p.1 = some p.2)) = (kx.all fun p => decide (lookP ky p.1 = some p.2))
  | [], ks, h, _ => by have e : ks = [] := h; subst e; rfl
  | p :: r, ks, h, f => by
    obtain ⟨k, v, t, rfl, hk, rv, rt⟩ := h
    rw [List.all_cons, Bool.and_eq_true] at f
    rw [List.all_cons, List.all_cons, dEq_of rl fl rt f.2]
    congr 1
    obtain ⟨l1, l2⟩ := KRs.look hk rl
    cases e : lookP ky p.1 with
    | none => rw [l2 e]; simp
    | some q =>
      obtain ⟨w, ew, rw'⟩ := l1 q e
      obtain ⟨z, m, rfl⟩ := lookP_mem e
      have fz : flP z.2 = true := List.all_eq_true.mp fl z m
      rw [ew]
      have := flP_dec fz f.1 rw' rv
      simp [this]
def eqG (n : Bool) (x y : PV) : M PV := fun st => match dctOf x st, dctOf y st with
  | some kx, some ky => if (kx.all (fun p => flP p.2) && ky.all (fun p => flP p.2)) = true then .ok (.bl (ng n (dEqP kx ky))) st else .bad
  | _, _ => .bad
theorem t_eqG {K : KW} {n : Bool} : T2 K (rEqDD n) (eqG n) := by
  intro μ st H x y u v E Q sr rx ry h
  unfold eqG at h
  cases hx : dctOf x st with
  | none => rw [hx] at h; exact h.elim
  | some kx =>
    cases hy : dctOf y st with
    | none => rw [hx, hy] at h; exact h.elim
    | some ky =>
      rw [hx, hy] at h
      dsimp only at h
      by_cases hf : (kx.all (fun p => flP p.2) && ky.all (fun p => flP p.2)) = true
      · rw [if_pos hf] at h
        rw [Bool.and_eq_true] at hf
        obtain ⟨_, a, ks, _, rfl, _, _, h1, h2⟩ := dctOf_at sr rx hx
        obtain ⟨_, b, ls, _, rfl, _, _, h3, h4⟩ := dctOf_at sr ry hy
        refine ⟨a, b, ks, ls, rfl, rfl, h1, h3, KRs.flat h2 hf.1, KRs.flat h4 hf.2, ?_⟩
        have e : dEqV ks ls = dEqP kx ky := by
          unfold dEqV dEqP
          rw [dEq_of h4 hf.2 h2 hf.1, KRs.length h2, KRs.length h4]
        rw [e]
        exact post_same h sr rfl
      · rw [if_neg hf] at h
        exact h.elim
section
variable {X : Cx} {W : WX} {a b : Expr} {pos : Pos} {ma mb : Rho → M PV}
theorem me_eqG (hu : X.A.units + 64 < cLine) (ha : ME X W a ma) (hb : ME X W b mb) : ME X W (.Compare a [.Eq] [b] pos) (eBin (eqG false) ma mb) := me_cmp (op_eqDD hu) t_eqG ha hb (nomark _)
theorem me_neG (hu : X.A.units + 64 < cLine) (ha : ME X W a ma) (hb : ME X W b mb) : ME X W (.Compare a [.NotEq] [b] pos) (eBin (eqG true) ma mb) := me_cmp (op_neDD hu) t_eqG ha hb (nomark _)
theorem mt_eqG (hu : X.A.units + 64 < cLine) (ha : ME X W a ma) (hb : ME X W b mb) : MT X W (.Compare a [.Eq] [b] pos) (eB (eBin (eqG false) ma mb)) := mt_cmp (op_eqDD hu) t_eqG ha hb (nomark _)
theorem mt_neG (hu : X.A.units + 64 < cLine) (ha : ME X W a ma) (hb : ME X W b mb) : MT X W (.Compare a [.NotEq] [b] pos) (eB (eBin (eqG true) ma mb)) := mt_cmp (op_neDD hu) t_eqG ha hb (nomark _)
end
end MP

set_option maxRecDepth 100000
set_option maxHeartbeats 1000000
namespace MP
open PySem L2
abbrev GI := (Sto → Bool) × List PV
def yesG : Sto → Bool := fun _ => true
theorem Sup.g {K : KW} {J : It} {ps : List PV} {μ : Mu} {H : Hp} (h : Sup K J ps μ H) : SupG K J ps yesG μ H := fun μ' H' st g s _ => h μ' H' st g s
def tMIG (K : KW) (W : WX) (m : Rho → M GI) : TI := fun σ H R => ∃ μ st ρ, ER K H μ ρ σ ∧ SR K μ st H ∧ PostG K (fun c d H' => W c d σ H') (fun H μ gx (J : It) => SupG K J gx.2 gx.1 μ H) R μ H (m ρ st)
def MIG (X : Cx) (W : WX) (tg iter : Expr) (m : Rho → M GI) : Prop := PI X tg iter (tMIG (kw X) W m)
def anyM (v : PV) : M GI := fun st => match v with
  | .tup xs => .ok (yesG, xs) st
  | .lst xs => .ok (yesG, xs) st
  | .frz xs => .ok (yesG, xs) st
  | .str z => .ok (yesG, z.map fun c => .str [c]) st
  | .loc n => match st[n]? with
    | some (.lst xs) => .ok (gd n xs, xs) st
    | _ => .bad
  | _ => .bad
def iAny (m : Rho → M PV) : Rho → M GI := fun ρ => M.bind (m ρ) anyM
def enumA (v : PV) : M GI := fun st => match v with
  | .tup xs => .ok (yesG, enumP xs) st
  | .lst xs => .ok (yesG, enumP xs) st
  | .frz xs => .ok (yesG, enumP xs) st
  | .str z => .ok (yesG, enumP (z.map fun c => .str [c])) st
  | .loc n => match st[n]? with
    | some (.lst xs) => .ok (gd n xs, enumP xs) st
    | _ => .bad
  | _ => .bad
def iEnumA (m : Rho → M PV) : Rho → M GI := fun ρ => M.bind (m ρ) enumA
theorem sup_cellG {K : KW} {H : Hp} {μ : Mu} {a : Addr} {n : Nat} {xs : List PV} (ha : μ.l[n]? = some a) : SupG K (ItE K (.l a)) (enumP xs) (gd n xs) μ H := fun μ' H' st g sr hG => by
  obtain ⟨vs, q0, r⟩ := sr.cell n _ a (gd_at hG) (g.get ha)
  have q : (Sk.l a).at K H' vs := SqL.of q0
  refine ⟨fun i p hp => ?_, ⟨vs, q, by unfold enumP; rw [List.length_mapIdx, VRs.length r]⟩⟩
  unfold enumP at hp
  rw [List.getElem?_mapIdx] at hp
  cases hq : xs[i]? with
  | none => rw [hq] at hp; cases hp
  | some p0 =>
    rw [hq] at hp
    cases hp
    obtain ⟨v, e1, e2⟩ := VRs.get r hq
    refine ⟨⟨vs, v, q, e1⟩, fun x H2 ⟨T, y, ex, hT, eh, hy⟩ => ?_⟩
    subst ex eh
    have ev : v = y := Option.some.inj (e1.symm.trans (hy vs q))
    subst ev
    refine ⟨gr_new hT, sr.new hT, ?_⟩
    refine (show ∃ a ws, V.ref T = .ref a ∧ TupAt K (upd H' T (.tup [.int (i : Nat), v])) μ' a ws ∧ VRs K (upd H' T (.tup [.int (i : Nat), v])) μ' [.int (i : Nat), p0] ws from ⟨T, _, rfl, ?_, VRs.cons rfl (VRs.cons (VR.mono (gr_new hT) _ _ e2) VRs.nil)⟩)
    exact .inl ⟨upd_same, sr.free hT⟩
section
variable {X : Cx} {W : WX} {tg e : Expr} {me : Rho → M PV}
theorem mig_any (he : ME X W e me) : MIG X W tg e (iAny me) :=
  PI.imp (PI.or (pi_tup he) (PI.or (pi_list he) (pi_str he))) fun σ H R ⟨μ, st, ρ, er, sr, h⟩ => by
    unfold iAny M.bind at h
    cases q : me ρ st with
    | bad => rw [q] at h; exact h.elim
    | err x st' =>
      rw [q] at h
      refine .inl ⟨μ, st, ρ, er, sr, ?_⟩
      rw [q]
      exact h
    | ok v st' =>
      rw [q] at h
      dsimp only at h
      unfold anyM at h
      cases v with
      | tup xs =>
        refine .inl ⟨μ, st, ρ, er, sr, ?_⟩
        rw [q]
        intro μ1 H1 u g1 s1 ru
        obtain ⟨a, vs, rfl, t, rs⟩ := tup_at ru
        exact ⟨a, rfl, ⟨vs, t.sq⟩, h μ1 H1 _ g1 s1 (sup_tup t rs).g⟩
      | lst xs =>
        refine .inr (.inl ⟨μ, st, ρ, er, sr, ?_⟩)
        rw [q]
        intro μ1 H1 u g1 s1 ru
        obtain ⟨a, vs, rfl, t, rs⟩ := lst_at ru
        exact ⟨a, rfl, ⟨vs, t.sq⟩, h μ1 H1 _ g1 s1 (sup_lst (fun _ _ g => (t.grow g).sq) rs).g⟩
      | frz xs =>
        refine .inr (.inl ⟨μ, st, ρ, er, sr, ?_⟩)
        rw [q]
        intro μ1 H1 u g1 s1 ru
        obtain ⟨a, vs, rfl, t, rs⟩ := frz_at ru
        exact ⟨a, rfl, ⟨vs, t.sq⟩, h μ1 H1 _ g1 s1 (sup_lst (fun _ _ g => (t.grow g).sq) rs).g⟩
      | str z =>
        refine .inr (.inr ⟨μ, st, ρ, er, sr, ?_⟩)
        rw [q]
        intro μ1 H1 u g1 s1 ru
        cases (show u = V.str ⟨z.toArray⟩ from ru)
        exact ⟨_, rfl, h μ1 H1 _ g1 s1 sup_str.g⟩
      | loc n =>
        dsimp only at h
        cases qc : st'[n]? with
        | none => rw [qc] at h; exact h.elim
        | some c =>
          rw [qc] at h
          cases c with
          | lst xs =>
            refine .inr (.inl ⟨μ, st, ρ, er, sr, ?_⟩)
            rw [q]
            intro μ1 H1 u g1 s1 ru
            obtain ⟨a, rfl, ha⟩ := loc_at ru
            obtain ⟨vs, q0, r⟩ := s1.cell n _ a qc ha
            exact ⟨a, rfl, ⟨vs, SqL.of q0⟩, h μ1 H1 _ g1 s1 (sup_cell ha)⟩
          | _ => exact h.elim
      | _ => exact h.elim
theorem mig_enum {p pos tpos : Pos} {elts : List Expr} {kk : Nat} (hg : Gl X "enumerate") (hm : X.mg "enumerate" = none) (he : ME X W e me) (hs : starEach [e] X.env = [(false, eval e X.env)] := by kernel_rfl) :
    MIG X W (.Tuple elts kk tpos) (.Call (.Name "enumerate" p) [e] [] pos) (iEnumA me) := PI.imp (pi_enumG hg hm (ma_cons he ma_nil hs) hs) fun σ H R ⟨μ, st, ρ, er, sr, h⟩ => ⟨μ, st, ρ, er, sr, by
  have h0 := (PostG.bind (R' := VR X.K) h)
  unfold aCons
  refine PostG.tieA h0 fun u H1 ⟨μ1, st1, v, g1, s1, rv, h1⟩ => ?_
  unfold enumA at h1
  cases v with
  | tup xs =>
    obtain ⟨k, vs, rfl, t, rs⟩ := sk_at rv (show skOf (.tup xs) = some xs from rfl)
    exact ⟨k, vs, rfl, t μ1 H1 (Gr.refl _ _), h1 μ1 H1 _ (Gr.refl _ _) s1 (sup_enumG t rs).g⟩
  | lst xs =>
    obtain ⟨k, vs, rfl, t, rs⟩ := sk_at rv (show skOf (.lst xs) = some xs from rfl)
    exact ⟨k, vs, rfl, t μ1 H1 (Gr.refl _ _), h1 μ1 H1 _ (Gr.refl _ _) s1 (sup_enumG t rs).g⟩
  | frz xs =>
    obtain ⟨k, vs, rfl, t, rs⟩ := sk_at rv (show skOf (.frz xs) = some xs from rfl)
    exact ⟨k, vs, rfl, t μ1 H1 (Gr.refl _ _), h1 μ1 H1 _ (Gr.refl _ _) s1 (sup_enumG t rs).g⟩
  | str z =>
    obtain ⟨k, vs, rfl, t, rs⟩ := sk_at rv (show skOf (.str z) = some (z.map fun c => .str [c]) from rfl)
    exact ⟨k, vs, rfl, t μ1 H1 (Gr.refl _ _), h1 μ1 H1 _ (Gr.refl _ _) s1 (sup_enumG t rs).g⟩
  | loc n =>
    dsimp only at h1
    cases q : st1[n]? with
    | none => rw [q] at h1; exact h1.elim
    | some c =>
      rw [q] at h1
      cases c with
      | lst xs =>
        obtain ⟨a, rfl, ha⟩ := loc_at rv
        obtain ⟨vs, q0, r⟩ := s1.cell n _ a q ha
        exact ⟨.l a, vs, rfl, SqL.of q0, h1 μ1 H1 _ (Gr.refl _ _) s1 (sup_cellG ha)⟩
      | _ => exact h1.elim
  | _ => exact h1.elim⟩
variable {pos : Pos} {m : Rho → M Fl}
def sForA (mi : Rho → M GI) (g : GM) (b : Rho → M Fl) : Rho → M Fl := fun ρ => onErr ρ (mi ρ) fun gx => forG gx.1 g b gx.2 ρ
theorem ms_forA {iter : Expr} {body : List Stmt} {mi : Rho → M GI} {g : GM} (hp : PassesOwn (model X.prog X.w) X.A X.env X.xe) (hc : X.calm = true) (hi : MIG X W tg iter mi) (hg : MG X W tg g) (hb : MSs X W body m)
    (hs : ∀ x, foldedSetIterable iter X.env x = pure x := by intro _; kernel_rfl) : MS X W (.For tg iter body [] pos) (sForA mi g m) :=
  PS.imp (ps_for hp hc hi hg hb hs) fun D σ H ⟨μ, st, ρ, er, sr, h⟩ => ⟨μ, st, ρ, er, sr, (PostS.onErr h er).mono fun J H1 ⟨μ1, st1, gx, g1, s1, su, h1⟩ => for_impG su (er.mono g1) s1 h1⟩
def eLcA (k : List PV → M PV) (mi : Rho → M GI) (g : GM) (t : Rho → M Bool) (e : Rho → M PV) (vs : List Nat) : Rho → M PV := fun ρ => M.bind (mi ρ) fun gx => M.bind (lcG gx.1 g t e (wipeP ρ vs) gx.2 []) k
theorem lc_tieA {mi : Rho → M GI} {g0 : TG} {g : GM} {t : Rho → M Bool} {e : Rho → M PV} {k : List PV → M PV} {vs : List Nat} (tg : TGo (kw X) vs g0 g) (le : LcEnd (kw X) k) : ∀ σ H Q, tM (kw X) W (eLcA k mi g t e vs) σ H Q → tLc (tMIG (kw X) W mi) g0 (tMT (kw X) W0 t) (tM (kw X) W0 e) vs σ H Q :=
  fun σ H Q ⟨μ, st, ρ, er, sr, h⟩ => ⟨μ, st, ρ, er, sr, (PostG.bind h).mono fun J H1 ⟨μ1, st1, gx, g1, s1, su, h1⟩ D hD => lc_impG su (er.mono g1) s1 tg le hD h1⟩
theorem me_lcA {elt tgt iter : Expr} {ifs : List Expr} {scope : Scope} {own : List (Str × Nat)} {pos : Pos} {mi : Rho → M GI} {g0 : TG} {g : GM} {t : Rho → M Bool} {e : Rho → M PV} {k : List PV → M PV} (hc : X.calm = true) (hN : X.N.Nodup) (hi : MIG X W tgt iter mi) (ok : BlkOk X.N X.env.scope scope own) (tg : TGo (kw X) (own.map (·.2)) g0 g) (le : LcEnd (kw X) k)
    (hg : ∀ (s : Shared) (H : Hp) (C : Addr) (cl : List (Str × Addr)) (fp : List Addr), PG (X.blk s H scope (compEnvC scope cl C X.env) fp) tgt g0)
    (ht : ∀ (s : Shared) (H : Hp) (C : Addr) (cl : List (Str × Addr)) (fp : List Addr), MTs (X.blk s H scope (compEnvC scope cl C X.env) fp) W0 ifs t)
    (he : ∀ (s : Shared) (H : Hp) (C : Addr) (cl : List (Str × Addr)) (fp : List Addr), ME (X.blk s H scope (compEnvC scope cl C X.env) fp) W0 elt e) (hs : ∀ x, foldedSetIterable iter X.env x = pure x := by intro _; kernel_rfl) :
    ME X W (.ListComp elt [⟨tgt, iter, ifs, 0⟩] scope pos) (eLcA k mi g t e (own.map (·.2))) := PE.imp (pe_lc (tt := tMT (kw X) W0 t) (te := tM (kw X) W0 e) hc hN hi ok hg ht he hs) (lc_tieA tg le)
theorem ms_setLcA {i : Nat} {y : Str} {py spos : Pos} {elt tgt iter : Expr} {ifs : List Expr} {scope : Scope} {own : List (Str × Nat)} {pos : Pos} {mi : Rho → M GI} {g0 : TG} {g : GM} {t : Rho → M Bool} {e : Rho → M PV} {k : List PV → M PV} (hc : X.calm = true) (hN : X.N.Nodup) (hy : X.N[i]? = some y) (hyl : X.env.scope.names.lookup y = some .local)
    (hsw : swapsWith (.ListComp elt [⟨tgt, iter, ifs, 0⟩] scope pos) (some (.Name y py)) spos.line X.env = pure true) (hi : MIG X W tgt iter mi) (ok : BlkOk X.N X.env.scope scope own) (tg : TGo (kw X) (own.map (·.2)) g0 g) (le : LcEnd (kw X) k)
    (hg : ∀ (s : Shared) (H : Hp) (C : Addr) (cl : List (Str × Addr)) (fp : List Addr), PG (X.blk s H scope (compEnvC scope cl C X.env) fp) tgt g0)
    (ht : ∀ (s : Shared) (H : Hp) (C : Addr) (cl : List (Str × Addr)) (fp : List Addr), MTs (X.blk s H scope (compEnvC scope cl C X.env) fp) W0 ifs t)
    (he : ∀ (s : Shared) (H : Hp) (C : Addr) (cl : List (Str × Addr)) (fp : List Addr), ME (X.blk s H scope (compEnvC scope cl C X.env) fp) W0 elt e) (hs : ∀ x, foldedSetIterable iter X.env x = pure x := by intro _; kernel_rfl) :
    MS X W (.Assign [.Name y py] (.ListComp elt [⟨tgt, iter, ifs, 0⟩] scope pos) spos) (sSet i (eLcA k mi g t e (own.map (·.2)))) := PS.imp (ps_setLc (tt := tMT (kw X) W0 t) (te := tM (kw X) W0 e) hc hN hy hyl hsw hi ok hg ht he hs) fun D σ H ⟨μ, st, ρ, er, sr, h⟩ =>
      lc_tieA tg le σ H _ ⟨μ, st, ρ, er, sr, (PostS.onErr h er).mono fun u H1 ⟨μ1, st1, x, g1, s1, rx, h1⟩ => h1 μ1 H1 _ (Gr.refl _ _) s1 ((er.mono g1).set rx i)⟩
end
end MP

set_option maxRecDepth 100000
namespace MP
open PySem L2 PySem.Spec PyProof.Rows
def maxI : Int → List Int → Int
  | a, [] => a
  | a, b :: r => maxI (if b > a then b else a) r
def minI : Int → List Int → Int
  | a, [] => a
  | a, b :: r => minI (if b < a then b else a) r
theorem maxI_ge : ∀ (r : List Int) (a : Int), a ≤ maxI a r ∧ ∀ y ∈ r, y ≤ maxI a r
  | [], a => ⟨Int.le_refl _, fun y h => by cases h⟩
  | b :: r, a => by
    obtain ⟨h1, h2⟩ := maxI_ge r (if b > a then b else a)
    have h3 : a ≤ (if b > a then b else a) ∧ b ≤ (if b > a then b else a) := by split <;> omega
    refine ⟨Int.le_trans h3.1 h1, fun y hy => ?_⟩
    rcases List.mem_cons.mp hy with e | e
    · subst e; exact Int.le_trans h3.2 h1
    · exact h2 y e
theorem maxI_mem : ∀ (r : List Int) (a : Int), maxI a r ∈ a :: r
  | [], a => by simp [maxI]
  | b :: r, a => by
    have h := maxI_mem r (if b > a then b else a)
    simp only [maxI]
    rcases List.mem_cons.mp h with e | e
    · rw [e]; split <;> simp
    · simp [e]
theorem minI_le : ∀ (r : List Int) (a : Int), minI a r ≤ a ∧ ∀ y ∈ r, minI a r ≤ y
  | [], a => ⟨Int.le_refl _, fun y h => by cases h⟩
  | b :: r, a => by
    obtain ⟨h1, h2⟩ := minI_le r (if b < a then b else a)
    have h3 : (if b < a then b else a) ≤ a ∧ (if b < a then b else a) ≤ b := by split <;> omega
    refine ⟨Int.le_trans h1 h3.1, fun y hy => ?_⟩
    rcases List.mem_cons.mp hy with e | e
    · subst e; exact Int.le_trans h1 h3.2
    · exact h2 y e
theorem minI_mem : ∀ (r : List Int) (a : Int), minI a r ∈ a :: r
  | [], a => by simp [minI]
  | b :: r, a => by
    have h := minI_mem r (if b < a then b else a)
    simp only [minI]
    rcases List.mem_cons.mp h with e | e
    · rw [e]; split <;> simp
    · simp [e]
def maxL (xs : List PV) : M PV := fun st => match xs with
  | [x] => match lstOf x st with
    | some ys => match intsOf ys with
      | some (n :: ns) => .ok (.int (maxI n ns)) st
      | _ => .bad
    | none => .bad
  | _ => .bad
def minL (xs : List PV) : M PV := fun st => match xs with
  | [x] => match lstOf x st with
    | some ys => match intsOf ys with
      | some (n :: ns) => .ok (.int (minI n ns)) st
      | _ => .bad
    | none => .bad
  | _ => .bad
theorem t_maxL {K : KW} : TL K (rMax K) maxL := by
  intro μ st H xs us E Q sr r h
  unfold maxL at h
  cases xs with
  | nil => exact h.elim
  | cons x t =>
    cases t with
    | cons y t => exact h.elim
    | nil =>
      obtain ⟨u, rfl, rx⟩ := one_of r
      dsimp only at h
      cases q : lstOf x st with
      | none => rw [q] at h; exact h.elim
      | some ys =>
        rw [q] at h
        dsimp only at h
        cases q2 : intsOf ys with
        | none => rw [q2] at h; exact h.elim
        | some ns =>
          rw [q2] at h
          cases ns with
          | nil => exact h.elim
          | cons n ns =>
            obtain ⟨a, vs, rfl, l, rs⟩ := lstOf_at sr rx q
            have e := intsOf_at rs q2
            subst e
            refine ⟨a, n :: ns, rfl, l, by simp, fun m hm hy => ?_⟩
            have e : m = maxI n ns := by
              have h1 := hy _ (maxI_mem ns n)
              obtain ⟨g1, g2⟩ := maxI_ge ns n
              rcases List.mem_cons.mp hm with e | e
              · subst e; omega
              · have := g2 m e; omega
            rw [e]
            exact post_same h sr rfl
theorem t_minL {K : KW} : TL K (rMin K) minL := by
  intro μ st H xs us E Q sr r h
  unfold minL at h
  cases xs with
  | nil => exact h.elim
  | cons x t =>
    cases t with
    | cons y t => exact h.elim
    | nil =>
      obtain ⟨u, rfl, rx⟩ := one_of r
      dsimp only at h
      cases q : lstOf x st with
      | none => rw [q] at h; exact h.elim
      | some ys =>
        rw [q] at h
        dsimp only at h
        cases q2 : intsOf ys with
        | none => rw [q2] at h; exact h.elim
        | some ns =>
          rw [q2] at h
          cases ns with
          | nil => exact h.elim
          | cons n ns =>
            obtain ⟨a, vs, rfl, l, rs⟩ := lstOf_at sr rx q
            have e := intsOf_at rs q2
            subst e
            refine ⟨a, n :: ns, rfl, l, by simp, fun m hm hy => ?_⟩
            have e : m = minI n ns := by
              have h1 := hy _ (minI_mem ns n)
              obtain ⟨g1, g2⟩ := minI_le ns n
              rcases List.mem_cons.mp hm with e | e
              · subst e; omega
              · have := g2 m e; omega
            rw [e]
            exact post_same h sr rfl
section
variable {X : Cx} {W : WX} {e : Expr} {p pos : Pos} {ma : Rho → M (List PV)}
theorem me_maxL (hc : X.calm = true) (hg : Gl X "max") (hm : X.mg "max" = none) (ha : MA X W [e] ma) (he : starEach [e] X.env = (false, eval e X.env) :: starEach [] X.env := by kernel_rfl) : ME X W (.Call (.Name "max" p) [e] [] pos) (eCall maxL ma) :=
  me_callB (cr_max hc) t_maxL hg hm (by decide +kernel) ha (by decide) (by decide) he rfl
theorem me_minL (hc : X.calm = true) (hg : Gl X "min") (hm : X.mg "min" = none) (ha : MA X W [e] ma) (he : starEach [e] X.env = (false, eval e X.env) :: starEach [] X.env := by kernel_rfl) : ME X W (.Call (.Name "min" p) [e] [] pos) (eCall minL ma) :=
  me_callB (cr_min hc) t_minL hg hm (by decide +kernel) ha (by decide) (by decide) he rfl
end
section
variable {prog : Program} {w : World} {A : Around} {E : Value → Shared → Prop} {s : Shared} {x : Str} {t : Tok}
theorem hint_str {Q : Bool → Shared → Prop} (h : Q false s) : wpAny (model prog w) A (Builtin.List.listLengthHint (.str x t)) Q E s := by
  have hT := typeIs_str s x t
  unfold Builtin.List.listLengthHint
  refine wpAny_bind (wpAny_specialOf hT PySem.F.slot_str_len.lookup ?_)
  generalize hid : ("str.__len__" : String) = id0
  wp_delta
  rw [show splitId id0 = some ("str", "__len__") from by subst hid; decide +kernel]
  subst hid
  refine wpAny_bind (wpAny_isInstance (T := "str") (b := true) hT (by rw [isSubtype_type]; kernel_rfl) ?_)
  refine wpAny_ite_split (fun hab => absurd hab (by decide)) (fun _ => ?_)
  refine wpAny_ite_split (fun _ => ?_) (fun hab => absurd (by decide +kernel) hab)
  refine wpAny_bind (wpAny_typeOf hT ?_)
  exact wpAny_pure h
theorem extend_str {R : Result → Shared → Prop} (hh : A.handled = none) (S : Addr) (res : Value) (c0 : Nat) (hS : s.heap.get? S = some { cls := .type "list", data := .seq #[] c0 })
    (hR : ∀ h' tk acc' c', (∀ b o, b ≠ S → s.heap.get? b = some o → h'.get? b = some o) → h'.get? S = some { cls := .type "list", dict := none, data := .seq acc' c', slots := #[] } → ItemsOf (SignAt x) acc' x.cps.size → R (.ok (.ret res)) { s with heap := h', toks := tk }) (hn : x.cps.size ≤ sizeLine) :
    wpAny (model prog w) A.in1 (Builtin.List.listExtendWith (.ref S) (.str x t) res)
      (fun fin s' => match fin with | .done f => R (.ok f) s' | .again c' => c'.quiet = true ∧ codeAny (model prog w) A c' R s') (fun e s' => R (.error e) s') s := by
  have hSI : S ≠ s.heap.objs.size := Nat.ne_of_lt (Heap.lt_size hS)
  have hSf : S ∉ [s.heap.objs.size] := by simpa using hSI
  unfold Builtin.List.listExtendWith
  refine wpAny_bind (wpAny_typeOf (T := "str") (typeIs_str s x t) ?_)
  have h1 : Builtin.List.listSameRef (.ref S) (.str x t) = false := by simp [Builtin.List.listSameRef]
  have h2 : (Value.type "str" == Value.type "list") = false := by decide
  have h3 : (Value.type "str" == Value.type "tuple") = false := by decide
  simp only [h1, h2, h3, Bool.or_false, Bool.false_eq_true, if_false]
  refine wpAny_bind (wpAny_pyIter_str fun oI St W st => ?_)
  have key : ∀ (h : Heap) (c1 tk : Nat), St 0 h → (∀ b o, b ≠ S → s.heap.get? b = some o → h.get? b = some o) →
      h.get? S = some { cls := .type "list", data := .seq #[] c1 } → codeAny (model prog w) A (.builtin "list.extend.loop" ⟨[.ref S, .ref s.heap.objs.size, res], []⟩) R { s with heap := h, toks := tk } := by
    intro h c1 tk hst hk hS1
    refine codeAny_extend_loopS (W A.in1 hh).toS hn S hSf res x.cps.size 0 _ #[] c1 rfl (Nat.zero_le _) hst hS1 (ItemsOf.nil _) fun s' acc' c' hm hS' hacc => ?_
    rw [Moved.eq_with hm]
    refine hR s'.heap s'.toks acc' c' (fun b o hb e => hm.heap b o (fun hmem => ?_) (hk b o hb e)) hS' hacc
    rcases List.mem_cons.mp hmem with e' | hmem
    · exact hb e'
    · exact absurd (Heap.lt_size e) (by rw [List.mem_singleton.mp hmem]; exact Nat.lt_irrefl _)
  have hS1 := Heap.get?_push_of_some oI hS
  refine wpAny_bind (wpAny_holding (hint_str ?_))
  refine wpAny_ite_split (fun _ => ?_) (fun _ => wpAny_pure ⟨plainId_quiet PySem.F.plain_extend_loop _, key _ c0 _ st (fun b o _ e => Heap.get?_push_of_some _ e) hS1⟩)
  refine wpAny_bind (wpAny_rule ?_)
  refine wpAny_bind ?_
  show wpAny _ _ (updateSeq S (·.push .none) >>= fun _ => updateSeq S (·.pop)) _ _ _
  refine wpAny_bind (wpAny_updateSeq hS1 rfl ?_)
  have hS2 := Heap.get?_update_self (Obj.mapSeq (·.push Value.none)) hS1 rfl
  refine wpAny_updateSeq (hz := by seq_fits) hS2 rfl ?_
  have hS3 := Heap.get?_update_self (Obj.mapSeq (·.pop)) hS2 rfl
  refine wpAny_pure ⟨plainId_quiet PySem.F.plain_extend_loop _, key _ _ _ ?_ (fun b o hb e => ?_) hS3⟩
  · refine (W A.in1 hh).frame 0 _ _ st fun b hb o e => ?_
    have hbS : b ≠ S := fun h => hSf (h ▸ hb)
    exact (Heap.get?_update_other _ _ (Ne.symm hbS)).trans ((Heap.get?_update_other _ _ (Ne.symm hbS)).trans e)
  · exact (Heap.get?_update_other _ _ (Ne.symm hb)).trans ((Heap.get?_update_other _ _ (Ne.symm hb)).trans (Heap.get?_push_of_some _ e))
theorem list_str {Q : Value → Shared → Prop} (hh : A.handled = none) (hn : x.cps.size ≤ sizeLine)
    (hQ : ∀ h' tk acc' c', (∀ b o, s.heap.get? b = some o → h'.get? b = some o) → h'.get? s.heap.objs.size = some { cls := .type "list", dict := none, data := .seq acc' c', slots := #[] } → ItemsOf (SignAt x) acc' x.cps.size → Q (.ref s.heap.objs.size) { s with heap := h', toks := tk }) :
    wpAny (model prog w) A (call (.type "list") [.str x t]) Q E s := by
  refine callType_codes (Q₁ := fun obj s1 => obj = .ref s.heap.objs.size ∧ s1 = { s with heap := s.heap.push { cls := .type "list", data := .seq #[] } }) PySem.F.called_list (PySem.F.typeCall_list_1 _) PySem.F.entry_list_init
    (code_list_new _ ⟨rfl, rfl⟩) fun obj s1 h1 => ?_
  obtain ⟨rfl, rfl⟩ := h1
  have hS : (s.heap.push { cls := .type "list", data := .seq #[] }).get? s.heap.objs.size = some { cls := .type "list", data := .seq #[] } := Heap.get?_push_size _ rfl
  refine ⟨⟨_, hS, rfl⟩, PySem.F.args_list_init_2 _ _, ?_⟩
  show wpAny _ _ (do let old ← Builtin.List.listItems (.ref s.heap.objs.size); Builtin.List.listUpdate (.ref s.heap.objs.size) (fun _ => #[]); letGo old.toList.reverse; Builtin.List.listExtendWith (.ref s.heap.objs.size) (.str x t) .none) _ _ _
  refine wpAny_bind ?_
  unfold Builtin.List.listItems
  refine wpAny_bind (wpAny_seqItems hS rfl (wpAny_pure ?_))
  show wpAny _ _ (updateSeq s.heap.objs.size (fun _ => #[]) >>= fun _ => letGo (#[] : Array Value).toList.reverse >>= fun _ => Builtin.List.listExtendWith (.ref s.heap.objs.size) (.str x t) .none) _ _ _
  refine wpAny_bind (wpAny_updateSeq hS rfl ?_)
  have hS2 := Heap.get?_update_self (Obj.mapSeq (fun _ => (#[] : Array Value))) hS rfl
  have oth : ∀ b o, b ≠ s.heap.objs.size → (s.heap.push { cls := .type "list", data := .seq #[] }).get? b = some o → ((s.heap.push { cls := .type "list", data := .seq #[] }).update s.heap.objs.size (Obj.mapSeq (fun _ => (#[] : Array Value)))).get? b = some o :=
    fun b o hb e => (Heap.get?_update_other _ _ (Ne.symm hb)).trans e
  refine wpAny_bind (wpAny_letGo ?_)
  refine extend_str (A := A.in1) hh _ .none _ hS2 (fun h' tk acc' c' hk hS' hacc => ?_) hn
  exact ⟨rfl, hQ h' tk acc' c' (fun b o e => hk b o (Nat.ne_of_lt (Heap.lt_size e)) (oth b o (Nat.ne_of_lt (Heap.lt_size e)) (Heap.get?_push_of_some _ e))) hS' hacc⟩
end
abbrev chS (a : List Nat) : List V := a.map fun c => V.str ⟨#[c]⟩
theorem signs_vals : ∀ {a : List Nat} {us : List Value}, us.length = a.length → (∀ (j : Nat) (v : Value), us[j]? = some v → ∃ (c : Nat) (u : Tok), a[j]? = some c ∧ v = Value.str ⟨#[c]⟩ u) → Vals (chS a) us
  | [], [], _, _ => .nil
  | [], _ :: _, h, _ => by simp at h
  | _ :: _, [], h, _ => by simp at h
  | c :: a, v :: us, h, hv => by
    obtain ⟨c', u, e1, e2⟩ := hv 0 v rfl
    have e3 : c = c' := by simpa using e1
    subst e3; subst e2
    exact .cons ⟨u, rfl⟩ (signs_vals (by simpa using h) fun j v e => hv (j + 1) v (by simpa using e))
abbrev rListS : List V → Hp → VK → Prop := fun xs H Q => ∃ z : List Nat, xs = [.str ⟨z.toArray⟩] ∧ z.length ≤ SZ ∧ ∀ p, H p = none → Q (.ref p) (upd H p (.lst (chS z)))
theorem call_listS {X : Cx} (hcalm : X.calm = true) : CallR X (.type "list") rListS := by
  intro pins s σ H xs us Q I r ⟨z, ex, hz, q⟩
  subst ex
  obtain ⟨u, rfl, t, rfl⟩ := vals1 r
  have hz2 : z.length ≤ sizeLine := by rw [sz_eq]; exact hz
  refine list_str (I.ok.hd hcalm) (by simpa using hz2) fun h' tk acc c' hk hD hacc => ?_
  have hv : Vals (chS z) acc.toList := signs_vals (by rw [Array.length_toList, hacc.1]; simp) fun j v e => by
    obtain ⟨c, u, e1, e2⟩ := hacc.2 j v (by rw [← Array.getElem?_toList]; exact e)
    exact ⟨c, u, by simpa using e1, e2⟩
  exact ⟨.ref s.heap.objs.size, upd H s.heap.objs.size (.lst (chS z)), I.laid (t' := tk) hk (Nat.le_refl _)
    (show ObjOk X.prog X.w _ _ _ (.lst (chS z)) from ⟨by rw [List.length_map]; exact hz2, acc.toList, c', hv, by rw [Array.toArray_toList]; exact hD⟩), rfl, q _ (I.hok.fresh (Nat.le_refl _))⟩
def itemsA (x : PV) (st : Sto) : Option (List PV) := match x with
  | .str a => if a.length ≤ SZ then some (a.map fun c => .str [c]) else none
  | x => match dctOf x st with
    | some kvs => some (kvs.map Prod.fst)
    | none => seqOf x st
def listA (xs : List PV) : M PV := fun st => match xs with
  | [x] => match itemsA x st with
    | some ys => .ok (.lst ys) st
    | none => .bad
  | _ => .bad
def listAN (xs : List PV) : M PV := fun st => match xs with
  | [x] => match itemsA x st with
    | some ys => .ok (.loc st.length) (st ++ [.lst ys])
    | none => .bad
  | _ => .bad
abbrev rListD1 : List V → Hp → VK → Prop := fun xs H Q => ∃ (a : Addr) (kvs : List (Key × V)), xs = [.ref a] ∧ Rd H a (.dK kvs) ∧ ∀ p, H p = none → Q (.ref p) (upd H p (.lst (kvs.map fun kv => kV kv.1)))
theorem krs_keys {K : PySem.W.Frag} {H : Hp} {μ : Mu} : ∀ {kvs : List (PV × PV)} {kv : List (Key × V)}, KRs K H μ kvs kv → VRs K H μ (kvs.map Prod.fst) (kv.map fun p => kV p.1)
  | [], kv, r => by have e : kv = [] := r; subst e; rfl
  | (p, q) :: kvs, kv, r => by
    obtain ⟨k, v, t, rfl, ek, h1, h2⟩ := r
    refine ⟨kV k, _, rfl, ?_, krs_keys h2⟩
    cases p with
    | int i => cases ek; rfl
    | str z => cases ek; rfl
    | _ => cases ek
theorem vrs_signs {K : PySem.W.Frag} {H : Hp} {μ : Mu} : ∀ (a : List Nat), VRs K H μ (a.map fun c => .str [c]) (chS a)
  | [] => rfl
  | c :: a => ⟨_, _, rfl, rfl, vrs_signs a⟩
theorem itemsA_at {K : KW} {H : Hp} {μ : Mu} {st : Sto} {x : PV} {u : V} {ys : List PV} {Q : VK} (sr : SR K μ st H) (rx : VR K H μ x u) (h : itemsA x st = some ys)
    (q : ∀ vs p, VRs K H μ ys vs → H p = none → Q (.ref p) (upd H p (.lst vs))) : (rListM K [u] H Q ∨ rListD1 [u] H Q) ∨ rListS [u] H Q := by
  have gen : ∀ kvs', dctOf x st = some kvs' → ys = kvs'.map Prod.fst → (rListM K [u] H Q ∨ rListD1 [u] H Q) ∨ rListS [u] H Q := fun kvs' hd ey => by
    obtain ⟨n, a, kv, ex, rfl, ha, hc, h1, h2⟩ := dctOf_at sr rx hd
    subst ey
    exact .inl (.inr ⟨a, kv, rfl, .of h1, fun p hp => q _ p (krs_keys h2) hp⟩)
  have gen2 : seqOf x st = some ys → (rListM K [u] H Q ∨ rListD1 [u] H Q) ∨ rListS [u] H Q := fun hs => by
    obtain ⟨a, vs, rfl, hq, rs⟩ := seqOf_at sr rx hs
    exact .inl (.inl ⟨a, vs, rfl, hq, fun l hl => q vs l rs hl⟩)
  unfold itemsA at h
  split at h
  · rename_i a
    by_cases hz : a.length ≤ SZ
    · rw [if_pos hz] at h
      cases h
      cases (show u = V.str ⟨a.toArray⟩ from rx)
      exact .inr ⟨a, rfl, hz, fun p hp => q _ p (vrs_signs a) hp⟩
    · rw [if_neg hz] at h; cases h
  · cases hd : dctOf x st with
    | some kvs => rw [hd] at h; cases h; exact gen kvs hd rfl
    | none => rw [hd] at h; exact gen2 h
theorem t_listA {K : KW} : TL K (fun xs H Q => (rListM K xs H Q ∨ rListD1 xs H Q) ∨ rListS xs H Q) listA := by
  intro μ st H xs us E Q sr r h
  cases xs with
  | nil => exact h.elim
  | cons x t =>
    cases t with
    | cons y t => exact h.elim
    | nil =>
      obtain ⟨u, rfl, rx⟩ := one_of r
      unfold listA at h
      dsimp only at h
      cases hs : itemsA x st with
      | none => rw [hs] at h; exact h.elim
      | some ys =>
        rw [hs] at h
        exact itemsA_at sr rx hs fun vs p rs hp => post_lst sr rs hp h
theorem t_listAN {K : KW} : TL K (fun xs H Q => (rListM K xs H Q ∨ rListD1 xs H Q) ∨ rListS xs H Q) listAN := by
  intro μ st H xs us E Q sr r h
  cases xs with
  | nil => exact h.elim
  | cons x t =>
    cases t with
    | cons y t => exact h.elim
    | nil =>
      obtain ⟨u, rfl, rx⟩ := one_of r
      unfold listAN at h
      dsimp only at h
      cases hs : itemsA x st with
      | none => rw [hs] at h; exact h.elim
      | some ys =>
        rw [hs] at h
        exact itemsA_at sr rx hs fun vs p rs hp => post_cell h sr hp ⟨_, upd_same, VRs.mono (gr_alloc hp) _ _ rs⟩
section
variable {X : Cx} {W : WX} {e : Expr} {p pos : Pos} {ma : Rho → M (List PV)}
theorem me_listA (hc : X.calm = true) (hg : Gl X "list") (hm : X.mg "list" = none) (ha : MA X W [e] ma) (he : starEach [e] X.env = (false, eval e X.env) :: starEach [] X.env := by kernel_rfl) : ME X W (.Call (.Name "list" p) [e] [] pos) (eCall listA ma) :=
  me_callTy ((call_list_of.or (call_listD hc)).or (call_listS hc)) t_listA hg hm (by decide +kernel) ha (by decide) (by decide) he rfl
theorem me_listAN (hc : X.calm = true) (hg : Gl X "list") (hm : X.mg "list" = none) (ha : MA X W [e] ma) (he : starEach [e] X.env = (false, eval e X.env) :: starEach [] X.env := by kernel_rfl) : ME X W (.Call (.Name "list" p) [e] [] pos) (eCall listAN ma) :=
  me_callTy ((call_list_of.or (call_listD hc)).or (call_listS hc)) t_listAN hg hm (by decide +kernel) ha (by decide) (by decide) he rfl
end
end MP

set_option maxRecDepth 100000
set_option maxHeartbeats 1000000
namespace MP
open PySem L2
def Z {α : Type} (r : Res α) (Q : α → Sto → Prop) (E : Exn → Sto → Prop) : Prop := match r with
  | .ok a st => Q a st
  | .err x st => E x st
  | .bad => False
def E0 : Exn → Sto → Prop := fun _ _ => False
abbrev KP := PV → Sto → Prop
abbrev KB := Bool → Sto → Prop
abbrev KLs := List PV → Sto → Prop
abbrev KR := Rho → Sto → Prop
abbrev KF := Fl → Sto → Prop
abbrev KU := Unit → Sto → Prop
abbrev KO := Option Int → Sto → Prop
abbrev KI := Int → Sto → Prop
abbrev KX := Exn → Sto → Prop
abbrev KD := List (PV × PV) → Sto → Prop
abbrev ME1 := Rho → M PV
abbrev MT1 := Rho → M Bool
abbrev MS1 := Rho → M Fl
abbrev ML1 := Rho → M (List PV)
section
variable {α β : Type} {st : Sto} {ρ : Rho} {Q : α → Sto → Prop} {E : KX} {QP : KP} {QF : KF} {QB : KB} {QL : KLs} {QR : KR} {QO : KO} {QI : KI} {QU : KU} {QD : KD}
@[simp ↓] theorem Z_ok {a : α} : Z (.ok a st) Q E = Q a st := propext Iff.rfl
@[simp ↓] theorem Z_err {x : Exn} : Z (.err x st : Res α) Q E = E x st := propext Iff.rfl
@[simp ↓] theorem Z_bad : Z (.bad : Res α) Q E = False := propext Iff.rfl
theorem Z.imp {r : Res α} {Q Q' : α → Sto → Prop} {E E' : KX} (h : Z r Q E) (hq : ∀ a st, Q a st → Q' a st) (he : ∀ x st, E x st → E' x st) : Z r Q' E' := by
  cases r with
  | ok a st => exact hq a st h
  | err x st => exact he x st h
  | bad => exact h
theorem Z.go {r : Res α} {Q Q' : α → Sto → Prop} {E' : KX} (h : Z r Q E0) (hq : ∀ a st, Q a st → Q' a st) : Z r Q' E' := h.imp hq fun _ _ h => False.elim h
@[simp ↓] theorem Z_ret {a : α} : Z (M.ret a st) Q E = Q a st := propext Iff.rfl
@[simp ↓] theorem Z_fail : Z ((M.fail : M α) st) Q E = False := propext Iff.rfl
theorem Z_bind {m : M β} {f : β → M α} : Z (M.bind m f st) Q E = Z (m st) (fun a st' => Z (f a st') Q E) E := by
  unfold M.bind; cases m st <;> rfl
@[simp ↓] theorem Z_calm {m : M α} : Z (M.calm m st) Q E = Z (m st) Q E0 := by
  unfold M.calm; cases m st <;> rfl
theorem Z_onErr {m : M α} {k : α → M Fl} : Z (onErr ρ m k st) QF E = Z (m st) (fun a s => Z (k a s) QF E) (fun x s => QF (.exc x ρ) s) := by
  unfold onErr; cases m st <;> rfl
theorem Z_ite {c : Prop} [Decidable c] {m m' : M α} : Z ((if c then m else m') st) Q E = if c then Z (m st) Q E else Z (m' st) Q E := by split <;> rfl
theorem Z_iteR {c : Prop} [Decidable c] {r r' : Res α} : Z (if c then r else r') Q E = if c then Z r Q E else Z r' Q E := by split <;> rfl
@[simp ↓] theorem Z_eVar {i : Nat} {p : PV} (h : ρ[i]? = some (some p)) : Z (eVar i ρ st) QP E = QP p st := by unfold eVar; rw [h]; rfl
@[simp ↓] theorem Z_eC {p : PV} : Z (eC p ρ st) QP E = QP p st := propext Iff.rfl
@[simp ↓] theorem Z_asB {b : Bool} : Z (asB (.bl b) st) QB E = QB b st := propext Iff.rfl
@[simp ↓] theorem Z_asI {i : Int} : Z (asI (.int i) st) QI E = QI i st := propext Iff.rfl
@[simp ↓] theorem Z_aNil : Z (aNil ρ st) QL E = QL [] st := propext Iff.rfl
@[simp ↓] theorem Z_oNone : Z (oNone ρ st) QO E = QO none st := propext Iff.rfl
@[simp ↓] theorem Z_sNext : Z (sNext ρ st) QF E = QF (.next ρ) st := propext Iff.rfl
@[simp ↓] theorem Z_sPass : Z (sPass ρ st) QF E = QF (.next ρ) st := propext Iff.rfl
@[simp ↓] theorem Z_sBreak : Z (sBreak ρ st) QF E = QF (.brk ρ) st := propext Iff.rfl
@[simp ↓] theorem Z_sCont : Z (sCont ρ st) QF E = QF (.cont ρ) st := propext Iff.rfl
@[simp ↓] theorem Z_sRetN : Z (sRetN ρ st) QF E = QF (.ret .non) st := propext Iff.rfl
@[simp ↓] theorem Z_gN {i : Nat} {p : PV} : Z (gN i p ρ st) QR E = QR (ρ.set i (some p)) st := propext Iff.rfl
def kB2 (g : PV → PV → M PV) (x : PV) (QP : KP) (E : KX) : PV → Sto → Prop := fun y s => Z (g x y s) QP E
@[simp ↓] theorem kB2_at {g : PV → PV → M PV} {x : PV} {QP : KP} {E : KX} {y : PV} {s : Sto} : kB2 g x QP E y s = (Z (g x y s) QP E) := propext Iff.rfl
def kB1 (g : PV → PV → M PV) (mb : ME1) (ρ : Rho) (QP : KP) (E : KX) : PV → Sto → Prop := fun x s => Z (mb ρ s) (kB2 g x QP E) E
@[simp ↓] theorem kB1_at {g : PV → PV → M PV} {mb : ME1} {ρ : Rho} {QP : KP} {E : KX} {x : PV} {s : Sto} : kB1 g mb ρ QP E x s = (Z (mb ρ s) (kB2 g x QP E) E) := propext Iff.rfl
@[simp ↓] theorem Z_eBin {g : PV → PV → M PV} {ma mb : ME1} : Z (eBin g ma mb ρ st) QP E = Z (ma ρ st) (kB1 g mb ρ QP E) E := by
  unfold eBin; rw [Z_bind]; simp only [Z_bind]; rfl
def kU (g : PV → M PV) (QP : KP) (E : KX) : PV → Sto → Prop := fun x s => Z (g x s) QP E
@[simp ↓] theorem kU_at {g : PV → M PV} {QP : KP} {E : KX} {x : PV} {s : Sto} : kU g QP E x s = (Z (g x s) QP E) := propext Iff.rfl
@[simp ↓] theorem Z_eUn {g : PV → M PV} {ma : ME1} : Z (eUn g ma ρ st) QP E = Z (ma ρ st) (kU g QP E) E := by
  unfold eUn; rw [Z_bind]; rfl
def kAs (QB : KB) (E : KX) : PV → Sto → Prop := fun x s => Z (asB x s) QB E
@[simp ↓] theorem kAs_bl {QB : KB} {E : KX} {b : Bool} {s : Sto} : kAs QB E (.bl b) s = QB b s := propext Iff.rfl
@[simp ↓] theorem Z_eB {m : ME1} : Z (eB m ρ st) QB E = Z (m ρ st) (kAs QB E) E := by
  unfold eB; rw [Z_bind]; rfl
def kAnd (u : MT1) (ρ : Rho) (QB : KB) (E : KX) : Bool → Sto → Prop := fun c s => if c = true then Z (u ρ s) QB E else QB false s
@[simp ↓] theorem kAnd_t {u : MT1} {ρ : Rho} {QB : KB} {E : KX} {s : Sto} : kAnd u ρ QB E true s = (Z (u ρ s) QB E) := propext Iff.rfl
@[simp ↓] theorem kAnd_f {u : MT1} {ρ : Rho} {QB : KB} {E : KX} {s : Sto} : kAnd u ρ QB E false s = (QB false s) := propext Iff.rfl
theorem kAnd_of {u : MT1} {ρ : Rho} {QB : KB} {E : KX} {c : Bool} {s : Sto} (h : c = true → Z (u ρ s) QB E) (h' : c = false → QB false s) : kAnd u ρ QB E c s := by
  cases c
  · exact h' rfl
  · exact h rfl
@[simp ↓] theorem Z_tAnd {t u : MT1} : Z (tAndM t u ρ st) QB E = Z (t ρ st) (kAnd u ρ QB E) E := by
  unfold tAndM; rw [Z_bind]; congr 1; funext c s; cases c <;> rfl
def kOr (u : MT1) (ρ : Rho) (QB : KB) (E : KX) : Bool → Sto → Prop := fun c s => if c = true then QB true s else Z (u ρ s) QB E
@[simp ↓] theorem kOr_t {u : MT1} {ρ : Rho} {QB : KB} {E : KX} {s : Sto} : kOr u ρ QB E true s = (QB true s) := propext Iff.rfl
@[simp ↓] theorem kOr_f {u : MT1} {ρ : Rho} {QB : KB} {E : KX} {s : Sto} : kOr u ρ QB E false s = (Z (u ρ s) QB E) := propext Iff.rfl
theorem kOr_of {u : MT1} {ρ : Rho} {QB : KB} {E : KX} {c : Bool} {s : Sto} (h : c = true → QB true s) (h' : c = false → Z (u ρ s) QB E) : kOr u ρ QB E c s := by
  cases c
  · exact h' rfl
  · exact h rfl
@[simp ↓] theorem Z_tOr {t u : MT1} : Z (tOrM t u ρ st) QB E = Z (t ρ st) (kOr u ρ QB E) E := by
  unfold tOrM; rw [Z_bind]; congr 1; funext c s; cases c <;> rfl
def kNot (QB : KB) : Bool → Sto → Prop := fun c s => QB (!c) s
@[simp ↓] theorem kNot_at {QB : KB} {c : Bool} {s : Sto} : kNot QB c s = (QB (!c) s) := propext Iff.rfl
@[simp ↓] theorem Z_tNot {t : MT1} : Z (tNotM t ρ st) QB E = Z (t ρ st) (kNot QB) E := by
  unfold tNotM; rw [Z_bind]; rfl
def kAndV (mb : ME1) (ρ : Rho) (QP : KP) (E : KX) : Bool → Sto → Prop := fun c s => if c = true then Z (mb ρ s) QP E else QP (.bl false) s
@[simp ↓] theorem kAndV_t {mb : ME1} {ρ : Rho} {QP : KP} {E : KX} {s : Sto} : kAndV mb ρ QP E true s = (Z (mb ρ s) QP E) := propext Iff.rfl
@[simp ↓] theorem kAndV_f {mb : ME1} {ρ : Rho} {QP : KP} {E : KX} {s : Sto} : kAndV mb ρ QP E false s = (QP (.bl false) s) := propext Iff.rfl
theorem kAndV_of {mb : ME1} {ρ : Rho} {QP : KP} {E : KX} {c : Bool} {s : Sto} (h : c = true → Z (mb ρ s) QP E) (h' : c = false → QP (.bl false) s) : kAndV mb ρ QP E c s := by
  cases c
  · exact h' rfl
  · exact h rfl
@[simp ↓] theorem Z_eAnd {ma mb : ME1} : Z (eAndV ma mb ρ st) QP E = Z (ma ρ st) (kAs (kAndV mb ρ QP E) E) E := by
  unfold eAndV; rw [Z_bind]; congr 1; funext x s; rw [Z_bind]; show Z _ _ _ = Z _ _ _; congr 1; funext c s; cases c <;> rfl
def kOrV (mb : ME1) (ρ : Rho) (QP : KP) (E : KX) : Bool → Sto → Prop := fun c s => if c = true then QP (.bl true) s else Z (mb ρ s) QP E
@[simp ↓] theorem kOrV_t {mb : ME1} {ρ : Rho} {QP : KP} {E : KX} {s : Sto} : kOrV mb ρ QP E true s = (QP (.bl true) s) := propext Iff.rfl
@[simp ↓] theorem kOrV_f {mb : ME1} {ρ : Rho} {QP : KP} {E : KX} {s : Sto} : kOrV mb ρ QP E false s = (Z (mb ρ s) QP E) := propext Iff.rfl
theorem kOrV_of {mb : ME1} {ρ : Rho} {QP : KP} {E : KX} {c : Bool} {s : Sto} (h : c = true → QP (.bl true) s) (h' : c = false → Z (mb ρ s) QP E) : kOrV mb ρ QP E c s := by
  cases c
  · exact h' rfl
  · exact h rfl
@[simp ↓] theorem Z_eOr {ma mb : ME1} : Z (eOrV ma mb ρ st) QP E = Z (ma ρ st) (kAs (kOrV mb ρ QP E) E) E := by
  unfold eOrV; rw [Z_bind]; congr 1; funext x s; rw [Z_bind]; show Z _ _ _ = Z _ _ _; congr 1; funext c s; cases c <;> rfl
def kNotV (QP : KP) : Bool → Sto → Prop := fun c s => QP (.bl (!c)) s
@[simp ↓] theorem kNotV_at {QP : KP} {c : Bool} {s : Sto} : kNotV QP c s = (QP (.bl (!c)) s) := propext Iff.rfl
@[simp ↓] theorem Z_eNot {ma : ME1} : Z (eNotV ma ρ st) QP E = Z (ma ρ st) (kAs (kNotV QP) E) E := by
  unfold eNotV; rw [Z_bind]; congr 1; funext x s; rw [Z_bind]; rfl
def kIf (ma : ME1) (mb : ME1) (ρ : Rho) (QP : KP) (E : KX) : Bool → Sto → Prop := fun c s => if c = true then Z (ma ρ s) QP E else Z (mb ρ s) QP E
@[simp ↓] theorem kIf_t {ma : ME1} {mb : ME1} {ρ : Rho} {QP : KP} {E : KX} {s : Sto} : kIf ma mb ρ QP E true s = (Z (ma ρ s) QP E) := propext Iff.rfl
@[simp ↓] theorem kIf_f {ma : ME1} {mb : ME1} {ρ : Rho} {QP : KP} {E : KX} {s : Sto} : kIf ma mb ρ QP E false s = (Z (mb ρ s) QP E) := propext Iff.rfl
theorem kIf_of {ma : ME1} {mb : ME1} {ρ : Rho} {QP : KP} {E : KX} {c : Bool} {s : Sto} (h : c = true → Z (ma ρ s) QP E) (h' : c = false → Z (mb ρ s) QP E) : kIf ma mb ρ QP E c s := by
  cases c
  · exact h' rfl
  · exact h rfl
@[simp ↓] theorem Z_eIf {t : MT1} {ma mb : ME1} : Z (eIf t ma mb ρ st) QP E = Z (t ρ st) (kIf ma mb ρ QP E) E := by
  unfold eIf; rw [Z_bind]; congr 1; funext c s; cases c <;> rfl
def kA2 (x : PV) (QL : KLs) : List PV → Sto → Prop := fun xs s => QL (x :: xs) s
@[simp ↓] theorem kA2_at {x : PV} {QL : KLs} {xs : List PV} {s : Sto} : kA2 x QL xs s = (QL (x :: xs) s) := propext Iff.rfl
def kA1 (r : ML1) (ρ : Rho) (QL : KLs) (E : KX) : PV → Sto → Prop := fun x s => Z (r ρ s) (kA2 x QL) E
@[simp ↓] theorem kA1_at {r : ML1} {ρ : Rho} {QL : KLs} {E : KX} {x : PV} {s : Sto} : kA1 r ρ QL E x s = (Z (r ρ s) (kA2 x QL) E) := propext Iff.rfl
@[simp ↓] theorem Z_aCons {m : ME1} {r : ML1} : Z (aCons m r ρ st) QL E = Z (m ρ st) (kA1 r ρ QL E) E := by
  unfold aCons; rw [Z_bind]; congr 1; funext x s; rw [Z_bind]; rfl
def kF (f : List PV → M PV) (QP : KP) (E : KX) : List PV → Sto → Prop := fun xs s => Z (f xs s) QP E
@[simp ↓] theorem kF_at {f : List PV → M PV} {QP : KP} {E : KX} {xs : List PV} {s : Sto} : kF f QP E xs s = (Z (f xs s) QP E) := propext Iff.rfl
@[simp ↓] theorem Z_eCall {f : List PV → M PV} {m : ML1} : Z (eCall f m ρ st) QP E = Z (m ρ st) (kF f QP E) E := by
  unfold eCall; rw [Z_bind]; rfl
def kM3 (f : PV → List PV → M PV) (o : PV) (QP : KP) (E : KX) : List PV → Sto → Prop := fun xs s => Z (f o xs s) QP E
@[simp ↓] theorem kM3_at {f : PV → List PV → M PV} {o : PV} {QP : KP} {E : KX} {xs : List PV} {s : Sto} : kM3 f o QP E xs s = (Z (f o xs s) QP E) := propext Iff.rfl
def kM2 (f : PV → List PV → M PV) (ma : ML1) (ρ : Rho) (o : PV) (QP : KP) (E : KX) : Unit → Sto → Prop := fun _ s => Z (ma ρ s) (kM3 f o QP E) E
@[simp ↓] theorem kM2_at {f : PV → List PV → M PV} {ma : ML1} {ρ : Rho} {o : PV} {QP : KP} {E : KX} {a : Unit} {s : Sto} : kM2 f ma ρ o QP E a s = (Z (ma ρ s) (kM3 f o QP E) E) := propext Iff.rfl
def kM1 (T : String) (f : PV → List PV → M PV) (ma : ML1) (ρ : Rho) (QP : KP) (E : KX) : PV → Sto → Prop := fun o s => Z (tyC T o s) (kM2 f ma ρ o QP E) E
@[simp ↓] theorem kM1_at {T : String} {f : PV → List PV → M PV} {ma : ML1} {ρ : Rho} {QP : KP} {E : KX} {o : PV} {s : Sto} : kM1 T f ma ρ QP E o s = (Z (tyC T o s) (kM2 f ma ρ o QP E) E) := propext Iff.rfl
@[simp ↓] theorem Z_eMeth {T : String} {f : PV → List PV → M PV} {mo : ME1} {ma : ML1} : Z (eMeth T f mo ma ρ st) QP E = Z (mo ρ st) (kM1 T f ma ρ QP E) E := by
  unfold eMeth; rw [Z_bind]; simp only [Z_bind]; rfl
def kC3 (g : PV → PV → M PV) (mc : ME1) (ρ : Rho) (y : PV) (QP : KP) (E : KX) : Bool → Sto → Prop := fun c s => if c = true then Z (mc ρ s) (kB2 g y QP E) E else QP (.bl false) s
@[simp ↓] theorem kC3_t {g : PV → PV → M PV} {mc : ME1} {ρ : Rho} {y : PV} {QP : KP} {E : KX} {s : Sto} : kC3 g mc ρ y QP E true s = (Z (mc ρ s) (kB2 g y QP E) E) := propext Iff.rfl
@[simp ↓] theorem kC3_f {g : PV → PV → M PV} {mc : ME1} {ρ : Rho} {y : PV} {QP : KP} {E : KX} {s : Sto} : kC3 g mc ρ y QP E false s = (QP (.bl false) s) := propext Iff.rfl
theorem kC3_of {g : PV → PV → M PV} {mc : ME1} {ρ : Rho} {y : PV} {QP : KP} {E : KX} {c : Bool} {s : Sto} (h : c = true → Z (mc ρ s) (kB2 g y QP E) E) (h' : c = false → QP (.bl false) s) : kC3 g mc ρ y QP E c s := by
  cases c
  · exact h' rfl
  · exact h rfl
def kC2 (f : PV → PV → M PV) (g : PV → PV → M PV) (mc : ME1) (ρ : Rho) (x : PV) (QP : KP) (E : KX) : PV → Sto → Prop := fun y s => Z (f x y s) (kAs (kC3 g mc ρ y QP E) E) E
@[simp ↓] theorem kC2_at {f : PV → PV → M PV} {g : PV → PV → M PV} {mc : ME1} {ρ : Rho} {x : PV} {QP : KP} {E : KX} {y : PV} {s : Sto} : kC2 f g mc ρ x QP E y s = (Z (f x y s) (kAs (kC3 g mc ρ y QP E) E) E) := propext Iff.rfl
def kC1 (f : PV → PV → M PV) (g : PV → PV → M PV) (mb : ME1) (mc : ME1) (ρ : Rho) (QP : KP) (E : KX) : PV → Sto → Prop := fun x s => Z (mb ρ s) (kC2 f g mc ρ x QP E) E
@[simp ↓] theorem kC1_at {f : PV → PV → M PV} {g : PV → PV → M PV} {mb : ME1} {mc : ME1} {ρ : Rho} {QP : KP} {E : KX} {x : PV} {s : Sto} : kC1 f g mb mc ρ QP E x s = (Z (mb ρ s) (kC2 f g mc ρ x QP E) E) := propext Iff.rfl
@[simp ↓] theorem Z_eChain {f g : PV → PV → M PV} {ma mb mc : ME1} : Z (eChain f g ma mb mc ρ st) QP E = Z (ma ρ st) (kC1 f g mb mc ρ QP E) E := by
  unfold eChain; rw [Z_bind]; congr 1; funext x s; rw [Z_bind]; show Z _ _ _ = Z _ _ _; congr 1; funext y s; rw [Z_bind]; show Z _ _ _ = Z _ _ _; congr 1; funext z s; rw [Z_bind]; show Z _ _ _ = Z _ _ _; congr 1; funext c s; cases c
  · rfl
  · show Z (M.bind _ _ _) _ _ = _; rw [Z_bind]; rfl
def seqQ (m' : MS1) (Q : KF) (E : KX) : Fl → Sto → Prop
  | .next ρ, st => Z (m' ρ st) Q E
  | fl, st => Q fl st
@[simp] theorem seqQ_next {m' : MS1} : seqQ m' QF E (.next ρ) st = Z (m' ρ st) QF E := propext Iff.rfl
@[simp] theorem seqQ_ret {m' : MS1} {v : PV} : seqQ m' QF E (.ret v) st = QF (.ret v) st := propext Iff.rfl
@[simp] theorem seqQ_brk {m' : MS1} : seqQ m' QF E (.brk ρ) st = QF (.brk ρ) st := propext Iff.rfl
@[simp] theorem seqQ_cont {m' : MS1} : seqQ m' QF E (.cont ρ) st = QF (.cont ρ) st := propext Iff.rfl
@[simp] theorem seqQ_exc {m' : MS1} {x : Exn} : seqQ m' QF E (.exc x ρ) st = QF (.exc x ρ) st := propext Iff.rfl
@[simp ↓] theorem Z_sSeq {m m' : MS1} : Z (sSeq m m' ρ st) QF E = Z (m ρ st) (seqQ m' QF E) E := by
  unfold sSeq
  cases m ρ st with
  | ok f s => cases f <;> rfl
  | err x s => rfl
  | bad => rfl
def turnQ (k : MS1) (Q : KF) (E : KX) : Fl → Sto → Prop
  | .next ρ, st => Z (k ρ st) Q E
  | .cont ρ, st => Z (k ρ st) Q E
  | .brk ρ, st => Q (.next ρ) st
  | fl, st => Q fl st
@[simp] theorem turnQ_next {k : MS1} : turnQ k QF E (.next ρ) st = Z (k ρ st) QF E := propext Iff.rfl
@[simp] theorem turnQ_cont {k : MS1} : turnQ k QF E (.cont ρ) st = Z (k ρ st) QF E := propext Iff.rfl
@[simp] theorem turnQ_brk {k : MS1} : turnQ k QF E (.brk ρ) st = QF (.next ρ) st := propext Iff.rfl
@[simp] theorem turnQ_ret {k : MS1} {v : PV} : turnQ k QF E (.ret v) st = QF (.ret v) st := propext Iff.rfl
@[simp] theorem turnQ_exc {k : MS1} {x : Exn} : turnQ k QF E (.exc x ρ) st = QF (.exc x ρ) st := propext Iff.rfl
@[simp ↓] theorem Z_turn {k : MS1} {m : M Fl} : Z (turnL k m st) QF E = Z (m st) (turnQ k QF E) E := by
  unfold turnL
  cases m st with
  | ok f s => cases f <;> rfl
  | err x s => rfl
  | bad => rfl
def kX (ρ : Rho) (QF : KF) : Exn → Sto → Prop := fun x s => QF (.exc x ρ) s
@[simp ↓] theorem kX_at {ρ : Rho} {QF : KF} {x : Exn} {s : Sto} : kX ρ QF x s = (QF (.exc x ρ) s) := propext Iff.rfl
def kDrop (ρ : Rho) (QF : KF) : PV → Sto → Prop := fun _ s => QF (.next ρ) s
@[simp ↓] theorem kDrop_at {ρ : Rho} {QF : KF} {a : PV} {s : Sto} : kDrop ρ QF a s = (QF (.next ρ) s) := propext Iff.rfl
@[simp ↓] theorem Z_sDrop {me : ME1} : Z (sDrop me ρ st) QF E = Z (me ρ st) (kDrop ρ QF) (kX ρ QF) := by
  unfold sDrop; rw [Z_onErr]; rfl
def kRet (QF : KF) : PV → Sto → Prop := fun v s => QF (.ret v) s
@[simp ↓] theorem kRet_at {QF : KF} {v : PV} {s : Sto} : kRet QF v s = (QF (.ret v) s) := propext Iff.rfl
@[simp ↓] theorem Z_sRet {me : ME1} : Z (sRet me ρ st) QF E = Z (me ρ st) (kRet QF) (kX ρ QF) := by
  unfold sRet; rw [Z_onErr]; rfl
def kSet (i : Nat) (ρ : Rho) (QF : KF) : PV → Sto → Prop := fun v s => QF (.next (ρ.set i (some v))) s
@[simp ↓] theorem kSet_at {i : Nat} {ρ : Rho} {QF : KF} {v : PV} {s : Sto} : kSet i ρ QF v s = (QF (.next (ρ.set i (some v))) s) := propext Iff.rfl
@[simp ↓] theorem Z_sSet {i : Nat} {me : ME1} : Z (sSet i me ρ st) QF E = Z (me ρ st) (kSet i ρ QF) (kX ρ QF) := by
  unfold sSet; rw [Z_onErr]; rfl
def kSIf (m : MS1) (m' : MS1) (ρ : Rho) (QF : KF) (E : KX) : Bool → Sto → Prop := fun c s => if c = true then Z (m ρ s) QF E else Z (m' ρ s) QF E
@[simp ↓] theorem kSIf_t {m : MS1} {m' : MS1} {ρ : Rho} {QF : KF} {E : KX} {s : Sto} : kSIf m m' ρ QF E true s = (Z (m ρ s) QF E) := propext Iff.rfl
@[simp ↓] theorem kSIf_f {m : MS1} {m' : MS1} {ρ : Rho} {QF : KF} {E : KX} {s : Sto} : kSIf m m' ρ QF E false s = (Z (m' ρ s) QF E) := propext Iff.rfl
theorem kSIf_of {m : MS1} {m' : MS1} {ρ : Rho} {QF : KF} {E : KX} {c : Bool} {s : Sto} (h : c = true → Z (m ρ s) QF E) (h' : c = false → Z (m' ρ s) QF E) : kSIf m m' ρ QF E c s := by
  cases c
  · exact h' rfl
  · exact h rfl
@[simp ↓] theorem Z_sIf {t : MT1} {m m' : MS1} : Z (sIf t m m' ρ st) QF E = Z (t ρ st) (kSIf m m' ρ QF E) (kX ρ QF) := by
  unfold sIf; rw [Z_onErr]; congr 1; funext c s; cases c <;> rfl
def kNx (QF : KF) : Rho → Sto → Prop := fun ρ' s => QF (.next ρ') s
@[simp ↓] theorem kNx_at {QF : KF} {ρ' : Rho} {s : Sto} : kNx QF ρ' s = (QF (.next ρ') s) := propext Iff.rfl
def kAsg (g : GM) (ρ : Rho) (QF : KF) : PV → Sto → Prop := fun v s => Z (g v ρ s) (kNx QF) (kX ρ QF)
@[simp ↓] theorem kAsg_at {g : GM} {ρ : Rho} {QF : KF} {v : PV} {s : Sto} : kAsg g ρ QF v s = (Z (g v ρ s) (kNx QF) (kX ρ QF)) := propext Iff.rfl
@[simp ↓] theorem Z_sAsg {me : ME1} {g : GM} : Z (sAsg me g ρ st) QF E = Z (me ρ st) (kAsg g ρ QF) (kX ρ QF) := by
  unfold sAsg; rw [Z_onErr]; congr 1; funext v s; rw [Z_onErr]; rfl
def kG3 (ρ : Rho) (QR : KR) : Unit → Sto → Prop := fun _ s => QR ρ s
@[simp ↓] theorem kG3_at {ρ : Rho} {QR : KR} {a : Unit} {s : Sto} : kG3 ρ QR a s = (QR ρ s) := propext Iff.rfl
def kG2 (o : PV) (p : PV) (ρ : Rho) (QR : KR) (E : KX) : PV → Sto → Prop := fun i s => Z (setM o i p s) (kG3 ρ QR) E
@[simp ↓] theorem kG2_at {o : PV} {p : PV} {ρ : Rho} {QR : KR} {E : KX} {i : PV} {s : Sto} : kG2 o p ρ QR E i s = (Z (setM o i p s) (kG3 ρ QR) E) := propext Iff.rfl
def kG1 (mi : ME1) (p : PV) (ρ : Rho) (QR : KR) (E : KX) : PV → Sto → Prop := fun o s => Z (mi ρ s) (kG2 o p ρ QR E) E
@[simp ↓] theorem kG1_at {mi : ME1} {p : PV} {ρ : Rho} {QR : KR} {E : KX} {o : PV} {s : Sto} : kG1 mi p ρ QR E o s = (Z (mi ρ s) (kG2 o p ρ QR E) E) := propext Iff.rfl
@[simp ↓] theorem Z_gSub {mo mi : ME1} {p : PV} : Z (gSubM mo mi p ρ st) QR E = Z (mo ρ st) (kG1 mi p ρ QR E) E := by
  unfold gSubM; rw [Z_bind]; simp only [Z_bind]; rfl
def kGs (r : GsM) (xs : List PV) (QR : KR) (E : KX) : Rho → Sto → Prop := fun ρ1 s => Z (r xs ρ1 s) QR E
@[simp] theorem kGs_at {r : GsM} {xs : List PV} {QR : KR} {E : KX} {ρ1 : Rho} {s : Sto} : kGs r xs QR E ρ1 s = (Z (r xs ρ1 s) QR E) := propext Iff.rfl
@[simp ↓] theorem Z_gsCons {g : GM} {r : GsM} {x : PV} {xs : List PV} : Z (gsCons g r (x :: xs) ρ st) QR E = Z (g x ρ st) (kGs r xs QR E) E0 := by
  unfold gsCons; dsimp only; rw [Z_bind, Z_calm]; rfl
@[simp ↓] theorem Z_gsNil : Z (gsNil [] ρ st) QR E = QR ρ st := propext Iff.rfl
@[simp ↓] theorem Z_gT {m : Nat} {r : GsM} {xs : List PV} : Z (gT m r (.tup xs) ρ st) QR E = if xs.length = m then Z (r xs ρ st) QR E0 else False := by
  unfold gT; dsimp only; rw [Z_ite]; by_cases h : xs.length = m
  · rw [if_pos h, if_pos h, Z_calm]
  · rw [if_neg h, if_neg h]; rfl
@[simp ↓] theorem Z_gTLt {m : Nat} {r : GsM} {xs : List PV} : Z (gTL m r (.tup xs) ρ st) QR E = if xs.length = m then Z (r xs ρ st) QR E0 else False := by
  unfold gTL; dsimp only; rw [Z_ite]; by_cases h : xs.length = m
  · rw [if_pos h, if_pos h, Z_calm]
  · rw [if_neg h, if_neg h]; rfl
@[simp ↓] theorem Z_gTLl {m : Nat} {r : GsM} {xs : List PV} : Z (gTL m r (.lst xs) ρ st) QR E = if xs.length = m then Z (r xs ρ st) QR E0 else False := by
  unfold gTL; dsimp only; rw [Z_ite]; by_cases h : xs.length = m
  · rw [if_pos h, if_pos h, Z_calm]
  · rw [if_neg h, if_neg h]; rfl
def kFor (g : GM) (b : MS1) (ρ : Rho) (QF : KF) (E : KX) : List PV → Sto → Prop := fun ps s => Z (forL g b ps ρ s) QF E
@[simp ↓] theorem kFor_at {g : GM} {b : MS1} {ρ : Rho} {QF : KF} {E : KX} {ps : List PV} {s : Sto} : kFor g b ρ QF E ps s = (Z (forL g b ps ρ s) QF E) := propext Iff.rfl
@[simp ↓] theorem Z_sFor {mi : ML1} {g : GM} {b : MS1} : Z (sFor mi g b ρ st) QF E = Z (mi ρ st) (kFor g b ρ QF E) (kX ρ QF) := by
  unfold sFor; rw [Z_onErr]; rfl
theorem Z_forL_nil {g : GM} {b : MS1} : Z (forL g b [] ρ st) QF E = QF (.next ρ) st := propext Iff.rfl
def kF1 (g : GM) (b : MS1) (ps : List PV) (QF : KF) (E : KX) : Rho → Sto → Prop := fun ρ1 s => Z (b ρ1 s) (turnQ (forL g b ps) QF E) E
@[simp] theorem kF1_at {g : GM} {b : MS1} {ps : List PV} {QF : KF} {E : KX} {ρ1 : Rho} {s : Sto} : kF1 g b ps QF E ρ1 s = (Z (b ρ1 s) (turnQ (forL g b ps) QF E) E) := propext Iff.rfl
theorem Z_forL {g : GM} {b : MS1} {p : PV} {ps : List PV} : Z (forL g b (p :: ps) ρ st) QF E = Z (g p ρ st) (kF1 g b ps QF E) (kX ρ QF) := by
  rw [forL, Z_onErr]
  simp only [Z_turn]
  rfl
def kIt (QL : KLs) (E : KX) : PV → Sto → Prop := fun x s => Z (itemsM x s) QL E
@[simp ↓] theorem kIt_at {QL : KLs} {E : KX} {x : PV} {s : Sto} : kIt QL E x s = (Z (itemsM x s) QL E) := propext Iff.rfl
@[simp ↓] theorem Z_iSeq {m : ME1} : Z (iSeq m ρ st) QL E = Z (m ρ st) (kIt QL E) E := by
  unfold iSeq; rw [Z_bind]; rfl
def kFL (f : List PV → M (List PV)) (QL : KLs) (E : KX) : List PV → Sto → Prop := fun xs s => Z (f xs s) QL E
@[simp ↓] theorem kFL_at {f : List PV → M (List PV)} {QL : KLs} {E : KX} {xs : List PV} {s : Sto} : kFL f QL E xs s = (Z (f xs s) QL E) := propext Iff.rfl
@[simp ↓] theorem Z_iCall {f : List PV → M (List PV)} {m : ML1} : Z (iCall f m ρ st) QL E = Z (m ρ st) (kFL f QL E) E := by
  unfold iCall; rw [Z_bind]; rfl
def kS3 (f : PV → Option Int → Option Int → M PV) (x : PV) (l : Option Int) (QP : KP) (E : KX) : Option Int → Sto → Prop := fun h s => Z (f x l h s) QP E
@[simp ↓] theorem kS3_at {f : PV → Option Int → Option Int → M PV} {x : PV} {l : Option Int} {QP : KP} {E : KX} {h : Option Int} {s : Sto} : kS3 f x l QP E h s = (Z (f x l h s) QP E) := propext Iff.rfl
def kS2 (f : PV → Option Int → Option Int → M PV) (mh : Rho → M (Option Int)) (ρ : Rho) (x : PV) (QP : KP) (E : KX) : Option Int → Sto → Prop := fun l s => Z (mh ρ s) (kS3 f x l QP E) E
@[simp ↓] theorem kS2_at {f : PV → Option Int → Option Int → M PV} {mh : Rho → M (Option Int)} {ρ : Rho} {x : PV} {QP : KP} {E : KX} {l : Option Int} {s : Sto} : kS2 f mh ρ x QP E l s = (Z (mh ρ s) (kS3 f x l QP E) E) := propext Iff.rfl
def kS1 (f : PV → Option Int → Option Int → M PV) (ml : Rho → M (Option Int)) (mh : Rho → M (Option Int)) (ρ : Rho) (QP : KP) (E : KX) : PV → Sto → Prop := fun x s => Z (ml ρ s) (kS2 f mh ρ x QP E) E
@[simp ↓] theorem kS1_at {f : PV → Option Int → Option Int → M PV} {ml : Rho → M (Option Int)} {mh : Rho → M (Option Int)} {ρ : Rho} {QP : KP} {E : KX} {x : PV} {s : Sto} : kS1 f ml mh ρ QP E x s = (Z (ml ρ s) (kS2 f mh ρ x QP E) E) := propext Iff.rfl
@[simp ↓] theorem Z_eSl {f : PV → Option Int → Option Int → M PV} {me : ME1} {ml mh : Rho → M (Option Int)} : Z (eSl f me ml mh ρ st) QP E = Z (me ρ st) (kS1 f ml mh ρ QP E) E := by
  unfold eSl; rw [Z_bind]; simp only [Z_bind]; rfl
def kO2 (QO : KO) : Int → Sto → Prop := fun i s => QO (some i) s
@[simp ↓] theorem kO2_at {QO : KO} {i : Int} {s : Sto} : kO2 QO i s = (QO (some i) s) := propext Iff.rfl
def kO1 (QO : KO) (E : KX) : PV → Sto → Prop := fun x s => Z (asI x s) (kO2 QO) E
@[simp ↓] theorem kO1_at {QO : KO} {E : KX} {x : PV} {s : Sto} : kO1 QO E x s = (Z (asI x s) (kO2 QO) E) := propext Iff.rfl
@[simp ↓] theorem Z_oSome {m : ME1} : Z (oSome m ρ st) QO E = Z (m ρ st) (kO1 QO E) E := by
  unfold oSome; rw [Z_bind]; simp only [Z_bind]; rfl
def kP3 (k : PV) (v : PV) (QD : KD) : List (PV × PV) → Sto → Prop := fun ps s => QD ((k, v) :: ps) s
@[simp ↓] theorem kP3_at {k : PV} {v : PV} {QD : KD} {ps : List (PV × PV)} {s : Sto} : kP3 k v QD ps s = (QD ((k, v) :: ps) s) := propext Iff.rfl
def kP2 (ms : List (ME1 × ME1)) (ρ : Rho) (k : PV) (QD : KD) (E : KX) : PV → Sto → Prop := fun v s => Z (pairsM ms ρ s) (kP3 k v QD) E
@[simp ↓] theorem kP2_at {ms : List (ME1 × ME1)} {ρ : Rho} {k : PV} {QD : KD} {E : KX} {v : PV} {s : Sto} : kP2 ms ρ k QD E v s = (Z (pairsM ms ρ s) (kP3 k v QD) E) := propext Iff.rfl
def kP1 (mv : ME1) (ms : List (ME1 × ME1)) (ρ : Rho) (QD : KD) (E : KX) : PV → Sto → Prop := fun k s => Z (mv ρ s) (kP2 ms ρ k QD E) E
@[simp ↓] theorem kP1_at {mv : ME1} {ms : List (ME1 × ME1)} {ρ : Rho} {QD : KD} {E : KX} {k : PV} {s : Sto} : kP1 mv ms ρ QD E k s = (Z (mv ρ s) (kP2 ms ρ k QD E) E) := propext Iff.rfl
@[simp ↓] theorem Z_pairsN : Z (pairsM [] ρ st) QD E = QD [] st := propext Iff.rfl
@[simp ↓] theorem Z_pairsC {mk mv : ME1} {ms : List (ME1 × ME1)} : Z (pairsM ((mk, mv) :: ms) ρ st) QD E = Z (mk ρ st) (kP1 mv ms ρ QD E) E := by
  rw [pairsM, Z_bind]; simp only [Z_bind]; rfl
def kD (QP : KP) : List (PV × PV) → Sto → Prop := fun ps s => if keysOk ps = true ∧ ps.length ≤ 15 then QP (.loc s.length) (s ++ [.dct (mergeP [] ps)]) else False
@[simp ↓] theorem kD_at {QP : KP} {ps : List (PV × PV)} {s : Sto} : kD QP ps s = (if keysOk ps = true ∧ ps.length ≤ 15 then QP (.loc s.length) (s ++ [.dct (mergeP [] ps)]) else False) := propext Iff.rfl
@[simp ↓] theorem Z_eDct {ms : List (ME1 × ME1)} : Z (eDct ms ρ st) QP E = Z (pairsM ms ρ st) (kD QP) E := by
  unfold eDct M.bind
  cases pairsM ms ρ st with
  | ok ps s => exact Z_iteR
  | err x s => rfl
  | bad => rfl
@[simp ↓] theorem Z_eDct0 : Z (eDct0 ρ st) QP E = QP (.loc st.length) (st ++ [.dct []]) := propext Iff.rfl
def kLE (k : List PV → M PV) (QP : KP) (E : KX) : List PV → Sto → Prop := fun acc s => Z (k acc s) QP E
@[simp ↓] theorem kLE_at {k : List PV → M PV} {QP : KP} {E : KX} {acc : List PV} {s : Sto} : kLE k QP E acc s = (Z (k acc s) QP E) := propext Iff.rfl
def kLc (k : List PV → M PV) (g : GM) (t : MT1) (e : ME1) (vs : List Nat) (ρ : Rho) (QP : KP) (E : KX) : List PV → Sto → Prop := fun ps s => Z (lcL g t e (wipeP ρ vs) ps [] s) (kLE k QP E) E
@[simp ↓] theorem kLc_at {k : List PV → M PV} {g : GM} {t : MT1} {e : ME1} {vs : List Nat} {ρ : Rho} {QP : KP} {E : KX} {ps : List PV} {s : Sto} : kLc k g t e vs ρ QP E ps s = (Z (lcL g t e (wipeP ρ vs) ps [] s) (kLE k QP E) E) := propext Iff.rfl
@[simp ↓] theorem Z_eLc {k : List PV → M PV} {mi : ML1} {g : GM} {t : MT1} {e : ME1} {vs : List Nat} : Z (eLc k mi g t e vs ρ st) QP E = Z (mi ρ st) (kLc k g t e vs ρ QP E) E := by
  unfold eLc; rw [Z_bind]; simp only [Z_bind]; rfl
@[simp ↓] theorem Z_lcV {acc : List PV} : Z (lcV acc st) QP E = QP (.lst acc) st := propext Iff.rfl
@[simp ↓] theorem Z_lcN {acc : List PV} : Z (lcN acc st) QP E = QP (.loc st.length) (st ++ [.lst acc]) := propext Iff.rfl
@[simp ↓] theorem Z_tYes : Z (tYesM ρ st) QB E = QB true st := propext Iff.rfl
@[simp ↓] theorem wipeP_nil {ρ : Rho} : wipeP ρ [] = ρ := rfl
@[simp ↓] theorem wipeP_cons {ρ : Rho} {v : Nat} {vs : List Nat} : wipeP ρ (v :: vs) = (wipeP ρ vs).set v none := rfl
theorem lc_nil {g : GM} {t : MT1} {e : ME1} {ρ0 : Rho} {acc : List PV} : Z (lcL g t e ρ0 [] acc st) QL E = QL acc st := propext Iff.rfl
theorem lc_cons {g : GM} {t : MT1} {e : ME1} {ρ0 : Rho} {p : PV} {ps acc : List PV} : Z (lcL g t e ρ0 (p :: ps) acc st) QL E = Z (g p ρ0 st) (fun ρ1 s => Z (t ρ1 s) (fun c s => if c = true then Z (e ρ1 s) (fun y s => if acc.length < 16777216 then Z (lcL g t e ρ0 ps (acc ++ [y]) s) QL E else False) E0 else Z (lcL g t e ρ0 ps acc s) QL E) E0) E0 := by
  rw [lcL, Z_bind, Z_calm]
  congr 1; funext ρ1 s
  rw [Z_bind, Z_calm]
  congr 1; funext c s
  cases c with
  | false => rfl
  | true =>
    show Z (M.bind _ _ _) _ _ = Z _ _ _
    rw [Z_bind, Z_calm]
    congr 1; funext y s
    exact Z_ite
theorem lc_inv {g : GM} {t : MT1} {e : ME1} {ρ0 : Rho} (I : List PV → List PV → Sto → Prop) (hs : ∀ p ps acc st, I (p :: ps) acc st → Z (g p ρ0 st) (fun ρ1 s => Z (t ρ1 s) (fun c s => if c = true then Z (e ρ1 s) (fun y s => acc.length < 16777216 ∧ I ps (acc ++ [y]) s) E0 else I ps acc s) E0) E0) : ∀ (ps acc : List PV) (st : Sto), I ps acc st →
    (∀ acc st, I [] acc st → QL acc st) → Z (lcL g t e ρ0 ps acc st) QL E
  | [], acc, st, h, hq => hq acc st h
  | p :: ps, acc, st, h, hq => by
    rw [lcL, Z_bind, Z_calm]
    refine (hs p ps acc st h).go fun ρ1 s h1 => ?_
    rw [Z_bind, Z_calm]
    refine h1.go fun c s h2 => ?_
    cases c with
    | false => exact lc_inv I hs ps acc s h2 hq
    | true =>
      show Z (M.bind _ _ _) _ _
      rw [Z_bind, Z_calm]
      refine Z.go (show Z (e ρ1 s) (fun y s => acc.length < 16777216 ∧ I ps (acc ++ [y]) s) E0 from h2) fun y s h3 => ?_
      rw [if_pos h3.1]
      exact lc_inv I hs ps (acc ++ [y]) s h3.2 hq
theorem for_inv {g : GM} {b : MS1} (I : List PV → Rho → Sto → Prop) : ∀ (ps : List PV) (ρ : Rho) (st : Sto), I ps ρ st → (∀ p ps ρ st, I (p :: ps) ρ st → Z (g p ρ st) (fun ρ1 s => Z (b ρ1 s) (fun fl s2 => (∃ ρ2, (fl = .next ρ2 ∨ fl = .cont ρ2) ∧ I ps ρ2 s2) ∨ (∃ ρ2, fl = .brk ρ2 ∧ QF (.next ρ2) s2) ∨ (∃ v, fl = .ret v ∧ QF fl s2)) E0) E0) →
    (∀ ρ st, I [] ρ st → QF (.next ρ) st) → Z (forL g b ps ρ st) QF E
  | [], ρ, st, h, _, hq => by rw [Z_forL_nil]; exact hq ρ st h
  | p :: ps, ρ, st, h, hs, hq => by
    rw [Z_forL]
    refine (hs p ps ρ st h).go fun ρ1 s h1 => Z.go h1 fun fl s2 h2 => ?_
    rcases h2 with ⟨ρ3, e | e, h3⟩ | ⟨ρ3, e, h3⟩ | ⟨v, e, h3⟩
    · subst e; exact for_inv I ps _ s2 h3 hs hq
    · subst e; exact for_inv I ps _ s2 h3 hs hq
    · subst e; exact h3
    · subst e; exact h3
end
end MP

set_option maxRecDepth 100000
set_option maxHeartbeats 1000000
namespace MP
open PySem L2
@[simp] theorem atI_0 {α : Type} {x0 : α} {l : List α} : L2.atI (x0 :: l) (0 : Int) = some x0 := by
  unfold L2.atI L2.ixN
  rw [if_pos (by omega), if_pos (by simp only [List.length_cons]; omega)]
  rfl
@[simp] theorem atI_1 {α : Type} {x0 x1 : α} {l : List α} : L2.atI (x0 :: x1 :: l) (1 : Int) = some x1 := by
  unfold L2.atI L2.ixN
  rw [if_pos (by omega), if_pos (by simp only [List.length_cons]; omega)]
  rfl
@[simp] theorem atI_2 {α : Type} {x0 x1 x2 : α} {l : List α} : L2.atI (x0 :: x1 :: x2 :: l) (2 : Int) = some x2 := by
  unfold L2.atI L2.ixN
  rw [if_pos (by omega), if_pos (by simp only [List.length_cons]; omega)]
  rfl
@[simp] theorem atI_3 {α : Type} {x0 x1 x2 x3 : α} {l : List α} : L2.atI (x0 :: x1 :: x2 :: x3 :: l) (3 : Int) = some x3 := by
  unfold L2.atI L2.ixN
  rw [if_pos (by omega), if_pos (by simp only [List.length_cons]; omega)]
  rfl
@[simp] theorem atI_4 {α : Type} {x0 x1 x2 x3 x4 : α} {l : List α} : L2.atI (x0 :: x1 :: x2 :: x3 :: x4 :: l) (4 : Int) = some x4 := by
  unfold L2.atI L2.ixN
  rw [if_pos (by omega), if_pos (by simp only [List.length_cons]; omega)]
  rfl
@[simp] theorem atI_5 {α : Type} {x0 x1 x2 x3 x4 x5 : α} {l : List α} : L2.atI (x0 :: x1 :: x2 :: x3 :: x4 :: x5 :: l) (5 : Int) = some x5 := by
  unfold L2.atI L2.ixN
  rw [if_pos (by omega), if_pos (by simp only [List.length_cons]; omega)]
  rfl
@[simp] theorem atI_6 {α : Type} {x0 x1 x2 x3 x4 x5 x6 : α} {l : List α} : L2.atI (x0 :: x1 :: x2 :: x3 :: x4 :: x5 :: x6 :: l) (6 : Int) = some x6 := by
  unfold L2.atI L2.ixN
  rw [if_pos (by omega), if_pos (by simp only [List.length_cons]; omega)]
  rfl
@[simp] theorem atI_7 {α : Type} {x0 x1 x2 x3 x4 x5 x6 x7 : α} {l : List α} : L2.atI (x0 :: x1 :: x2 :: x3 :: x4 :: x5 :: x6 :: x7 :: l) (7 : Int) = some x7 := by
  unfold L2.atI L2.ixN
  rw [if_pos (by omega), if_pos (by simp only [List.length_cons]; omega)]
  rfl
section
variable {α β : Type} {QL : List PV → Sto → Prop} {st : Sto} {ρ : Rho} {Q : α → Sto → Prop} {E : Exn → Sto → Prop} {QP : PV → Sto → Prop} {QF : Fl → Sto → Prop} {QU : Unit → Sto → Prop} {i j : Int} {a b : List Nat} {xs ys : List PV} {x y : PV} {m : Nat}
def runQ (Q : PV → Sto → Prop) (E : Exn → Sto → Prop) : Fl → Sto → Prop
  | .next _, st => Q .non st
  | .ret p, st => Q p st
  | .exc x _, st => E x st
  | _, _ => False
@[simp] theorem runQ_next : runQ QP E (.next ρ) st = QP .non st := propext Iff.rfl
@[simp] theorem runQ_ret : runQ QP E (.ret x) st = QP x st := propext Iff.rfl
@[simp] theorem runQ_exc {x : Exn} : runQ QP E (.exc x ρ) st = E x st := propext Iff.rfl
theorem Z_run {b : Rho → M Fl} {k : Nat} {ps : List PV} {ρ0 : Rho} (h : ps.map some ++ List.replicate (k - ps.length) none = ρ0) : Z (runB b k ps st) QP E = Z (b ρ0 st) (runQ QP E) E0 := by
  unfold runB
  rw [h]
  cases b ρ0 st with
  | ok f s => cases f <;> rfl
  | err x s => rfl
  | bad => rfl
@[simp ↓] theorem Z_addII : Z (addV (.int i) (.int j) st) QP E = QP (.int (i + j)) st := propext Iff.rfl
@[simp ↓] theorem Z_addSS : Z (addV (.str a) (.str b) st) QP E = if a.length + b.length ≤ 16777216 then QP (.str (a ++ b)) st else False := by unfold addV; dsimp only; rw [Z_ite]; rfl
@[simp ↓] theorem Z_addTT : Z (addV (.tup xs) (.tup ys) st) QP E = if xs.length + ys.length ≤ 16777216 then QP (.tup (xs ++ ys)) st else False := by unfold addV; dsimp only; rw [Z_ite]; rfl
@[simp ↓] theorem Z_addLL : Z (addV (.lst xs) (.lst ys) st) QP E = if xs.length + ys.length ≤ 16777216 then QP (.lst (xs ++ ys)) st else False := by unfold addV; dsimp only [listOf]; rw [Z_iteR]; rfl
@[simp ↓] theorem Z_subII : Z (subV (.int i) (.int j) st) QP E = QP (.int (i - j)) st := propext Iff.rfl
@[simp ↓] theorem Z_mulII : Z (mulV (.int i) (.int j) st) QP E = if mulOk i j = true then QP (.int (i * j)) st else False := by unfold mulV; dsimp only; rw [Z_ite]; rfl
@[simp ↓] theorem Z_mulTI : Z (mulV (.tup xs) (.int i) st) QP E = if xs ≠ [] ∧ -1000000 ≤ i ∧ i ≤ 1000 ∧ xs.length ≤ 1000 then QP (.tup (List.replicate i.toNat xs).flatten) st else False := by unfold mulV; dsimp only; rw [Z_ite]; rfl
theorem mul_left (h1 : -18446744073709551616 < i) (h2 : i < 18446744073709551616) : Z (mulV (.int i) (.int j) st) QP E = QP (.int (i * j)) st := by rw [Z_mulII, if_pos]; simp [mulOk, h1, h2]
theorem mul_right (h1 : -18446744073709551616 < j) (h2 : j < 18446744073709551616) : Z (mulV (.int i) (.int j) st) QP E = QP (.int (i * j)) st := by rw [Z_mulII, if_pos]; simp [mulOk, h1, h2]
@[simp ↓] theorem Z_fdivII : Z (fdivV (.int i) (.int j) st) QP E = if (j ≠ 0 ∧ j.natAbs < 1073741824) ∨ (0 < j ∧ j.natAbs.log2 < 9000) then QP (.int (i.fdiv j)) st else False := by unfold fdivV; dsimp only; rw [Z_ite]; rfl
@[simp ↓] theorem Z_modII : Z (modV (.int i) (.int j) st) QP E = if j ≠ 0 then QP (.int (i.fmod j)) st else False := by unfold modV; dsimp only; rw [Z_ite]; rfl
@[simp ↓] theorem Z_powII : Z (powV (.int i) (.int j) st) QP E = if 0 ≤ j ∧ j ≤ 1000000 ∧ i.natAbs < 18446744073709551616 then QP (.int (i ^ j.toNat)) st else False := by unfold powV; dsimp only; rw [Z_ite]; rfl
@[simp ↓] theorem Z_negI : Z (negV (.int i) st) QP E = QP (.int (-i)) st := propext Iff.rfl
@[simp ↓] theorem Z_ltV {p : Int → Int → Bool} : Z (ltV p (.int i) (.int j) st) QP E = QP (.bl (p i j)) st := propext Iff.rfl
theorem ibeq (i j : Int) : (i == j) = decide (i = j) := by rw [Bool.eq_iff_iff]; simp
@[simp ↓] theorem Z_eqII : Z (eqM (.int i) (.int j) st) QP E = QP (.bl (decide (i = j))) st := by
  unfold eqM; rw [if_pos (by rfl)]; show QP (.bl (i == j)) st = _; rw [ibeq]
@[simp ↓] theorem Z_neII : Z (neM (.int i) (.int j) st) QP E = QP (.bl (decide (i ≠ j))) st := by
  unfold neM; rw [if_pos (by rfl)]; show QP (.bl (!(i == j))) st = _; rw [ibeq]; simp
theorem lbeq {α : Type} [DecidableEq α] (a b : List α) : (a == b) = decide (a = b) := by rw [Bool.eq_iff_iff]; simp
@[simp ↓] theorem Z_eqSS : Z (eqM (.str a) (.str b) st) QP E = QP (.bl (decide (a = b))) st := by
  unfold eqM; rw [if_pos (by rfl)]; show QP (.bl (a == b)) st = _; rw [lbeq]
@[simp ↓] theorem Z_neSS : Z (neM (.str a) (.str b) st) QP E = QP (.bl (decide (a ≠ b))) st := by
  unfold neM; rw [if_pos (by rfl)]; show QP (.bl (!(a == b))) st = _; rw [lbeq]; simp
theorem Z_eq (h : cmpOk x y st = true) : Z (eqM x y st) QP E = QP (.bl (eqb (shal x st) (shal y st))) st := by unfold eqM; rw [if_pos h]; rfl
theorem Z_ne (h : cmpOk x y st = true) : Z (neM x y st) QP E = QP (.bl (!eqb (shal x st) (shal y st))) st := by unfold neM; rw [if_pos h]; rfl
@[simp ↓] theorem Z_isN : Z (isN x .non st) QP E = QP (.bl (nonP x)) st := propext Iff.rfl
@[simp ↓] theorem Z_notN : Z (notN x .non st) QP E = QP (.bl (!nonP x)) st := propext Iff.rfl
@[simp ↓] theorem Z_optS {v : α} : Z (optM (some v) st) Q E = Q v st := propext Iff.rfl
@[simp ↓] theorem Z_optN : Z (optM (none : Option α) st) Q E = False := propext Iff.rfl
@[simp ↓] theorem Z_ixT : Z (ixM (.tup xs) (.int i) st) QP E = Z (optM (L2.atI xs i) st) QP E := propext Iff.rfl
@[simp ↓] theorem Z_ixL : Z (ixM (.lst xs) (.int i) st) QP E = Z (optM (L2.atI xs i) st) QP E := propext Iff.rfl
@[simp ↓] theorem Z_ixZ : Z (ixM (.frz xs) (.int i) st) QP E = Z (optM (L2.atI xs i) st) QP E := propext Iff.rfl
def kIS (QP : KP) : Nat → Sto → Prop := fun c s => QP (.str [c]) s
@[simp ↓] theorem kIS_at {c : Nat} : kIS QP c st = QP (.str [c]) st := propext Iff.rfl
@[simp ↓] theorem Z_ixS : Z (ixM (.str a) (.int i) st) QP E = if a.length ≤ 16777216 then Z (optM (L2.atI a i) st) (kIS QP) E else False := by
  show Z (if a.length ≤ 16777216 then (match L2.atI a i with | some c => .ok (.str [c]) st | none => .bad) else .bad) QP E = _
  rw [Z_iteR]
  cases L2.atI a i <;> rfl
@[simp ↓] theorem Z_ixC (h : st[m]? = some (.lst xs)) : Z (ixM (.loc m) (.int i) st) QP E = Z (optM (L2.atI xs i) st) QP E := by
  unfold ixM seqOf; dsimp only; rw [h]
theorem Z_ixD {kvs : List (PV × PV)} (h : st[m]? = some (.dct kvs)) (hk : (keyOf y).isSome = true) : Z (ixM (.loc m) y st) QP E = Z (optM (lookP kvs y) st) QP E := by
  unfold ixM seqOf dctOf; dsimp only; rw [h]; dsimp only; rw [if_pos hk]
@[simp ↓] theorem Z_ixDs {kvs : List (PV × PV)} (h : st[m]? = some (.dct kvs)) : Z (ixM (.loc m) (.str a) st) QP E = Z (optM (lookP kvs (.str a)) st) QP E := Z_ixD h rfl
@[simp ↓] theorem Z_ixDi {kvs : List (PV × PV)} (h : st[m]? = some (.dct kvs)) : Z (ixM (.loc m) (.int i) st) QP E = Z (optM (lookP kvs (.int i)) st) QP E := Z_ixD h rfl
@[simp] theorem keyOf_int : keyOf (.int i) = some (.inl i) := rfl
@[simp] theorem keyOf_str : keyOf (.str a) = some (.inr ⟨a.toArray⟩) := rfl
@[simp ↓] theorem Z_lenT : Z (lenM [.tup xs] st) QP E = QP (.int xs.length) st := propext Iff.rfl
@[simp ↓] theorem Z_lenL : Z (lenM [.lst xs] st) QP E = QP (.int xs.length) st := propext Iff.rfl
@[simp ↓] theorem Z_lenZ : Z (lenM [.frz xs] st) QP E = QP (.int xs.length) st := propext Iff.rfl
@[simp ↓] theorem Z_lenS : Z (lenM [.str a] st) QP E = if a.length ≤ 16777216 then QP (.int a.length) st else False := by
  show Z (if a.length ≤ 16777216 then .ok (.int a.length) st else .bad) QP E = _; rw [Z_iteR]; rfl
@[simp ↓] theorem Z_lenC (h : st[m]? = some (.lst xs)) : Z (lenM [.loc m] st) QP E = QP (.int xs.length) st := by
  unfold lenM seqOf; dsimp only; rw [h]; rfl
@[simp ↓] theorem Z_mkTup : Z (mkTup xs st) QP E = if xs.length ≤ 16777216 then QP (.tup xs) st else False := by unfold mkTup; rw [Z_ite]; rfl
@[simp ↓] theorem Z_mkLst : Z (mkLst xs st) QP E = if xs.length ≤ 16777216 then QP (.lst xs) st else False := by unfold mkLst; rw [Z_ite]; rfl
@[simp ↓] theorem Z_mkLstN : Z (mkLstN xs st) QP E = if xs.length ≤ 16777216 then QP (.loc st.length) (st ++ [.lst xs]) else False := by unfold mkLstN; rw [Z_iteR]; rfl
@[simp ↓] theorem Z_listN (h : seqOf x st = some xs) : Z (listN [x] st) QP E = QP (.loc st.length) (st ++ [.lst xs]) := by unfold listN; dsimp only; rw [h]; rfl
@[simp ↓] theorem Z_listM (h : seqOf x st = some xs) : Z (listM [x] st) QP E = QP (.lst xs) st := by unfold listM; dsimp only; rw [h]; rfl
@[simp ↓] theorem Z_tupleM (h : seqOf x st = some xs) : Z (tupleM [x] st) QP E = QP (.tup xs) st := by unfold tupleM; dsimp only; rw [h]; rfl
@[simp] theorem seqOf_tup : seqOf (.tup xs) st = some xs := rfl
@[simp] theorem seqOf_lst : seqOf (.lst xs) st = some xs := rfl
@[simp] theorem seqOf_frz : seqOf (.frz xs) st = some xs := rfl
@[simp] theorem seqOf_loc (h : st[m]? = some (.lst xs)) : seqOf (.loc m) st = some xs := by unfold seqOf; dsimp only; rw [h]
@[simp ↓] theorem Z_setL {v : PV} {k : Nat} (h : st[m]? = some (.lst xs)) (hi : ixN xs.length i = some k) : Z (setM (.loc m) (.int i) v st) QU E = QU () (st.set m (.lst (xs.set k v))) := by
  unfold setM; dsimp only; rw [h]; dsimp only; rw [hi]; rfl
theorem Z_setD {v : PV} {kvs : List (PV × PV)} (h : st[m]? = some (.dct kvs)) (hk : (keyOf y).isSome = true) (hl : kvs.length < 16777216) : Z (setM (.loc m) y v st) QU E = QU () (st.set m (.dct (putP kvs y v))) := by
  unfold setM; dsimp only; rw [h]; dsimp only; rw [if_pos ⟨hk, hl⟩]; rfl
@[simp ↓] theorem Z_setDs {v : PV} {kvs : List (PV × PV)} (h : st[m]? = some (.dct kvs)) (hl : kvs.length < 16777216) : Z (setM (.loc m) (.str a) v st) QU E = QU () (st.set m (.dct (putP kvs (.str a) v))) := Z_setD h rfl hl
@[simp ↓] theorem Z_setDi {v : PV} {kvs : List (PV × PV)} (h : st[m]? = some (.dct kvs)) (hl : kvs.length < 16777216) : Z (setM (.loc m) (.int i) v st) QU E = QU () (st.set m (.dct (putP kvs (.int i) v))) := Z_setD h rfl hl
@[simp ↓] theorem Z_slS {lo hi : Option Int} : Z (slM (.str a) lo hi st) QP E = if a.length ≤ 16777216 then QP (.str (cutL a lo hi)) st else False := by unfold slM; dsimp only; rw [Z_ite]; rfl
@[simp ↓] theorem Z_slT {lo hi : Option Int} : Z (slM (.tup xs) lo hi st) QP E = QP (.tup (cutL xs lo hi)) st := propext Iff.rfl
@[simp ↓] theorem Z_slL {lo hi : Option Int} : Z (slM (.lst xs) lo hi st) QP E = QP (.lst (cutL xs lo hi)) st := propext Iff.rfl
theorem Z_isi {T t : String} (h : isiOk T = true) (ht : tyP x st = some t) : Z (isiM [x, .ty T] st) QP E = QP (.bl (isiT t T)) st := by unfold isiM; dsimp only; rw [if_pos h, ht]; rfl
@[simp ↓] theorem Z_isi_non_int : Z (isiM [.non, .ty "int"] st) QP E = QP (.bl false) st := Z_isi (t := "NoneType") (by decide) rfl
@[simp ↓] theorem Z_isi_bl_int {k : Bool} : Z (isiM [.bl k, .ty "int"] st) QP E = QP (.bl true) st := Z_isi (t := "bool") (by decide) rfl
@[simp ↓] theorem Z_isi_int_int : Z (isiM [.int i, .ty "int"] st) QP E = QP (.bl true) st := Z_isi (t := "int") (by decide) rfl
@[simp ↓] theorem Z_isi_str_int : Z (isiM [.str a, .ty "int"] st) QP E = QP (.bl false) st := Z_isi (t := "str") (by decide) rfl
@[simp ↓] theorem Z_isi_tup_int : Z (isiM [.tup xs, .ty "int"] st) QP E = QP (.bl false) st := Z_isi (t := "tuple") (by decide) rfl
@[simp ↓] theorem Z_isi_lst_int : Z (isiM [.lst xs, .ty "int"] st) QP E = QP (.bl false) st := Z_isi (t := "list") (by decide) rfl
@[simp ↓] theorem Z_isi_non_bool : Z (isiM [.non, .ty "bool"] st) QP E = QP (.bl false) st := Z_isi (t := "NoneType") (by decide) rfl
@[simp ↓] theorem Z_isi_bl_bool {k : Bool} : Z (isiM [.bl k, .ty "bool"] st) QP E = QP (.bl true) st := Z_isi (t := "bool") (by decide) rfl
@[simp ↓] theorem Z_isi_int_bool : Z (isiM [.int i, .ty "bool"] st) QP E = QP (.bl false) st := Z_isi (t := "int") (by decide) rfl
@[simp ↓] theorem Z_isi_str_bool : Z (isiM [.str a, .ty "bool"] st) QP E = QP (.bl false) st := Z_isi (t := "str") (by decide) rfl
@[simp ↓] theorem Z_isi_tup_bool : Z (isiM [.tup xs, .ty "bool"] st) QP E = QP (.bl false) st := Z_isi (t := "tuple") (by decide) rfl
@[simp ↓] theorem Z_isi_lst_bool : Z (isiM [.lst xs, .ty "bool"] st) QP E = QP (.bl false) st := Z_isi (t := "list") (by decide) rfl
@[simp ↓] theorem Z_isi_non_str : Z (isiM [.non, .ty "str"] st) QP E = QP (.bl false) st := Z_isi (t := "NoneType") (by decide) rfl
@[simp ↓] theorem Z_isi_bl_str {k : Bool} : Z (isiM [.bl k, .ty "str"] st) QP E = QP (.bl false) st := Z_isi (t := "bool") (by decide) rfl
@[simp ↓] theorem Z_isi_int_str : Z (isiM [.int i, .ty "str"] st) QP E = QP (.bl false) st := Z_isi (t := "int") (by decide) rfl
@[simp ↓] theorem Z_isi_str_str : Z (isiM [.str a, .ty "str"] st) QP E = QP (.bl true) st := Z_isi (t := "str") (by decide) rfl
@[simp ↓] theorem Z_isi_tup_str : Z (isiM [.tup xs, .ty "str"] st) QP E = QP (.bl false) st := Z_isi (t := "tuple") (by decide) rfl
@[simp ↓] theorem Z_isi_lst_str : Z (isiM [.lst xs, .ty "str"] st) QP E = QP (.bl false) st := Z_isi (t := "list") (by decide) rfl
@[simp ↓] theorem Z_isi_non_tuple : Z (isiM [.non, .ty "tuple"] st) QP E = QP (.bl false) st := Z_isi (t := "NoneType") (by decide) rfl
@[simp ↓] theorem Z_isi_bl_tuple {k : Bool} : Z (isiM [.bl k, .ty "tuple"] st) QP E = QP (.bl false) st := Z_isi (t := "bool") (by decide) rfl
@[simp ↓] theorem Z_isi_int_tuple : Z (isiM [.int i, .ty "tuple"] st) QP E = QP (.bl false) st := Z_isi (t := "int") (by decide) rfl
@[simp ↓] theorem Z_isi_str_tuple : Z (isiM [.str a, .ty "tuple"] st) QP E = QP (.bl false) st := Z_isi (t := "str") (by decide) rfl
@[simp ↓] theorem Z_isi_tup_tuple : Z (isiM [.tup xs, .ty "tuple"] st) QP E = QP (.bl true) st := Z_isi (t := "tuple") (by decide) rfl
@[simp ↓] theorem Z_isi_lst_tuple : Z (isiM [.lst xs, .ty "tuple"] st) QP E = QP (.bl false) st := Z_isi (t := "list") (by decide) rfl
@[simp ↓] theorem Z_isi_non_list : Z (isiM [.non, .ty "list"] st) QP E = QP (.bl false) st := Z_isi (t := "NoneType") (by decide) rfl
@[simp ↓] theorem Z_isi_bl_list {k : Bool} : Z (isiM [.bl k, .ty "list"] st) QP E = QP (.bl false) st := Z_isi (t := "bool") (by decide) rfl
@[simp ↓] theorem Z_isi_int_list : Z (isiM [.int i, .ty "list"] st) QP E = QP (.bl false) st := Z_isi (t := "int") (by decide) rfl
@[simp ↓] theorem Z_isi_str_list : Z (isiM [.str a, .ty "list"] st) QP E = QP (.bl false) st := Z_isi (t := "str") (by decide) rfl
@[simp ↓] theorem Z_isi_tup_list : Z (isiM [.tup xs, .ty "list"] st) QP E = QP (.bl false) st := Z_isi (t := "tuple") (by decide) rfl
@[simp ↓] theorem Z_isi_lst_list : Z (isiM [.lst xs, .ty "list"] st) QP E = QP (.bl true) st := Z_isi (t := "list") (by decide) rfl
@[simp ↓] theorem Z_isi_non_dict : Z (isiM [.non, .ty "dict"] st) QP E = QP (.bl false) st := Z_isi (t := "NoneType") (by decide) rfl
@[simp ↓] theorem Z_isi_bl_dict {k : Bool} : Z (isiM [.bl k, .ty "dict"] st) QP E = QP (.bl false) st := Z_isi (t := "bool") (by decide) rfl
@[simp ↓] theorem Z_isi_int_dict : Z (isiM [.int i, .ty "dict"] st) QP E = QP (.bl false) st := Z_isi (t := "int") (by decide) rfl
@[simp ↓] theorem Z_isi_str_dict : Z (isiM [.str a, .ty "dict"] st) QP E = QP (.bl false) st := Z_isi (t := "str") (by decide) rfl
@[simp ↓] theorem Z_isi_tup_dict : Z (isiM [.tup xs, .ty "dict"] st) QP E = QP (.bl false) st := Z_isi (t := "tuple") (by decide) rfl
@[simp ↓] theorem Z_isi_lst_dict : Z (isiM [.lst xs, .ty "dict"] st) QP E = QP (.bl false) st := Z_isi (t := "list") (by decide) rfl
@[simp] theorem tyP_non : tyP .non st = some "NoneType" := rfl
@[simp] theorem tyP_bl {b : Bool} : tyP (.bl b) st = some "bool" := rfl
@[simp] theorem tyP_int : tyP (.int i) st = some "int" := rfl
@[simp] theorem tyP_str : tyP (.str a) st = some "str" := rfl
@[simp] theorem tyP_tup : tyP (.tup xs) st = some "tuple" := rfl
@[simp] theorem tyP_lst : tyP (.lst xs) st = some "list" := rfl
@[simp] theorem rangeOk_iff : rangeOk i ↔ -4611686018427387904 ≤ i ∧ i < 4611686018427387904 := Iff.rfl
@[simp ↓] theorem Z_range1 (h : rangeOk i) : Z (range1 [.int i] st) QL E = QL ((List.range i.toNat).map fun (k : Nat) => .int ((0 : Int) + (k : Int))) st := by unfold range1; dsimp only; rw [if_pos h]; rfl
@[simp ↓] theorem Z_rangeN {l : Nat} (h : l ≤ 16777216) : Z (range1 [.int (l : Int)] st) QL E = QL ((List.range l).map fun (k : Nat) => .int (k : Int)) st := by
  rw [Z_range1 ⟨by omega, by omega⟩, Int.toNat_natCast]
  simp only [Int.zero_add]
@[simp ↓] theorem Z_range2 (h : rangeOk i) (h' : rangeOk j) : Z (range2 [.int i, .int j] st) QL E = QL ((List.range (j - i).toNat).map fun (k : Nat) => .int (i + (k : Int))) st := by unfold range2; dsimp only; rw [if_pos ⟨h, h'⟩]; rfl
@[simp ↓] theorem Z_itT : Z (itemsM (.tup xs) st) QL E = QL xs st := propext Iff.rfl
@[simp ↓] theorem Z_itL : Z (itemsM (.lst xs) st) QL E = QL xs st := propext Iff.rfl
@[simp ↓] theorem Z_itF : Z (itemsM (.frz xs) st) QL E = QL xs st := propext Iff.rfl
@[simp ↓] theorem Z_itS : Z (itemsM (.str a) st) QL E = QL (a.map fun c => .str [c]) st := propext Iff.rfl
@[simp ↓] theorem Z_getTab {tab : List (List Nat × PV)} : Z (getTab tab (.str a) st) QP E = QP ((lookT tab a).getD .non) st := propext Iff.rfl
@[simp ↓] theorem Z_min : Z (minM [.int i, .int j] st) QP E = QP (.int (if j < i then j else i)) st := propext Iff.rfl
@[simp ↓] theorem Z_max : Z (maxM [.int i, .int j] st) QP E = QP (.int (if j > i then j else i)) st := propext Iff.rfl
@[simp ↓] theorem Z_intI : Z (intM [.int i] st) QP E = QP (.int i) st := propext Iff.rfl
@[simp ↓] theorem Z_intB {k : Bool} : Z (intM [.bl k] st) QP E = QP (.int (if k then 1 else 0)) st := propext Iff.rfl
@[simp ↓] theorem Z_enumL : Z (enumM [.lst xs] st) QL E = QL (xs.mapIdx fun i p => .tup [.int (i : Nat), p]) st := propext Iff.rfl
@[simp ↓] theorem Z_inS {n : Bool} {c : Nat} : Z (inM n (.str [c]) (.str a) st) QP E = QP (.bl (ng n (decide (c ∈ a)))) st := propext Iff.rfl
@[simp] theorem ng_t {b : Bool} : ng true b = !b := rfl
@[simp] theorem ng_f {b : Bool} : ng false b = b := rfl
@[simp ↓] theorem Z_tyS : Z (tyC "str" (.str a) st) QU E = QU () st := propext Iff.rfl
theorem Z_join {zs : List (List Nat)} (h : seqOf x st = some (zs.map .str)) (hz : (zs.map (·.length)).sum + zs.length * a.length ≤ 16777216) : Z (joinM (.str a) [x] st) QP E = QP (.str (TL.joinL a zs)) st := by
  have e : ∀ l : List (List Nat), strsOf (l.map .str) = some l := by
    intro l; induction l with
    | nil => rfl
    | cons z l ih => rw [List.map_cons, strsOf, ih]; rfl
  unfold joinM; dsimp only; rw [h]; dsimp only; rw [e]; dsimp only; rw [if_pos hz]; rfl
theorem Z_ixG (h : seqOf x st = some xs) : Z (ixM x (.int i) st) QP E = Z (optM (L2.atI xs i) st) QP E := by unfold ixM; rw [h]
theorem Z_lenG (h : seqOf x st = some xs) : Z (lenM [x] st) QP E = QP (.int xs.length) st := by unfold lenM; dsimp only; rw [h]; rfl
@[simp ↓] theorem Z_tyL (h : st[m]? = some (.lst xs)) : Z (tyC "list" (.loc m) st) QU E = QU () st := by
  unfold tyC listOf; dsimp only; rw [h]; rfl
@[simp ↓] theorem Z_append (h : st[m]? = some (.lst xs)) (hl : xs.length < 16777216) : Z (appendM (.loc m) [x] st) QP E = QP .non (st.set m (.lst (xs ++ [x]))) := by
  unfold appendM lstCell; dsimp only; rw [h]; dsimp only; rw [if_pos hl]; rfl
theorem layPs_ints : ∀ (l : List Int), layPs (l.map .int) = true
  | [] => by simp [layPs]
  | i :: r => by rw [List.map_cons, layPs, layPs_ints r]; simp [layP]
theorem depPs_ints : ∀ (l : List Int), depPs (l.map .int) = 0
  | [] => by simp [depPs]
  | i :: r => by rw [List.map_cons, depPs, depPs_ints r]; simp [depP]
theorem eqbs_ints : ∀ (l : List Int), eqbs (l.map .int) (l.map .int) = true
  | [] => by simp [eqbs]
  | i :: r => by rw [List.map_cons, eqbs, eqbs_ints r]; simp [eqb]
theorem log2_small {m : Int} (h : m.natAbs < 1000000) : m.natAbs.log2 < 9000 := by
  by_cases h0 : m.natAbs = 0
  · rw [h0]; decide
  · exact (Nat.log2_lt h0).mpr (Nat.lt_of_lt_of_le (show m.natAbs < 2 ^ 20 by omega) (Nat.pow_le_pow_right (by omega) (by omega)))
theorem cut_to {α : Type} {l : List α} {p : Int} (h0 : 0 ≤ p) (h1 : p ≤ l.length) : cutL l none (some p) = l.take p.toNat := by
  unfold cutL HT.sIx
  simp
  have : ¬ p < 0 := by omega
  simp [this]
theorem cut_from {α : Type} {l : List α} {p : Int} (h0 : 0 ≤ p) (h1 : p ≤ l.length) : cutL l (some p) none = l.drop p.toNat := by
  have hp : ¬ p < 0 := by omega
  have hm : min p.toNat l.length = p.toNat := by omega
  show (l.drop (if p < 0 then (p + (l.length : Int)).toNat else min p.toNat l.length)).take (l.length - (if p < 0 then (p + (l.length : Int)).toNat else min p.toNat l.length)) = _
  rw [if_neg hp, hm]
  exact List.take_of_length_le (by rw [List.length_drop]; omega)
end
def sCells : List Nat := [99, 101, 108, 108, 115]
def sCount : List Nat := [99, 111, 117, 110, 116]
def sDigits : List Nat := [100, 105, 103, 105, 116, 115]
theorem getN {st : Sto} {m : Nat} {c : Cell} (h : st[m]? = some c) : m < st.length := by
  rcases Nat.lt_or_ge m st.length with h' | h'
  · exact h'
  · rw [List.getElem?_eq_none h'] at h; cases h
structure Box (st : Sto) (b c : Nat) (k : Int) : Prop where
  dct : ∃ d, st[b]? = some (.dct [(.str [99, 101, 108, 108, 115], .loc c), (.str [99, 111, 117, 110, 116], .int k), (.str [100, 105, 103, 105, 116, 115], .bl d)])
  cel : ∃ ns : List Int, ns ≠ [] ∧ st[c]? = some (.lst (ns.map .int))
theorem Box.app {st : Sto} {b c : Nat} {k : Int} (B : Box st b c k) (ys : Sto) : Box (st ++ ys) b c k := by
  obtain ⟨⟨d, hd⟩, ns, hn, hc⟩ := B
  exact ⟨⟨d, by rw [List.getElem?_append_left (getN hd), hd]⟩, ns, hn, by rw [List.getElem?_append_left (getN hc), hc]⟩
theorem Box.setN {st : Sto} {b c m : Nat} {k : Int} {x : Cell} (B : Box st b c k) (h : m ≠ b) (h' : m ≠ c) : Box (st.set m x) b c k := by
  obtain ⟨⟨d, hd⟩, ns, hn, hc⟩ := B
  exact ⟨⟨d, by rw [List.getElem?_set_ne h, hd]⟩, ns, hn, by rw [List.getElem?_set_ne h', hc]⟩
theorem Box.bl {st : Sto} {b c : Nat} {k : Int} (B : Box st b c k) : b < st.length := let ⟨_, h⟩ := B.dct; getN h
theorem Box.cl {st : Sto} {b c : Nat} {k : Int} (B : Box st b c k) : c < st.length := let ⟨_, _, h⟩ := B.cel; getN h
theorem atI_of {α : Type} {xs : List α} {i : Int} (h0 : 0 ≤ i) (h1 : i < xs.length) : L2.atI xs i = some (xs[i.toNat]'(by omega)) := by
  unfold L2.atI L2.ixN
  rw [if_pos h0, if_pos h1]
  simp [List.getElem?_eq_getElem (show i.toNat < xs.length by omega)]
theorem ixN_of {n : Nat} {i : Int} (h0 : 0 ≤ i) (h1 : i < n) : L2.ixN n i = some i.toNat := by
  unfold L2.ixN
  rw [if_pos h0, if_pos h1]
end MP

set_option maxRecDepth 100000
set_option maxHeartbeats 1000000
namespace MP
open PySem L2
mutual
def plP : PV → Bool
  | .non => true
  | .int _ => true
  | .str x => x.all fun c => decide (c < 1114112)
  | .tup xs => plPs xs
  | .lst xs => plPs xs
  | _ => false
def plPs : List PV → Bool
  | [] => true
  | x :: xs => plP x && plPs xs
end
theorem plPs_iff {xs : List PV} : plPs xs = true ↔ ∀ x ∈ xs, plP x = true := by
  induction xs with
  | nil => simp [plPs]
  | cons x xs ih => simp [plPs, ih]
mutual
theorem eqb_pl : ∀ (x y : PV), plP x = true → plP y = true → eqb x y = decide (x = y)
  | .non, y, h, h' => by cases y <;> simp [eqb]
  | .int i, y, h, h' => by
    cases y <;> simp [plP] at h' <;> simp [eqb]
    rw [ibeq]
  | .str a, y, h, h' => by
    cases y <;> simp [plP] at h' <;> simp [eqb]
    rw [lbeq]
  | .tup xs, y, h, h' => by
    cases y <;> simp [plP] at h' <;> simp [eqb]
    exact eqbs_pl xs _ (by simpa [plP] using h) h'
  | .lst xs, y, h, h' => by
    cases y <;> simp [plP] at h' <;> simp [eqb]
    exact eqbs_pl xs _ (by simpa [plP] using h) h'
  | .bl _, _, h, _ => by simp [plP] at h
  | .ty _, _, h, _ => by simp [plP] at h
  | .gl _, _, h, _ => by simp [plP] at h
  | .frz _, _, h, _ => by simp [plP] at h
  | .loc _, _, h, _ => by simp [plP] at h
theorem eqbs_pl : ∀ (x y : List PV), plPs x = true → plPs y = true → eqbs x y = decide (x = y)
  | [], y, h, h' => by cases y <;> simp [eqbs]
  | a :: x, [], h, h' => by simp [eqbs]
  | a :: x, b :: y, h, h' => by
    simp [plPs] at h h'
    rw [eqbs, eqb_pl a b h.1 h'.1, eqbs_pl x y h.2 h'.2]
    simp
end
mutual
theorem lay_pl : ∀ (x : PV), plP x = true → layP x = true
  | .non, h => by simp [layP]
  | .int i, h => by simp [layP]
  | .str a, h => by simpa [layP, plP] using h
  | .tup xs, h => by simp [layP]; exact lays_pl xs (by simpa [plP] using h)
  | .lst xs, h => by simp [layP]; exact lays_pl xs (by simpa [plP] using h)
  | .bl _, h => by simp [plP] at h
  | .ty _, h => by simp [plP] at h
  | .gl _, h => by simp [plP] at h
  | .frz _, h => by simp [plP] at h
  | .loc _, h => by simp [plP] at h
theorem lays_pl : ∀ (x : List PV), plPs x = true → layPs x = true
  | [], h => by simp [layPs]
  | a :: x, h => by
    simp [plPs] at h
    simp [layPs, lay_pl a h.1, lays_pl x h.2]
end
theorem shal_pl {x : PV} {st : Sto} (h : plP x = true) : shal x st = x := by
  cases x <;> simp [plP] at h <;> simp [shal]
def okP (x : PV) : Bool := plP x && decide (depP x ≤ 64)
theorem cmp_ok {x y : PV} {st : Sto} (hx : okP x = true) (hy : okP y = true) : cmpOk x y st = true := by
  simp [okP] at hx hy
  simp [cmpOk, shal_pl hx.1, shal_pl hy.1, lay_pl _ hx.1, lay_pl _ hy.1, hx.2, hy.2]
theorem Z_eqP {x y : PV} {st : Sto} {Q : PV → Sto → Prop} {E : Exn → Sto → Prop} (hx : okP x = true) (hy : okP y = true) : Z (eqM x y st) Q E = Q (.bl (decide (x = y))) st := by
  rw [Z_eq (cmp_ok hx hy)]
  simp [okP] at hx hy
  rw [shal_pl hx.1, shal_pl hy.1, eqb_pl _ _ hx.1 hy.1]
theorem Z_neP {x y : PV} {st : Sto} {Q : PV → Sto → Prop} {E : Exn → Sto → Prop} (hx : okP x = true) (hy : okP y = true) : Z (neM x y st) Q E = Q (.bl (!decide (x = y))) st := by
  rw [Z_ne (cmp_ok hx hy)]
  simp [okP] at hx hy
  rw [shal_pl hx.1, shal_pl hy.1, eqb_pl _ _ hx.1 hy.1]
def fpl : PV → Bool
  | .non => true
  | .int _ => true
  | .str _ => true
  | _ => false
theorem eqb_fpl {x y : PV} (h : fpl x = true) (h' : fpl y = true) : eqb x y = decide (x = y) := by
  cases x <;> simp [fpl] at h <;> cases y <;> simp [fpl] at h' <;> simp [eqb, ibeq, lbeq]
theorem flat_fpl {x : PV} (h : fpl x = true) : flatP x = true := by cases x <;> simp [fpl] at h <;> simp [flatP]
theorem any_fpl {x : PV} (h : fpl x = true) : ∀ {xs : List PV}, xs.all fpl = true → xs.all flatP = true ∧ (xs.any fun p => eqb p x) = decide (x ∈ xs)
  | [], _ => by simp
  | y :: xs, hs => by
    simp at hs
    obtain ⟨h1, h2⟩ := any_fpl h (xs := xs) (by simpa using hs.2)
    have e := eqb_fpl hs.1 h
    refine ⟨by simp [flat_fpl hs.1]; simpa using h1, ?_⟩
    rw [List.any_cons, h2, e]
    by_cases hy : y = x
    · subst hy; simp
    · have : ¬ x = y := fun e => hy e.symm
      simp [hy, this]
theorem Z_inP {n : Bool} {x y : PV} {xs : List PV} {st : Sto} {Q : PV → Sto → Prop} {E : Exn → Sto → Prop} (hs : seqOf y st = some xs) (hx : fpl x = true) (hf : xs.all fpl = true) : Z (inM n x y st) Q E = Q (.bl (ng n (decide (x ∈ xs)))) st := by
  obtain ⟨h1, h2⟩ := any_fpl hx hf
  have e : inM n x y st = (if (flatP x && xs.all flatP) = true then .ok (.bl (ng n (xs.any fun p => eqb p x))) st else .bad) := by
    unfold inM
    cases y with
    | str z => simp [seqOf] at hs
    | tup z => dsimp only; rw [hs]
    | lst z => dsimp only; rw [hs]
    | frz z => dsimp only; rw [hs]
    | loc z => dsimp only; rw [hs]
    | non => simp [seqOf] at hs
    | bl _ => simp [seqOf] at hs
    | int _ => simp [seqOf] at hs
    | ty _ => simp [seqOf] at hs
    | gl _ => simp [seqOf] at hs
  rw [e, if_pos (by rw [h1, flat_fpl hx]; rfl), h2]
  rfl
theorem joinNil : ∀ zs : List (List Nat), TL.joinL [] zs = zs.flatten
  | [] => rfl
  | [p] => by simp [TL.joinL]
  | p :: q :: r => by rw [TL.joinL, joinNil (q :: r)]; simp
theorem Z_joinC {l : List Nat} {st : Sto} {Q : PV → Sto → Prop} {E : Exn → Sto → Prop} (h : l.length ≤ 16777216) : Z (joinM (.str []) [.lst (l.map fun c => PV.str [c])] st) Q E = Q (.str l) st := by
  have e1 : ∀ l : List Nat, (l.map fun c => [c]).flatten = l := by
    intro l; induction l with
    | nil => rfl
    | cons x l ih => simp [ih]
  have e2 : ∀ l : List Nat, ((l.map fun c => [c]).map (·.length)).sum = l.length := by
    intro l; induction l with
    | nil => rfl
    | cons x l ih => rw [List.map_cons, List.map_cons, List.sum_cons, ih]; simp; omega
  rw [Z_join (zs := l.map fun c => [c]) (by simp) (by rw [e2]; simpa using h), joinNil, e1]
theorem str_at {a : List Nat} {i : Int} {m : Nat} (h0 : 0 ≤ i) (h1 : i < m) (hm : m ≤ a.length) (ha : ∀ c ∈ a, c < 1114112) : ∃ c, L2.atI a i = some c ∧ c < 1114112 := ⟨_, atI_of h0 (by omega), ha _ (List.getElem_mem _)⟩
def Sg (z : List Nat) (m : Nat) : Prop := z.length ≤ m ∧ ∀ c ∈ z, c < 1114112
theorem Sg.app {a b : List Nat} {m k : Nat} (h : Sg a m) (h' : Sg b k) : Sg (a ++ b) (m + k) := ⟨by have := h.1; have := h'.1; simp; omega, fun c hc => by
  rcases List.mem_append.mp hc with hc | hc
  · exact h.2 c hc
  · exact h'.2 c hc⟩
theorem Sg.mono {a : List Nat} {m k : Nat} (h : Sg a m) (hk : m ≤ k) : Sg a k := ⟨Nat.le_trans h.1 hk, h.2⟩
theorem Sg.cut {a : List Nat} {m : Nat} {x y : Option Int} (h : Sg a m) : Sg (cutL a x y) m := by
  unfold cutL
  exact ⟨Nat.le_trans (by simp; omega) h.1, fun c hc => h.2 c (List.mem_of_mem_drop (List.mem_of_mem_take hc))⟩
@[simp ↓] theorem Z_slF {xs : List PV} {lo hi : Option Int} {st : Sto} {Q : PV → Sto → Prop} {E : Exn → Sto → Prop} : Z (slM (.frz xs) lo hi st) Q E = Q (.lst (cutL xs lo hi)) st := propext Iff.rfl
theorem cut_map {α β : Type} (f : α → β) {xs : List α} {lo hi : Option Int} : cutL (xs.map f) lo hi = (cutL xs lo hi).map f := by
  unfold cutL; rw [List.length_map, List.map_take, List.map_drop]
theorem cut_len {α : Type} {xs : List α} {lo hi : Option Int} : (cutL xs lo hi).length ≤ xs.length := by
  unfold cutL; simp; omega
theorem cut_mid {α : Type} {xs : List α} {a b : Nat} : cutL xs (some (a : Int)) (some (b : Int)) = (xs.drop a).take (b - a) := by
  unfold cutL
  rw [HT.sIx_nat, HT.sIx_nat]
  apply List.ext_getElem?
  intro i
  simp only [List.getElem?_take, List.getElem?_drop]
  by_cases h : a + i < xs.length
  · rw [show min a xs.length = a by omega]
    by_cases h1 : i < b - a
    · rw [if_pos h1, if_pos (by omega)]
    · rw [if_neg h1, if_neg (by omega)]
  · rw [List.getElem?_eq_none (show xs.length ≤ a + i by omega)]
    split
    · rw [List.getElem?_eq_none (by omega)]; split <;> rfl
    · split <;> rfl
theorem cut_midlen {α : Type} {xs : List α} {a b : Nat} : (cutL xs (some (a : Int)) (some (b : Int))).length ≤ b - a := by
  rw [cut_mid]; simp; omega
section
variable {st : Sto} {Q : PV → Sto → Prop} {E : Exn → Sto → Prop} {QL : List PV → Sto → Prop} {i : Int} {a b : List Nat} {xs ys : List PV} {x : PV} {n : Bool} {tab : List (List Nat × PV)}
theorem Z_strI (h : i.natAbs.log2 < 1920) : Z (strM [.int i] st) Q E = Q (.str (intS i)) st := by unfold strM; dsimp only; rw [if_pos h]; rfl
@[simp ↓] theorem Z_strS : Z (strM [.str a] st) Q E = Q (.str a) st := propext Iff.rfl
@[simp ↓] theorem Z_inTab : Z (inTab n tab (.str a) st) Q E = Q (.bl (ng n (lookT tab a).isSome)) st := propext Iff.rfl
theorem Z_ixTab (h : lookT tab a = some x) : Z (ixTab tab (.str a) st) Q E = Q x st := by unfold ixTab; dsimp only; rw [h]; rfl
@[simp ↓] theorem Z_zipT : Z (zipM [.tup xs, .tup ys] st) QL E = QL (zipP xs ys) st := propext Iff.rfl
@[simp ↓] theorem Z_zipL : Z (zipM [.lst xs, .lst ys] st) QL E = QL (zipP xs ys) st := propext Iff.rfl
theorem Z_index {k : Nat} {r : List Nat} (h : Builtin.Str.occurrences ⟨a.toArray⟩ ⟨b.toArray⟩ 0 a.length 1 = k :: r) : Z (indexM (.str a) [.str b] st) Q E = Q (.int (k : Nat)) st := by unfold indexM; dsimp only; rw [h]; rfl
theorem intsOf_map (l : List Int) : intsOf (l.map .int) = some l := by
  induction l with
  | nil => rfl
  | cons i l ih => rw [List.map_cons, intsOf, ih]; rfl
theorem Z_sumL {l : List Int} : Z (sumM [.lst (l.map .int)] st) Q E = Q (.int l.sum) st := by
  unfold sumM; simp only [lstOf, listOf, intsOf_map]; rfl
end
theorem boolsOf_map (l : List Bool) : boolsOf (l.map .bl) = some l := by
  induction l with
  | nil => rfl
  | cons i l ih => rw [List.map_cons, boolsOf, ih]; rfl
theorem Z_allL {bs : List Bool} {st : Sto} {Q : PV → Sto → Prop} {E : Exn → Sto → Prop} : Z (allM false [.lst (bs.map .bl)] st) Q E = Q (.bl (bs.all id)) st := by
  unfold allM; simp only [listOf, boolsOf_map]; rfl
theorem Z_anyL {bs : List Bool} {st : Sto} {Q : PV → Sto → Prop} {E : Exn → Sto → Prop} : Z (allM true [.lst (bs.map .bl)] st) Q E = Q (.bl (bs.any id)) st := by
  unfold allM; simp only [listOf, boolsOf_map]; rfl
theorem Z_allR {k : Nat} {st : Sto} {Q : PV → Sto → Prop} {E : Exn → Sto → Prop} : Z (allM false [.lst (List.replicate k (.bl true))] st) Q E = Q (.bl true) st := by
  have e := Z_allL (bs := List.replicate k true) (st := st) (Q := Q) (E := E)
  have h : (List.replicate k true).all id = true := by simp
  rw [List.map_replicate, h] at e
  exact e
def kForC (f : List PV → List PV) (g : GM) (b : MS1) (ρ : Rho) (QF : KF) (E : KX) : Nat × List PV → Sto → Prop := fun nx s => Z (forG (gd nx.1 nx.2) g b (f nx.2) ρ s) QF E
@[simp ↓] theorem kForC_at {f : List PV → List PV} {g : GM} {b : MS1} {ρ : Rho} {QF : KF} {E : KX} {n : Nat} {xs : List PV} {s : Sto} : kForC f g b ρ QF E (n, xs) s = Z (forG (gd n xs) g b (f xs) ρ s) QF E := propext Iff.rfl
@[simp ↓] theorem Z_sForC {f : List PV → List PV} {mi : Rho → M (Nat × List PV)} {g : GM} {b : MS1} {ρ : Rho} {st : Sto} {QF : KF} {E : KX} : Z (sForC f mi g b ρ st) QF E = Z (mi ρ st) (kForC f g b ρ QF E) (kX ρ QF) := by
  unfold sForC; rw [Z_onErr]; rfl
def kCell (Q : Nat × List PV → Sto → Prop) : PV → Sto → Prop := fun v s => Z (atCell v s) Q E0
theorem kCell_at {Q : Nat × List PV → Sto → Prop} {n : Nat} {xs : List PV} {s : Sto} (h : s[n]? = some (.lst xs)) : kCell Q (.loc n) s = Q (n, xs) s := by
  unfold kCell atCell; dsimp only; rw [h]; rfl
@[simp ↓] theorem Z_iCell {m : ME1} {ρ : Rho} {st : Sto} {Q : Nat × List PV → Sto → Prop} {E : KX} : Z (iCell m ρ st) Q E = Z (m ρ st) (kCell Q) E := by
  unfold iCell; rw [Z_bind]
  congr 1; funext v s
  unfold kCell atCell
  cases v with
  | loc n => dsimp only; cases s[n]? with
    | none => rfl
    | some c => cases c <;> rfl
  | _ => rfl
theorem gd_of {n : Nat} {xs : List PV} {st : Sto} (h : st[n]? = some (.lst xs)) : gd n xs st = true := by unfold gd; rw [h]; simp
theorem Z_forG_nil {G : Sto → Bool} {g : GM} {b : MS1} {ρ : Rho} {st : Sto} {QF : KF} {E : KX} (h : G st = true) : Z (forG G g b [] ρ st) QF E = QF (.next ρ) st := by
  unfold forG; rw [if_pos h]; rfl
theorem Z_forG {G : Sto → Bool} {g : GM} {b : MS1} {p : PV} {ps : List PV} {ρ : Rho} {st : Sto} {QF : KF} {E : KX} (h : G st = true) : Z (forG G g b (p :: ps) ρ st) QF E = Z (g p ρ st) (fun ρ1 s => Z (b ρ1 s) (turnQ (forG G g b ps) QF E) E) (kX ρ QF) := by
  rw [forG]; dsimp only; rw [if_pos h, Z_onErr]
  congr 1; funext ρ1 s
  unfold turnL
  cases b ρ1 s with
  | ok f s' => cases f <;> rfl
  | err x s' => rfl
  | bad => rfl
theorem for_invG {G : Sto → Bool} {g : GM} {b : MS1} {QF : KF} {E : KX} (I : List PV → Rho → Sto → Prop) (hG : ∀ ps ρ st, I ps ρ st → G st = true) : ∀ (ps : List PV) (ρ : Rho) (st : Sto), I ps ρ st → (∀ p ps ρ st, I (p :: ps) ρ st → Z (g p ρ st) (fun ρ1 s => Z (b ρ1 s) (fun fl s2 => (∃ ρ2, (fl = .next ρ2 ∨ fl = .cont ρ2) ∧ I ps ρ2 s2) ∨ (∃ ρ2, fl = .brk ρ2 ∧ QF (.next ρ2) s2) ∨ (∃ v, fl = .ret v ∧ QF fl s2)) E0) E0) →
    (∀ ρ st, I [] ρ st → QF (.next ρ) st) → Z (forG G g b ps ρ st) QF E
  | [], ρ, st, h, _, hq => by rw [Z_forG_nil (hG _ _ _ h)]; exact hq ρ st h
  | p :: ps, ρ, st, h, hs, hq => by
    rw [Z_forG (hG _ _ _ h)]
    refine (hs p ps ρ st h).go fun ρ1 s h1 => Z.go h1 fun fl s2 h2 => ?_
    rcases h2 with ⟨ρ3, e | e, h3⟩ | ⟨ρ3, e, h3⟩ | ⟨v, e, h3⟩
    · subst e; exact for_invG I hG ps ρ3 s2 h3 hs hq
    · subst e; exact for_invG I hG ps ρ3 s2 h3 hs hq
    · subst e; exact h3
    · subst e; exact h3
def kLcC (f : List PV → List PV) (k : List PV → M PV) (g : GM) (t : MT1) (e : ME1) (vs : List Nat) (ρ : Rho) (QP : KP) (E : KX) : Nat × List PV → Sto → Prop := fun nx s => Z (lcG (gd nx.1 nx.2) g t e (wipeP ρ vs) (f nx.2) [] s) (kLE k QP E) E
@[simp ↓] theorem kLcC_at {f : List PV → List PV} {k : List PV → M PV} {g : GM} {t : MT1} {e : ME1} {vs : List Nat} {ρ : Rho} {QP : KP} {E : KX} {n : Nat} {xs : List PV} {s : Sto} : kLcC f k g t e vs ρ QP E (n, xs) s = Z (lcG (gd n xs) g t e (wipeP ρ vs) (f xs) [] s) (kLE k QP E) E := propext Iff.rfl
@[simp ↓] theorem Z_eLcC {f : List PV → List PV} {k : List PV → M PV} {mi : Rho → M (Nat × List PV)} {g : GM} {t : MT1} {e : ME1} {vs : List Nat} {ρ : Rho} {st : Sto} {QP : KP} {E : KX} : Z (eLcC f k mi g t e vs ρ st) QP E = Z (mi ρ st) (kLcC f k g t e vs ρ QP E) E := by
  unfold eLcC; rw [Z_bind]; simp only [Z_bind]; rfl
theorem lcG_nil {G : Sto → Bool} {g : GM} {t : MT1} {e : ME1} {ρ0 : Rho} {acc : List PV} {st : Sto} {QL : KLs} {E : KX} (h : G st = true) : Z (lcG G g t e ρ0 [] acc st) QL E = QL acc st := by unfold lcG; rw [if_pos h]; rfl
theorem lcG_cons {G : Sto → Bool} {g : GM} {t : MT1} {e : ME1} {ρ0 : Rho} {p : PV} {ps acc : List PV} {st : Sto} {QL : KLs} {E : KX} (h : G st = true) : Z (lcG G g t e ρ0 (p :: ps) acc st) QL E = Z (g p ρ0 st) (fun ρ1 s => Z (t ρ1 s) (fun c s => if c = true then Z (e ρ1 s) (fun y s => if acc.length < 16777216 then Z (lcG G g t e ρ0 ps (acc ++ [y]) s) QL E else False) E0 else Z (lcG G g t e ρ0 ps acc s) QL E) E0) E0 := by
  rw [lcG]; dsimp only; rw [if_pos h, Z_bind, Z_calm]
  congr 1; funext ρ1 s
  rw [Z_bind, Z_calm]
  congr 1; funext c s
  cases c with
  | false => rfl
  | true =>
    rw [if_pos rfl, if_pos rfl, Z_bind, Z_calm]
    congr 1; funext y s
    rw [Z_ite]
    rfl
abbrev DG : List Nat := [48, 49, 50, 51, 52, 53, 54, 55, 56, 57]
def isD (c : Nat) : Bool := decide (c ∈ DG)
theorem isD_iff (c : Nat) : isD c = true ↔ 48 ≤ c ∧ c ≤ 57 := by
  simp [isD]; omega
theorem inD {st : Sto} {b : Bool} {c : Nat} {Q : PV → Sto → Prop} {E : Exn → Sto → Prop} : Z (inM b (.str [c]) (.str DG) st) Q E = Q (.bl (ng b (isD c))) st := propext Iff.rfl
section
open PySem.NumText
theorem fold_bd : ∀ (cs : List Nat) (a : Nat), AllDigits cs → a * 10 ^ cs.length ≤ cs.foldl (fun acc c => acc * 10 + (c - 48)) a ∧ cs.foldl (fun acc c => acc * 10 + (c - 48)) a < (a + 1) * 10 ^ cs.length
  | [], a, _ => by simp
  | c :: cs, a, h => by
    have hc := h.head
    obtain ⟨h1, h2⟩ := fold_bd cs (a * 10 + (c - 48)) h.tail
    rw [List.foldl_cons, List.length_cons, Nat.pow_succ]
    constructor
    · refine Nat.le_trans ?_ h1
      rw [show a * (10 ^ cs.length * 10) = (a * 10) * 10 ^ cs.length by rw [Nat.mul_comm (10 ^ cs.length), Nat.mul_assoc]]
      exact Nat.mul_le_mul_right _ (by omega)
    · refine Nat.lt_of_lt_of_le h2 ?_
      rw [show (a + 1) * (10 ^ cs.length * 10) = ((a + 1) * 10) * 10 ^ cs.length by rw [Nat.mul_comm (10 ^ cs.length), Nat.mul_assoc]]
      exact Nat.mul_le_mul_right _ (by omega)
theorem allD {d : List Nat} (h : d.all isD = true) : AllDigits d := fun c hc => (isD_iff c).mp (List.all_eq_true.mp h c hc)
theorem Z_intS {d : List Nat} {st : Sto} {Q : PV → Sto → Prop} {E : Exn → Sto → Prop} (h : d.all isD = true) (h0 : d ≠ []) (hl : d.length ≤ 640) : Z (intM [.str d] st) Q E = Q (.int (digitsVal d : Nat)) st := by
  have e := intText_digits (x := ⟨d.toArray⟩) (by simpa using allD h) (by simpa using h0) (by show d.toArray.size ≤ 4300; simp; omega)
  unfold intM; dsimp only; rw [if_pos hl, e]
  simp
theorem val_great {c : Nat} {d : List Nat} (h : (c :: d).all isD = true) (hl : 5 ≤ d.length) (h0 : c ≠ 48) : 99999 < digitsVal (c :: d) := by
  have hc := (allD h).head
  have h1 := (fold_bd d (0 * 10 + (c - 48)) (allD h).tail).1
  have h2 : 10 ^ 5 ≤ 10 ^ d.length := Nat.pow_le_pow_right (by omega) hl
  have h3 : 1 * 10 ^ d.length ≤ (0 * 10 + (c - 48)) * 10 ^ d.length := Nat.mul_le_mul_right _ (by omega)
  unfold digitsVal
  rw [List.foldl_cons]
  omega
end
theorem Z_idxD {c : Nat} {st : Sto} {Q : PV → Sto → Prop} {E : Exn → Sto → Prop} (h : isD c = true) : Z (indexM (.str DG) [.str [c]] st) Q E = Q (.int ((c - 48 : Nat) : Int)) st := by
  have hc := (isD_iff c).mp h
  have h2 : c = 48 ∨ c = 49 ∨ c = 50 ∨ c = 51 ∨ c = 52 ∨ c = 53 ∨ c = 54 ∨ c = 55 ∨ c = 56 ∨ c = 57 := by omega
  rcases h2 with rfl | rfl | rfl | rfl | rfl | rfl | rfl | rfl | rfl | rfl <;> exact Z_index (r := []) (by decide +kernel)
section
variable {κ : Type} [DecidableEq κ]
theorem foldl_ddS : ∀ (l acc : List κ), acc.Nodup → (l.foldl ddS acc).Nodup ∧ ((l.foldl ddS acc).length = acc.length + l.length ↔ (acc ++ l).Nodup)
  | [], acc, h => by simp [h]
  | k :: l, acc, h => by
    have hl : ∀ (l acc : List κ), (l.foldl ddS acc).length ≤ acc.length + l.length := by
      intro l; induction l with
      | nil => intro acc; simp
      | cons k l ih => intro acc; have := ih (ddS acc k); have := ddS_len acc k; simp; omega
    by_cases hk : k ∈ acc
    · have e : ddS acc k = acc := if_pos hk
      obtain ⟨a, b⟩ := foldl_ddS l acc h
      rw [List.foldl_cons, e]
      refine ⟨a, fun q => ?_, fun q => ?_⟩
      · have := hl l acc; simp at q; omega
      · exfalso
        rw [List.nodup_append] at q
        exact q.2.2 k hk k (by simp) rfl
    · have e : ddS acc k = acc ++ [k] := if_neg hk
      obtain ⟨a, b⟩ := foldl_ddS l (acc ++ [k]) (by
        rw [List.nodup_append]
        refine ⟨h, by simp, fun x hx y hy => ?_⟩
        simp at hy; subst hy
        intro e; subst e; exact hk hx)
      rw [List.foldl_cons, e]
      refine ⟨a, ?_⟩
      rw [show acc.length + (k :: l).length = (acc ++ [k]).length + l.length by simp; omega, b]
      simp
theorem dd_nodup (l : List κ) : ((dd l).length = l.length) ↔ l.Nodup := by
  have := (foldl_ddS l [] List.nodup_nil).2
  simpa [dd] using this
end
theorem keysOf_str (zs : List (List Nat)) : keysOf (zs.map .str) = some (zs.map fun z => .inr ⟨z.toArray⟩) := by
  induction zs with
  | nil => rfl
  | cons z zs ih => rw [List.map_cons, keysOf, ih]; rfl
theorem Z_lenSet {x : PV} {zs : List (List Nat)} {st : Sto} {Q : PV → Sto → Prop} {E : Exn → Sto → Prop} (h : seqOf x st = some (zs.map .str)) (hl : zs.length ≤ 1000) (hq : ∀ m : Nat, (m = zs.length ↔ zs.Nodup) → m ≤ zs.length → Q (.int m) st) : Z (lenSetM x st) Q E := by
  unfold lenSetM
  rw [h]; dsimp only
  rw [keysOf_str]; dsimp only
  rw [if_pos (by simpa using hl)]
  refine hq _ ?_ ?_
  · have := dd_nodup (zs.map fun z => (Sum.inr ⟨z.toArray⟩ : L2.Key))
    rw [List.length_map] at this
    rw [this]
    refine List.pairwise_map.trans ?_
    refine ⟨fun h => h.imp fun {a b} h e => h (by rw [e]), fun h => h.imp fun {a b} h e => h (by simpa using e)⟩
  · have := dd_len (zs.map fun z => (Sum.inr ⟨z.toArray⟩ : L2.Key))
    rwa [List.length_map] at this
section
variable {st : Sto} {ρ : Rho} {QP : KP} {E : KX} {QF : KF} {n : Nat} {c m f : String} {cs : List String} {fs : List (String × PV)} {v y : PV}
@[simp] theorem lookA_nil : lookA [] f = none := rfl
@[simp] theorem lookA_cons {g : String} {r : List (String × PV)} : lookA ((g, v) :: r) f = if g = f then some v else lookA r f := rfl
@[simp] theorem putA_nil : putA f v [] = [(f, v)] := rfl
@[simp] theorem putA_cons {g : String} {w : PV} {r : List (String × PV)} : putA f v ((g, w) :: r) = if g = f then (g, v) :: r else (g, w) :: putA f v r := rfl
@[simp ↓] theorem Z_attr (h : st[n]? = some (.ins c fs)) (hc : c ∈ cs) (hl : lookA fs f = some v) : Z (attrM cs f (.loc n) st) QP E = QP v st := by
  unfold attrM; dsimp only; rw [h]; dsimp only; rw [if_pos hc, hl]; rfl
def kSA1 (cs : List String) (f : String) (mo : ME1) (ρ : Rho) (QF : KF) (E : KX) : PV → Sto → Prop := fun y s => Z (mo ρ s) (fun x s => Z (setA cs f y x s) (fun _ s => QF (.next ρ) s) (kX ρ QF)) (kX ρ QF)
@[simp ↓] theorem Z_sAttr {mo mv : ME1} : Z (sAttr cs f mo mv ρ st) QF E = Z (mv ρ st) (kSA1 cs f mo ρ QF E) (kX ρ QF) := by
  unfold sAttr kSA1; rw [Z_onErr]; congr 1; funext y s; rw [Z_onErr]; congr 1; funext x s; rw [Z_onErr]; rfl
def kSA2 (cs : List String) (f : String) (y : PV) (ρ : Rho) (QF : KF) : PV → Sto → Prop := fun x s => Z (setA cs f y x s) (fun _ s => QF (.next ρ) s) (kX ρ QF)
@[simp ↓] theorem kSA1_at {mo : ME1} {s : Sto} : kSA1 cs f mo ρ QF E y s = Z (mo ρ s) (kSA2 cs f y ρ QF) (kX ρ QF) := propext Iff.rfl
@[simp ↓] theorem kSA2_at {s : Sto} (h : s[n]? = some (.ins c fs)) (hc : c ∈ cs) (hl : fs.length < 1000) : kSA2 cs f y ρ QF (.loc n) s = QF (.next ρ) (s.set n (.ins c (putA f y fs))) := by
  unfold kSA2 setA; dsimp only; rw [h]; dsimp only; rw [if_pos ⟨hc, hl⟩]; rfl
def kMt3 (mf : List PV → M PV) (o : PV) (QP : KP) (E : KX) : List PV → Sto → Prop := fun xs s => Z (mf (o :: xs) s) QP E
@[simp ↓] theorem kMt3_at {mf : List PV → M PV} {o : PV} {xs : List PV} {s : Sto} : kMt3 mf o QP E xs s = Z (mf (o :: xs) s) QP E := propext Iff.rfl
def kMt1 (c m : String) (mf : List PV → M PV) (ma : ML1) (ρ : Rho) (QP : KP) (E : KX) : PV → Sto → Prop := fun o s => Z (insC c m o s) (fun _ s => Z (ma ρ s) (kMt3 mf o QP E) E) E
@[simp ↓] theorem Z_eMth {mf : List PV → M PV} {mo : ME1} {ma : ML1} : Z (eMth c m mf mo ma ρ st) QP E = Z (mo ρ st) (kMt1 c m mf ma ρ QP E) E := by
  unfold eMth kMt1; rw [Z_bind]; congr 1; funext o s; rw [Z_bind]; congr 1; funext u s; rw [Z_bind]; rfl
@[simp ↓] theorem kMt1_at {mf : List PV → M PV} {ma : ML1} {s : Sto} (h : s[n]? = some (.ins c fs)) (hl : lookA fs m = none) : kMt1 c m mf ma ρ QP E (.loc n) s = Z (ma ρ s) (kMt3 mf (.loc n) QP E) E := by
  unfold kMt1 insC; dsimp only; rw [h]; dsimp only; rw [if_pos ⟨rfl, hl⟩]; rfl
def kNew (QP : KP) (n : Nat) : PV → Sto → Prop := fun v s => v = .non ∧ QP (.loc n) s
@[simp ↓] theorem kNew_at {s : Sto} : kNew QP n .non s = QP (.loc n) s := by unfold kNew; simp
@[simp ↓] theorem Z_mkIns {mf : List PV → M PV} {xs : List PV} : Z (mkIns c mf xs st) QP E = Z (mf (.loc st.length :: xs) (st ++ [.ins c []])) (kNew QP st.length) E0 := by
  unfold mkIns kNew
  cases mf (.loc st.length :: xs) (st ++ [.ins c []]) with
  | ok v s => cases v <;> simp [Z]
  | err x s => rfl
  | bad => rfl
end
section
variable {st : Sto} {ρ : Rho} {QP : KP} {QL : List PV → Sto → Prop} {E : KX} {xs ys : List PV} {a : List Nat} {n j : Nat} {x y z : PV} {kvs : List (PV × PV)}
@[simp ↓] theorem Z_zipLT : Z (zipM [.lst xs, .tup ys] st) QL E = QL (zipP xs ys) st := propext Iff.rfl
@[simp ↓] theorem Z_zipTL : Z (zipM [.tup xs, .lst ys] st) QL E = QL (zipP xs ys) st := propext Iff.rfl
@[simp ↓] theorem Z_zipTS : Z (zipM [.tup xs, .str a] st) QL E = QL (zipP xs (a.map fun c => .str [c])) st := propext Iff.rfl
@[simp ↓] theorem Z_zipLS : Z (zipM [.lst xs, .str a] st) QL E = QL (zipP xs (a.map fun c => .str [c])) st := propext Iff.rfl
def kGd (x z : PV) (QP : KP) (E : KX) : PV → Sto → Prop := fun y s => Z (dgetM x y z s) QP E
def kGe1 (me : ME1) (ρ : Rho) (QP : KP) (E : KX) : PV → Sto → Prop := fun x s => Z (isDct x s) (fun _ s => Z (me ρ s) (kGd x .non QP E) E) E
@[simp ↓] theorem Z_eGet1 {mo me : ME1} : Z (eGet1 mo me ρ st) QP E = Z (mo ρ st) (kGe1 me ρ QP E) E := by
  unfold eGet1 kGe1; rw [Z_bind]; congr 1; funext o s; rw [Z_bind]; congr 1; funext u s; rw [Z_bind]; rfl
@[simp ↓] theorem kGe1_at {me : ME1} {s : Sto} (h : s[n]? = some (.dct kvs)) : kGe1 me ρ QP E (.loc n) s = Z (me ρ s) (kGd (.loc n) .non QP E) E := by
  unfold kGe1 isDct dctOf; dsimp only; rw [h]; rfl
@[simp ↓] theorem kGd_at {s : Sto} (h : s[n]? = some (.dct kvs)) (hk : (keyOf y).isSome = true) : kGd (.loc n) z QP E y s = QP ((lookP kvs y).getD z) s := by
  unfold kGd dgetM dctOf; dsimp only; rw [h]; dsimp only; rw [if_pos hk]; rfl
def kGe3 (x y : PV) (QP : KP) (E : KX) : PV → Sto → Prop := fun z s => Z (dgetM x y z s) QP E
def kGe2 (md : ME1) (x : PV) (ρ : Rho) (QP : KP) (E : KX) : PV → Sto → Prop := fun y s => Z (md ρ s) (kGe3 x y QP E) E
def kGeA (me md : ME1) (ρ : Rho) (QP : KP) (E : KX) : PV → Sto → Prop := fun x s => Z (isDct x s) (fun _ s => Z (me ρ s) (kGe2 md x ρ QP E) E) E
@[simp ↓] theorem Z_eGet2 {mo me md : ME1} : Z (eGet2 mo me md ρ st) QP E = Z (mo ρ st) (kGeA me md ρ QP E) E := by
  unfold eGet2 kGeA; rw [Z_bind]; congr 1; funext o s; rw [Z_bind]; congr 1; funext u s; rw [Z_bind]; congr 1; funext w s; rw [Z_bind]; rfl
@[simp ↓] theorem kGeA_at {me md : ME1} {s : Sto} (h : s[n]? = some (.dct kvs)) : kGeA me md ρ QP E (.loc n) s = Z (me ρ s) (kGe2 md (.loc n) ρ QP E) E := by
  unfold kGeA isDct dctOf; dsimp only; rw [h]; rfl
@[simp ↓] theorem kGe2_at {md : ME1} {s : Sto} : kGe2 md x ρ QP E y s = Z (md ρ s) (kGe3 x y QP E) E := propext Iff.rfl
@[simp ↓] theorem kGe3_at {s : Sto} (h : s[n]? = some (.dct kvs)) (hk : (keyOf y).isSome = true) : kGe3 (.loc n) y QP E z s = QP ((lookP kvs y).getD z) s := by
  unfold kGe3 dgetM dctOf; dsimp only; rw [h]; dsimp only; rw [if_pos hk]; rfl
theorem Z_indexL (h : (flatP y && ys.all flatP) = true) (hj : idxP y ys = some j) : Z (indexL (.lst ys) [y] st) QP E = QP (.int (j : Nat)) st := by
  unfold indexL; dsimp only; rw [if_pos h, hj]; rfl
end
@[simp ↓] theorem Z_mulL {xs : List PV} {i : Int} {st : Sto} {Q : PV → Sto → Prop} {E : Exn → Sto → Prop} : Z (mulL (.lst xs) (.int i) st) Q E = if -1000000 ≤ i ∧ i ≤ 1000 ∧ xs.length ≤ 1000 then Q (.lst (List.replicate i.toNat xs).flatten) st else False := by unfold mulL; dsimp only; rw [Z_ite]; rfl
theorem Z_addN {x y : PV} {a b : List PV} {st : Sto} {Q : PV → Sto → Prop} {E : Exn → Sto → Prop} (h1 : listOf x st = some a) (h2 : listOf y st = some b) (hz : a.length + b.length ≤ 1000000) : Z (addN x y st) Q E = Q (.loc st.length) (st ++ [.lst (a ++ b)]) := by
  unfold addN; rw [h1, h2]; dsimp only; rw [if_pos (Nat.le_trans hz (by decide))]; rfl
theorem Z_dictD {m : Nat} {kvs : List (PV × PV)} {st : Sto} {Q : PV → Sto → Prop} {E : Exn → Sto → Prop} (h : st[m]? = some (.dct kvs)) : Z (dictM [.loc m] st) Q E = Q (.loc st.length) (st ++ [.dct kvs]) := by
  unfold dictM dctOf; dsimp only; rw [h]; rfl
theorem Z_dictP {x : PV} {ys : List PV} {ps : List (PV × PV)} {st : Sto} {Q : PV → Sto → Prop} {E : Exn → Sto → Prop} (h0 : dctOf x st = none) (h1 : listOf x st = some ys) (h2 : pairsOf ys = some ps) (h3 : keysOk ps = true) : Z (dictM [x] st) Q E = Q (.loc st.length) (st ++ [.dct (mergeP [] ps)]) := by
  unfold dictM; dsimp only; rw [h0]; dsimp only; rw [h1]; dsimp only; rw [h2]; dsimp only; rw [if_pos h3]; rfl
theorem Z_sortedD {m : Nat} {kvs : List (PV × PV)} {ss : List (List Nat)} {st : Sto} {Q : PV → Sto → Prop} {E : Exn → Sto → Prop} (h : st[m]? = some (.dct kvs)) (hs : strsOf (kvs.map Prod.fst) = some ss) (hz : ss.length < 64) : Z (sortedM [.loc m] st) Q E = Q (.lst ((sortS ss).map .str)) st := by
  unfold sortedM dctOf; dsimp only; rw [h]; dsimp only; rw [hs]; dsimp only; rw [if_pos hz]; rfl
theorem Z_sortedI {x : PV} {ys : List PV} {ns : List Int} {st : Sto} {Q : PV → Sto → Prop} {E : Exn → Sto → Prop} (h0 : dctOf x st = none) (h1 : listOf x st = some ys) (h2 : intsOf ys = some ns) : Z (sortedM [x] st) Q E = Q (.lst ((sortI ns).map .int)) st := by
  unfold sortedM; dsimp only; rw [h0]; dsimp only; rw [h1]; dsimp only; rw [h2]; rfl
theorem Z_sortedDI {m : Nat} {kvs : List (PV × PV)} {ns : List Int} {st : Sto} {Q : PV → Sto → Prop} {E : Exn → Sto → Prop} (h : st[m]? = some (.dct kvs)) (h1 : strsOf (kvs.map Prod.fst) = none) (hs : intsOf (kvs.map Prod.fst) = some ns) : Z (sortedM [.loc m] st) Q E = Q (.lst ((sortI ns).map .int)) st := by
  unfold sortedM dctOf; dsimp only; rw [h]; dsimp only; rw [h1]; dsimp only; rw [hs]; rfl
section
variable {st : Sto} {ρ : Rho} {QP : KP} {QU : KU} {E : KX} {m : Nat} {x y v : PV} {kvs : List (PV × PV)} {b : Bool}
theorem Z_inN (h : st[m]? = some (.dcn kvs)) (hk : (nkT x).isSome = true) : Z (inM b x (.loc m) st) QP E = QP (.bl (ng b (lookP kvs x).isSome)) st := by
  unfold inM seqOf; dsimp only; rw [h]; dsimp only; rw [if_pos hk]; rfl
theorem Z_inLf (h : st[m]? = some (.dcl kvs)) (hk : (lfOf x).isSome = true) : Z (inM b x (.loc m) st) QP E = QP (.bl (ng b (lookP kvs x).isSome)) st := by
  unfold inM seqOf; dsimp only; rw [h]; dsimp only; rw [if_pos hk]; rfl
theorem Z_ixN (h : st[m]? = some (.dcn kvs)) (hk : (nkT y).isSome = true) : Z (ixM (.loc m) y st) QP E = Z (optM (lookP kvs y) st) QP E := by
  unfold ixM seqOf dctOf gdOf; dsimp only; rw [h]; dsimp only; rw [if_pos hk]
theorem Z_ixLf (h : st[m]? = some (.dcl kvs)) (hk : (lfOf y).isSome = true) : Z (ixM (.loc m) y st) QP E = Z (optM (lookP kvs y) st) QP E := by
  unfold ixM seqOf dctOf gdOf; dsimp only; rw [h]; dsimp only; rw [if_pos hk]
theorem Z_setN (h : st[m]? = some (.dcn kvs)) (hk : (nkT y).isSome = true) (hl : kvs.length < 16777216) : Z (setM (.loc m) y v st) QU E = QU () (st.set m (.dcn (putP kvs y v))) := by
  unfold setM; dsimp only; rw [h]; dsimp only; rw [if_pos ⟨hk, hl⟩]; rfl
theorem Z_setLf (h : st[m]? = some (.dcl kvs)) (hk : (lfOf y).isSome = true) (hl : kvs.length < 16777216) : Z (setM (.loc m) y v st) QU E = QU () (st.set m (.dcl (putP kvs y v))) := by
  unfold setM; dsimp only; rw [h]; dsimp only; rw [if_pos ⟨hk, hl⟩]; rfl
def kGg (x : PV) (QP : KP) (E : KX) : PV → Sto → Prop := fun y s => Z (ggetM x y s) QP E
def kGg1 (me : ME1) (ρ : Rho) (QP : KP) (E : KX) : PV → Sto → Prop := fun x s => Z (isGd x s) (fun _ s => Z (me ρ s) (kGg x QP E) E) E
@[simp ↓] theorem Z_eGetG {mo me : ME1} : Z (eGetG mo me ρ st) QP E = Z (mo ρ st) (kGg1 me ρ QP E) E := by
  unfold eGetG kGg1; rw [Z_bind]; congr 1; funext o s; rw [Z_bind]; congr 1; funext u s; rw [Z_bind]; rfl
@[simp ↓] theorem kGg1_at {me : ME1} {s : Sto} (h : s[m]? = some (.dcn kvs)) : kGg1 me ρ QP E (.loc m) s = Z (me ρ s) (kGg (.loc m) QP E) E := by
  unfold kGg1 isGd; dsimp only; rw [h]; rfl
theorem kGg_at {s : Sto} (h : s[m]? = some (.dcn kvs)) (hk : (nkT y).isSome = true) : kGg (.loc m) QP E y s = QP ((lookP kvs y).getD .non) s := by
  unfold kGg ggetM gdOf; dsimp only; rw [h]; dsimp only; rw [if_pos hk]; rfl
@[simp ↓] theorem Z_eDcn0 : Z (eDcn0 ρ st) QP E = QP (.loc st.length) (st ++ [.dcn []]) := propext Iff.rfl
@[simp ↓] theorem Z_eDcl0 : Z (eDcl0 ρ st) QP E = QP (.loc st.length) (st ++ [.dcl []]) := propext Iff.rfl
end
def kUn (n : Nat) (kvs : List (PV × PV)) (QF : KF) : Fl → Sto → Prop := fun f s => match f with
  | .exc _ _ => False
  | f => isLck n kvs s = true ∧ QF f (s.set n (.dct kvs))
theorem isLck_of {n : Nat} {kvs : List (PV × PV)} {s : Sto} (h : s[n]? = some (.lck kvs)) : isLck n kvs s = true := by unfold isLck; rw [h]; simp
theorem kUn_next {n : Nat} {kvs : List (PV × PV)} {QF : KF} {s : Sto} {ρ : Rho} (h : s[n]? = some (.lck kvs)) : kUn n kvs QF (.next ρ) s = QF (.next ρ) (s.set n (.dct kvs)) := by
  unfold kUn; dsimp only; rw [isLck_of h]; simp
theorem Z_forD {i n : Nat} {kvs : List (PV × PV)} {g : GM} {b : MS1} {ρ : Rho} {st : Sto} {QF : KF} {E : KX} (hi : ρ[i]? = some (some (.loc n))) (h : st[n]? = some (.dct kvs)) : Z (sForD i g b ρ st) QF E = Z (forL g b (kvs.map Prod.fst) ρ (st.set n (.lck kvs))) (kUn n kvs QF) E0 := by
  unfold sForD; rw [hi]; dsimp only; rw [h]; dsimp only
  cases forL g b (kvs.map Prod.fst) ρ (st.set n (.lck kvs)) with
  | bad => rfl
  | err x s => rfl
  | ok f s =>
    cases f <;> first | rfl | (unfold unlk; dsimp only; rw [Z_iteR]; simp only [Z_ok, Z_bad, Z, kUn]; split <;> simp_all)
theorem Z_forDs {i : Nat} {v : PV} {g : GM} {b : MS1} {ρ : Rho} {st : Sto} {QF : KF} {E : KX} (hi : ρ[i]? = some (some v)) (hv : ∀ n, v ≠ .loc n) : Z (sForD i g b ρ st) QF E = Z (sFor (iSeq (eVar i)) g b ρ st) QF E := by
  unfold sForD; rw [hi]
  cases v with
  | loc n => exact absurd rfl (hv n)
  | _ => rfl
@[simp ↓] theorem Z_enumGt {xs : List PV} {st : Sto} {QL : KLs} {E : KX} : Z (enumG [.tup xs] st) QL E = QL (enumP xs) st := propext Iff.rfl
@[simp ↓] theorem Z_enumGl {xs : List PV} {st : Sto} {QL : KLs} {E : KX} : Z (enumG [.lst xs] st) QL E = QL (enumP xs) st := propext Iff.rfl
@[simp ↓] theorem Z_enumGs {a : List Nat} {st : Sto} {QL : KLs} {E : KX} : Z (enumG [.str a] st) QL E = QL (enumP (a.map fun c => .str [c])) st := propext Iff.rfl
@[simp ↓] theorem Z_isB {a b : Bool} {st : Sto} {QP : KP} {E : KX} : Z (isN (.bl a) (.bl b) st) QP E = QP (.bl (decide (a = b))) st := propext Iff.rfl
@[simp ↓] theorem Z_notB {a b : Bool} {st : Sto} {QP : KP} {E : KX} : Z (notN (.bl a) (.bl b) st) QP E = QP (.bl (!decide (a = b))) st := propext Iff.rfl
@[simp ↓] theorem Z_mulS {a : List Nat} {i : Int} {st : Sto} {Q : PV → Sto → Prop} {E : Exn → Sto → Prop} : Z (mulS (.str a) (.int i) st) Q E = if -1000000 ≤ i ∧ i ≤ 1000 ∧ a.length ≤ 1000 then Q (.str (List.replicate i.toNat a).flatten) st else False := by unfold mulS; dsimp only; rw [Z_ite]; rfl
theorem Z_eqG {n : Bool} {a b : Nat} {kx ky : List (PV × PV)} {st : Sto} {Q : PV → Sto → Prop} {E : Exn → Sto → Prop} (ha : st[a]? = some (.dct kx)) (hb : st[b]? = some (.dct ky)) (hx : kx.all (fun p => flP p.2) = true) (hy : ky.all (fun p => flP p.2) = true) : Z (eqG n (.loc a) (.loc b) st) Q E = Q (.bl (ng n (dEqP kx ky))) st := by
  unfold eqG dctOf; dsimp only; rw [ha, hb]; dsimp only; rw [hx, hy]; rfl
section
variable {g : GM} {b : MS1} {ρ : Rho} {st : Sto} {QF : KF} {E : KX} {QP : KP} {xs ps : List PV} {n : Nat} {a : List Nat}
theorem forG_yes : ∀ (ps : List PV) (ρ : Rho), forG yesG g b ps ρ = forL g b ps ρ
  | [], ρ => by unfold forG forL; rfl
  | p :: ps, ρ => by
    unfold forG forL
    have e : forG yesG g b ps = forL g b ps := funext fun ρ => forG_yes ps ρ
    rw [e]; rfl
theorem lcG_yes {t : MT1} {e : ME1} {ρ0 : Rho} : ∀ (ps acc : List PV), lcG yesG g t e ρ0 ps acc = lcL g t e ρ0 ps acc
  | [], acc => by unfold lcG lcL; rfl
  | p :: ps, acc => by
    unfold lcG lcL
    have e2 : ∀ acc, lcG yesG g t e ρ0 ps acc = lcL g t e ρ0 ps acc := fun acc => lcG_yes ps acc
    simp only [e2]; rfl
def kAny (Q : GI → Sto → Prop) (E : KX) : PV → Sto → Prop := fun v s => Z (anyM v s) Q E
def kEnA (Q : GI → Sto → Prop) (E : KX) : PV → Sto → Prop := fun v s => Z (enumA v s) Q E
@[simp ↓] theorem Z_iAny {m : ME1} {Q : GI → Sto → Prop} : Z (iAny m ρ st) Q E = Z (m ρ st) (kAny Q E) E := by unfold iAny kAny; rw [Z_bind]
@[simp ↓] theorem Z_iEnumA {m : ME1} {Q : GI → Sto → Prop} : Z (iEnumA m ρ st) Q E = Z (m ρ st) (kEnA Q E) E := by unfold iEnumA kEnA; rw [Z_bind]
@[simp ↓] theorem kAny_t {Q : GI → Sto → Prop} : kAny Q E (.tup xs) st = Q (yesG, xs) st := propext Iff.rfl
@[simp ↓] theorem kAny_l {Q : GI → Sto → Prop} : kAny Q E (.lst xs) st = Q (yesG, xs) st := propext Iff.rfl
@[simp ↓] theorem kAny_f {Q : GI → Sto → Prop} : kAny Q E (.frz xs) st = Q (yesG, xs) st := propext Iff.rfl
@[simp ↓] theorem kAny_s {Q : GI → Sto → Prop} : kAny Q E (.str a) st = Q (yesG, a.map fun c => .str [c]) st := propext Iff.rfl
@[simp ↓] theorem kAny_c {Q : GI → Sto → Prop} (h : st[n]? = some (.lst xs)) : kAny Q E (.loc n) st = Q (gd n xs, xs) st := by unfold kAny anyM; dsimp only; rw [h]; rfl
@[simp ↓] theorem kEnA_t {Q : GI → Sto → Prop} : kEnA Q E (.tup xs) st = Q (yesG, enumP xs) st := propext Iff.rfl
@[simp ↓] theorem kEnA_l {Q : GI → Sto → Prop} : kEnA Q E (.lst xs) st = Q (yesG, enumP xs) st := propext Iff.rfl
@[simp ↓] theorem kEnA_s {Q : GI → Sto → Prop} : kEnA Q E (.str a) st = Q (yesG, enumP (a.map fun c => .str [c])) st := propext Iff.rfl
@[simp ↓] theorem kEnA_c {Q : GI → Sto → Prop} (h : st[n]? = some (.lst xs)) : kEnA Q E (.loc n) st = Q (gd n xs, enumP xs) st := by unfold kEnA enumA; dsimp only; rw [h]; rfl
def kForA (g : GM) (b : MS1) (ρ : Rho) (QF : KF) (E : KX) : GI → Sto → Prop := fun gx s => Z (forG gx.1 g b gx.2 ρ s) QF E
@[simp ↓] theorem Z_sForA {mi : Rho → M GI} : Z (sForA mi g b ρ st) QF E = Z (mi ρ st) (kForA g b ρ QF E) (kX ρ QF) := by unfold sForA; rw [Z_onErr]; rfl
@[simp ↓] theorem kForA_y : kForA g b ρ QF E (yesG, ps) st = Z (forL g b ps ρ st) QF E := by unfold kForA; dsimp only; rw [forG_yes]
theorem kForA_g : kForA g b ρ QF E (gd n xs, ps) st = Z (forG (gd n xs) g b ps ρ st) QF E := rfl
def kLcA (k : List PV → M PV) (g : GM) (t : MT1) (e : ME1) (vs : List Nat) (ρ : Rho) (QP : KP) (E : KX) : GI → Sto → Prop := fun gx s => Z (lcG gx.1 g t e (wipeP ρ vs) gx.2 [] s) (kLE k QP E) E
@[simp ↓] theorem Z_eLcA {k : List PV → M PV} {mi : Rho → M GI} {t : MT1} {e : ME1} {vs : List Nat} : Z (eLcA k mi g t e vs ρ st) QP E = Z (mi ρ st) (kLcA k g t e vs ρ QP E) E := by
  unfold eLcA; rw [Z_bind]; simp only [Z_bind]; rfl
@[simp ↓] theorem kLcA_y {k : List PV → M PV} {t : MT1} {e : ME1} {vs : List Nat} : kLcA k g t e vs ρ QP E (yesG, ps) st = Z (lcL g t e (wipeP ρ vs) ps [] st) (kLE k QP E) E := by unfold kLcA; dsimp only; rw [lcG_yes]
theorem kLcA_g {k : List PV → M PV} {t : MT1} {e : ME1} {vs : List Nat} : kLcA k g t e vs ρ QP E (gd n xs, ps) st = Z (lcG (gd n xs) g t e (wipeP ρ vs) ps [] st) (kLE k QP E) E := rfl
end
theorem Z_maxL {x : PV} {ys : List PV} {n : Int} {ns : List Int} {st : Sto} {Q : PV → Sto → Prop} {E : Exn → Sto → Prop} (h : lstOf x st = some ys) (h2 : intsOf ys = some (n :: ns)) : Z (maxL [x] st) Q E = Q (.int (maxI n ns)) st := by
  unfold maxL; dsimp only; rw [h]; dsimp only; rw [h2]; rfl
theorem Z_minL {x : PV} {ys : List PV} {n : Int} {ns : List Int} {st : Sto} {Q : PV → Sto → Prop} {E : Exn → Sto → Prop} (h : lstOf x st = some ys) (h2 : intsOf ys = some (n :: ns)) : Z (minL [x] st) Q E = Q (.int (minI n ns)) st := by
  unfold minL; dsimp only; rw [h]; dsimp only; rw [h2]; rfl
theorem Z_listA {x : PV} {ys : List PV} {st : Sto} {Q : PV → Sto → Prop} {E : Exn → Sto → Prop} (h : itemsA x st = some ys) : Z (listA [x] st) Q E = Q (.lst ys) st := by
  unfold listA; dsimp only; rw [h]; rfl
theorem Z_listAN {x : PV} {ys : List PV} {st : Sto} {Q : PV → Sto → Prop} {E : Exn → Sto → Prop} (h : itemsA x st = some ys) : Z (listAN [x] st) Q E = Q (.loc st.length) (st ++ [.lst ys]) := by
  unfold listAN; dsimp only; rw [h]; rfl
section
variable {st : Sto} {a : List Nat} {xs : List PV} {m : Nat} {kvs : List (PV × PV)}
@[simp] theorem itemsA_tup : itemsA (.tup xs) st = some xs := rfl
@[simp] theorem itemsA_lst : itemsA (.lst xs) st = some xs := rfl
@[simp] theorem itemsA_frz : itemsA (.frz xs) st = some xs := rfl
theorem itemsA_str (h : a.length ≤ SZ) : itemsA (.str a) st = some (a.map fun c => .str [c]) := by unfold itemsA; dsimp only; rw [if_pos h]
theorem itemsA_loc (h : st[m]? = some (.lst xs)) : itemsA (.loc m) st = some xs := by unfold itemsA dctOf; dsimp only; rw [h]; dsimp only; exact seqOf_loc h
theorem itemsA_dct (h : st[m]? = some (.dct kvs)) : itemsA (.loc m) st = some (kvs.map Prod.fst) := by unfold itemsA dctOf; dsimp only; rw [h]
end
end MP

set_option maxRecDepth 100000
namespace K47
open PySem L2 MP
def tab_OPERATIONS : List (List Nat × PV) := [([97, 100, 100], .tup [.str [110], .str [110, 110]]), ([115, 117, 98], .tup [.str [110], .str [110, 110]]), ([109, 117, 108], .tup [.str [110], .str [110, 110]]), ([100, 105, 118], .tup [.str [110], .str [110, 110]]), ([114, 101, 115, 116], .tup [.str [110], .str [110, 110]]), ([108, 101, 115, 115], .tup [.str [110], .str [110, 110]]), ([115, 97, 109, 101], .tup [.str [110], .str [110, 110]]), ([112, 105, 99, 107], .tup [.str [110], .str [110, 110, 110]]), ([99, 111, 112, 121], .tup [.str [110], .str [110]]), ([97, 116], .tup [.str [110], .str [114, 110]]), ([115, 105, 122, 101], .tup [.str [110], .str [114]]), ([112, 117, 116], .tup [.str [114], .str [114, 110, 110]]), ([109, 97, 110, 121], .tup [.str [114], .str [110, 110]]), ([109, 97, 107, 101], .tup [.str [114], .non]), ([107, 101, 101, 112], .tup [.str [114], .str [114]])]
def b_kinds_of (n : Nat) : Rho → M Fl :=
  (sRet (eUn (getTab tab_OPERATIONS) (eVar 0)))
@[irreducible] def F_kinds_of (n : Nat) : List PV → M PV := runB (b_kinds_of n) 1
theorem z_kinds_of {n : Nat} {p0 : PV} {st : Sto} {Q : PV → Sto → Prop} {E : Exn → Sto → Prop} : Z (F_kinds_of n [p0] st) Q E = Z (b_kinds_of n [some p0] st) (runQ Q E) E0 := by unfold F_kinds_of; exact Z_run rfl
def L0_all_of (n : Nat) : Rho → M Fl :=
  (sIf (eB (eBin (inM true) (eVar 2) (eVar 1))) (sRet (eC (.bl false))) sNext)
theorem zL0_all_of {n : Nat} {ρ : Rho} {st : Sto} {Q : Fl → Sto → Prop} {E : Exn → Sto → Prop} : Z (L0_all_of n ρ st) Q E = Z ((sIf (eB (eBin (inM true) (eVar 2) (eVar 1))) (sRet (eC (.bl false))) sNext) ρ st) Q E := by unfold L0_all_of; rfl
def b_all_of (n : Nat) : Rho → M Fl :=
  (sSeq (sForA (iAny (eVar 0)) (gN 2) (L0_all_of n))
  (sRet (eC (.bl true))))
@[irreducible] def F_all_of (n : Nat) : List PV → M PV := runB (b_all_of n) 3
theorem z_all_of {n : Nat} {p0 p1 : PV} {st : Sto} {Q : PV → Sto → Prop} {E : Exn → Sto → Prop} : Z (F_all_of n [p0, p1] st) Q E = Z (b_all_of n [some p0, some p1, none] st) (runQ Q E) E0 := by unfold F_all_of; exact Z_run rfl
def b_kind_of (n : Nat) : Rho → M Fl :=
  (sSeq (sSet 1 (eSl slM (eVar 0) (oSome (eC (.int 1))) oNone))
  (sSeq (sIf (tOrM (eB (eBin (inM true) (eSl slM (eVar 0) oNone (oSome (eC (.int 1)))) (eCall mkTup (aCons (eC (.str [110])) (aCons (eC (.str [114])) aNil))))) (tOrM (eB (eBin ltI (eCall lenM (aCons (eVar 1) aNil)) (eC (.int 1)))) (tOrM (eB (eBin gtI (eCall lenM (aCons (eVar 1) aNil)) (eC (.int 5)))) (tNotM (eB (eCall (F_all_of n) (aCons (eVar 1) (aCons (eC (.str [48, 49, 50, 51, 52, 53, 54, 55, 56, 57])) aNil)))))))) (sRet (eC .non)) sNext)
  (sSeq (sIf (tAndM (eB (eBin eqM (eBin ixM (eVar 1) (eC (.int 0))) (eC (.str [48])))) (eB (eBin gtI (eCall lenM (aCons (eVar 1) aNil)) (eC (.int 1))))) (sRet (eC .non)) sNext)
  (sRet (eBin ixM (eVar 0) (eC (.int 0)))))))
@[irreducible] def F_kind_of (n : Nat) : List PV → M PV := runB (b_kind_of n) 2
theorem z_kind_of {n : Nat} {p0 : PV} {st : Sto} {Q : PV → Sto → Prop} {E : Exn → Sto → Prop} : Z (F_kind_of n [p0] st) Q E = Z (b_kind_of n [some p0, none] st) (runQ Q E) E0 := by unfold F_kind_of; exact Z_run rfl
def b_is_number (n : Nat) : Rho → M Fl :=
  (sRet (eAndV (eCall isiM (aCons (eVar 0) (aCons (eC (.ty "int")) aNil))) (eAndV (eNotV (eCall isiM (aCons (eVar 0) (aCons (eC (.ty "bool")) aNil)))) (eChain leI leI (eC (.int (-32768))) (eVar 0) (eC (.int 32767))))))
@[irreducible] def F_is_number (n : Nat) : List PV → M PV := runB (b_is_number n) 1
theorem z_is_number {n : Nat} {p0 : PV} {st : Sto} {Q : PV → Sto → Prop} {E : Exn → Sto → Prop} : Z (F_is_number n [p0] st) Q E = Z (b_is_number n [some p0] st) (runQ Q E) E0 := by unfold F_is_number; exact Z_run rfl
def b_is_named (n : Nat) : Rho → M Fl :=
  (sSeq (sIf (tOrM (tNotM (eB (eCall isiM (aCons (eVar 0) (aCons (eC (.ty "tuple")) aNil))))) (tOrM (eB (eBin neM (eCall lenM (aCons (eVar 0) aNil)) (eC (.int 2)))) (tNotM (eB (eCall isiM (aCons (eBin ixM (eVar 0) (eC (.int 1))) (aCons (eC (.ty "str")) aNil))))))) (sRet (eC (.bl false))) sNext)
  (sSeq (sIf (tOrM (tNotM (eB (eCall isiM (aCons (eBin ixM (eVar 0) (eC (.int 0))) (aCons (eC (.ty "int")) aNil))))) (tOrM (eB (eCall isiM (aCons (eBin ixM (eVar 0) (eC (.int 0))) (aCons (eC (.ty "bool")) aNil)))) (eB (eBin ltI (eBin ixM (eVar 0) (eC (.int 0))) (eC (.int 0)))))) (sRet (eC (.bl false))) sNext)
  (sRet (eBin notN (eCall (F_kind_of n) (aCons (eBin ixM (eVar 0) (eC (.int 1))) aNil)) (eC .non)))))
@[irreducible] def F_is_named (n : Nat) : List PV → M PV := runB (b_is_named n) 1
theorem z_is_named {n : Nat} {p0 : PV} {st : Sto} {Q : PV → Sto → Prop} {E : Exn → Sto → Prop} : Z (F_is_named n [p0] st) Q E = Z (b_is_named n [some p0] st) (runQ Q E) E0 := by unfold F_is_named; exact Z_run rfl
def L0_kind_within (n : Nat) (fr_kind_within : List PV → M PV) : Rho → M Fl :=
  (sSeq (sAsg (eCall fr_kind_within (aCons (eVar 5) (aCons (eBin subV (eVar 1) (eC (.int 1))) aNil))) (gT 2 (gsCons (gN 7) (gsCons (gN 8) gsNil))))
  (sSeq (sSet 4 (eBin addV (eVar 4) (eVar 8)))
  (sIf (tOrM (eB (eBin neM (eVar 7) (eVar 6))) (eB (eBin gtI (eVar 4) (eC (.int 60))))) (sRet (eCall mkTup (aCons (eC .non) (aCons (eC (.int 1)) aNil)))) sNext)))
theorem zL0_kind_within {n : Nat} {fr_kind_within : List PV → M PV} {ρ : Rho} {st : Sto} {Q : Fl → Sto → Prop} {E : Exn → Sto → Prop} : Z (L0_kind_within n fr_kind_within ρ st) Q E = Z ((sSeq (sAsg (eCall fr_kind_within (aCons (eVar 5) (aCons (eBin subV (eVar 1) (eC (.int 1))) aNil))) (gT 2 (gsCons (gN 7) (gsCons (gN 8) gsNil))))   (sSeq (sSet 4 (eBin addV (eVar 4) (eVar 8)))   (sIf (tOrM (eB (eBin neM (eVar 7) (eVar 6))) (eB (eBin gtI (eVar 4) (eC (.int 60))))) (sRet (eCall mkTup (aCons (eC .non) (aCons (eC (.int 1)) aNil)))) sNext))) ρ st) Q E := by unfold L0_kind_within; rfl
def b_kind_within (n : Nat) (fr_kind_within : List PV → M PV) : Rho → M Fl :=
  (sSeq (sIf (eB (eBin eqM (eVar 1) (eC (.int 0)))) (sRet (eCall mkTup (aCons (eC .non) (aCons (eC (.int 1)) aNil)))) sNext)
  (sSeq (sIf (eB (eCall (F_is_number n) (aCons (eVar 0) aNil))) (sRet (eCall mkTup (aCons (eC (.str [110])) (aCons (eC (.int 1)) aNil)))) sNext)
  (sSeq (sIf (eB (eCall (F_is_named n) (aCons (eVar 0) aNil))) (sRet (eCall mkTup (aCons (eCall (F_kind_of n) (aCons (eBin ixM (eVar 0) (eC (.int 1))) aNil)) (aCons (eC (.int 1)) aNil)))) sNext)
  (sSeq (sIf (tOrM (tNotM (eB (eCall isiM (aCons (eVar 0) (aCons (eC (.ty "tuple")) aNil))))) (tOrM (eB (eBin eqM (eCall lenM (aCons (eVar 0) aNil)) (eC (.int 0)))) (tNotM (eB (eCall isiM (aCons (eBin ixM (eVar 0) (eC (.int 0))) (aCons (eC (.ty "str")) aNil))))))) (sRet (eCall mkTup (aCons (eC .non) (aCons (eC (.int 1)) aNil)))) sNext)
  (sSeq (sSet 2 (eCall (F_kinds_of n) (aCons (eBin ixM (eVar 0) (eC (.int 0))) aNil)))
  (sSeq (sIf (eB (eBin isN (eVar 2) (eC .non))) (sRet (eCall mkTup (aCons (eC .non) (aCons (eC (.int 1)) aNil)))) sNext)
  (sSeq (sSet 3 (eIf (eB (eBin isN (eBin ixM (eVar 2) (eC (.int 1))) (eC .non))) (eBin mulS (eC (.str [110])) (eCall minM (aCons (eC (.int 8)) (aCons (eBin subV (eCall lenM (aCons (eVar 0) aNil)) (eC (.int 1))) aNil)))) (eBin ixM (eVar 2) (eC (.int 1)))))
  (sSeq (sIf (eB (eBin neM (eCall lenM (aCons (eVar 3) aNil)) (eBin subV (eCall lenM (aCons (eVar 0) aNil)) (eC (.int 1))))) (sRet (eCall mkTup (aCons (eC .non) (aCons (eC (.int 1)) aNil)))) sNext)
  (sSeq (sSet 4 (eC (.int 1)))
  (sSeq (sFor (iCall zipM (aCons (eSl slM (eVar 0) (oSome (eC (.int 1))) oNone) (aCons (eVar 3) aNil))) (gT 2 (gsCons (gN 5) (gsCons (gN 6) gsNil))) (L0_kind_within n fr_kind_within))
  (sRet (eCall mkTup (aCons (eBin ixM (eVar 2) (eC (.int 0))) (aCons (eVar 4) aNil))))))))))))))
def G_kind_within (n : Nat) : Nat → List PV → M PV
  | 0 => fun _ => M.fail
  | d + 1 => runB (b_kind_within n (G_kind_within n d)) 9
@[irreducible] def F_kind_within (n d : Nat) : List PV → M PV := G_kind_within n d
theorem z_kind_within {n d : Nat} {p0 p1 : PV} {st : Sto} {Q : PV → Sto → Prop} {E : Exn → Sto → Prop} : Z (F_kind_within n (d + 1) [p0, p1] st) Q E = Z (b_kind_within n (F_kind_within n d) [some p0, some p1, none, none, none, none, none, none, none] st) (runQ Q E) E0 := by unfold F_kind_within; exact Z_run rfl
def b_kind_of_term (n : Nat) : Rho → M Fl :=
  (sRet (eBin ixM (eCall (F_kind_within n 20) (aCons (eVar 0) (aCons (eC (.int 12)) aNil))) (eC (.int 0))))
@[irreducible] def F_kind_of_term (n : Nat) : List PV → M PV := runB (b_kind_of_term n) 1
theorem z_kind_of_term {n : Nat} {p0 : PV} {st : Sto} {Q : PV → Sto → Prop} {E : Exn → Sto → Prop} : Z (F_kind_of_term n [p0] st) Q E = Z (b_kind_of_term n [some p0] st) (runQ Q E) E0 := by unfold F_kind_of_term; exact Z_run rfl
def b__law_cell_at (n : Nat) : Rho → M Fl :=
  (sSeq (sIf (eB (eBin ltI (eVar 1) (eCall lenM (aCons (eVar 0) aNil)))) (sRet (eBin ixM (eVar 0) (eVar 1))) sNext)
  (sRet (eC (.int 0))))
@[irreducible] def F__law_cell_at (n : Nat) : List PV → M PV := runB (b__law_cell_at n) 2
theorem z__law_cell_at {n : Nat} {p0 p1 : PV} {st : Sto} {Q : PV → Sto → Prop} {E : Exn → Sto → Prop} : Z (F__law_cell_at n [p0, p1] st) Q E = Z (b__law_cell_at n [some p0, some p1] st) (runQ Q E) E0 := by unfold F__law_cell_at; exact Z_run rfl
def b__law_box (n : Nat) : Rho → M Fl :=
  (sRet (eCall mkLstN (aCons (eBin fdivV (eVar 0) (eC (.int 2))) (aCons (eBin modV (eVar 0) (eC (.int 2))) (aCons (eC (.int 0)) (aCons (eBin modV (eVar 0) (eC (.int 2147483647))) aNil))))))
@[irreducible] def F__law_box (n : Nat) : List PV → M PV := runB (b__law_box n) 1
theorem z__law_box {n : Nat} {p0 : PV} {st : Sto} {Q : PV → Sto → Prop} {E : Exn → Sto → Prop} : Z (F__law_box n [p0] st) Q E = Z (b__law_box n [some p0] st) (runQ Q E) E0 := by unfold F__law_box; exact Z_run rfl
def b__law_take (n : Nat) : Rho → M Fl :=
  (sSeq (sAsg (eBin addV (eBin ixM (eVar 0) (eC (.int 2))) (eC (.int 1))) (gSubM (eVar 0) (eC (.int 2))))
  (sSeq (sIf (tAndM (eB (eBin eqM (eBin ixM (eVar 0) (eC (.int 1))) (eC (.int 0)))) (eB (eBin (inM true) (eBin ixM (eVar 0) (eC (.int 0))) (eCall mkTup (aCons (eC (.int 0)) (aCons (eUn negV (eC (.int 1))) aNil)))))) (sSeq (sSet 2 (eBin modV (eBin ixM (eVar 0) (eC (.int 0))) (eVar 1)))
  (sSeq (sAsg (eBin fdivV (eBin ixM (eVar 0) (eC (.int 0))) (eVar 1)) (gSubM (eVar 0) (eC (.int 0))))
  (sRet (eVar 2)))) sNext)
  (sSeq (sAsg (eBin modV (eBin addV (eBin addV (eBin mulV (eBin ixM (eVar 0) (eC (.int 3))) (eC (.int 48271))) (eBin mulV (eC (.int 7)) (eBin ixM (eVar 0) (eC (.int 2))))) (eC (.int 3))) (eC (.int 2147483647))) (gSubM (eVar 0) (eC (.int 3))))
  (sRet (eBin modV (eBin fdivV (eBin modV (eBin mulV (eBin ixM (eVar 0) (eC (.int 3))) (eC (.int 69621))) (eC (.int 2147483629))) (eC (.int 11))) (eVar 1))))))
@[irreducible] def F__law_take (n : Nat) : List PV → M PV := runB (b__law_take n) 3
theorem z__law_take {n : Nat} {p0 p1 : PV} {st : Sto} {Q : PV → Sto → Prop} {E : Exn → Sto → Prop} : Z (F__law_take n [p0, p1] st) Q E = Z (b__law_take n [some p0, some p1, none] st) (runQ Q E) E0 := by unfold F__law_take; exact Z_run rfl
def b__law_number (n : Nat) : Rho → M Fl :=
  (sSeq (sSet 1 (eCall mkLst (aCons (eC (.int 0)) (aCons (eC (.int 1)) (aCons (eBin subV (eCall (F__law_take n) (aCons (eVar 0) (aCons (eC (.int 5)) aNil))) (eC (.int 1))) (aCons (eC (.int 32767)) (aCons (eUn negV (eC (.int 32768))) (aCons (eBin subV (eCall (F__law_take n) (aCons (eVar 0) (aCons (eC (.int 65536)) aNil))) (eC (.int 32768))) aNil))))))))
  (sRet (eBin ixM (eVar 1) (eCall (F__law_take n) (aCons (eVar 0) (aCons (eC (.int 6)) aNil))))))
@[irreducible] def F__law_number (n : Nat) : List PV → M PV := runB (b__law_number n) 2
theorem z__law_number {n : Nat} {p0 : PV} {st : Sto} {Q : PV → Sto → Prop} {E : Exn → Sto → Prop} : Z (F__law_number n [p0] st) Q E = Z (b__law_number n [some p0, none] st) (runQ Q E) E0 := by unfold F__law_number; exact Z_run rfl
def b__law_leaf (n : Nat) : Rho → M Fl :=
  (sSeq (sIf (tAndM (eB (eBin eqM (eVar 1) (eC (.str [110])))) (eB (eBin eqM (eCall (F__law_take n) (aCons (eVar 0) (aCons (eC (.int 3)) aNil))) (eC (.int 0))))) (sRet (eCall (F__law_number n) (aCons (eVar 0) aNil))) sNext)
  (sRet (eCall mkTup (aCons (eCall (F__law_take n) (aCons (eVar 0) (aCons (eC (.int 2)) aNil))) (aCons (eBin addV (eVar 1) (eCall strM (aCons (eCall (F__law_take n) (aCons (eVar 0) (aCons (eC (.int 2)) aNil))) aNil))) aNil)))))
@[irreducible] def F__law_leaf (n : Nat) : List PV → M PV := runB (b__law_leaf n) 2
theorem z__law_leaf {n : Nat} {p0 p1 : PV} {st : Sto} {Q : PV → Sto → Prop} {E : Exn → Sto → Prop} : Z (F__law_leaf n [p0, p1] st) Q E = Z (b__law_leaf n [some p0, some p1] st) (runQ Q E) E0 := by unfold F__law_leaf; exact Z_run rfl
def b__law_term (n : Nat) (fr__law_term : List PV → M PV) : Rho → M Fl :=
  (sSeq (sIf (tOrM (eB (eBin eqM (eVar 2) (eC (.int 0)))) (eB (eBin eqM (eCall (F__law_take n) (aCons (eVar 0) (aCons (eC (.int 4)) aNil))) (eC (.int 0))))) (sRet (eCall (F__law_leaf n) (aCons (eVar 0) (aCons (eVar 1) aNil)))) sNext)
  (sSeq (sSet 3 (eCall mkLst (aCons (eC (.str [97, 100, 100])) (aCons (eC (.str [115, 117, 98])) (aCons (eC (.str [109, 117, 108])) (aCons (eC (.str [100, 105, 118])) (aCons (eC (.str [114, 101, 115, 116])) (aCons (eC (.str [108, 101, 115, 115])) (aCons (eC (.str [115, 97, 109, 101])) (aCons (eC (.str [112, 105, 99, 107])) (aCons (eC (.str [99, 111, 112, 121])) (aCons (eC (.str [97, 116])) (aCons (eC (.str [115, 105, 122, 101])) (aCons (eC (.str [97, 100, 100])) (aCons (eC (.str [115, 117, 98])) aNil)))))))))))))))
  (sSeq (sSet 4 (eCall mkLst (aCons (eC (.str [110, 110])) (aCons (eC (.str [110, 110])) (aCons (eC (.str [110, 110])) (aCons (eC (.str [110, 110])) (aCons (eC (.str [110, 110])) (aCons (eC (.str [110, 110])) (aCons (eC (.str [110, 110])) (aCons (eC (.str [110, 110, 110])) (aCons (eC (.str [110])) (aCons (eC (.str [114, 110])) (aCons (eC (.str [114])) (aCons (eC (.str [110, 110])) (aCons (eC (.str [110, 110])) aNil)))))))))))))))
  (sSeq (sIf (eB (eBin eqM (eVar 1) (eC (.str [114])))) (sSeq (sSet 3 (eCall mkLst (aCons (eC (.str [112, 117, 116])) (aCons (eC (.str [109, 97, 110, 121])) (aCons (eC (.str [107, 101, 101, 112])) (aCons (eC (.str [109, 97, 107, 101])) (aCons (eC (.str [109, 97, 107, 101])) aNil)))))))
  (sSet 4 (eCall mkLst (aCons (eC (.str [114, 110, 110])) (aCons (eC (.str [110, 110])) (aCons (eC (.str [114])) (aCons (eSl slM (eC (.str [110, 110, 110])) oNone (oSome (eCall (F__law_take n) (aCons (eVar 0) (aCons (eC (.int 4)) aNil))))) (aCons (eC (.str [110, 110])) aNil)))))))) sNext)
  (sSeq (sSet 5 (eCall (F__law_take n) (aCons (eVar 0) (aCons (eCall lenM (aCons (eVar 3) aNil)) aNil))))
  (sRet (eBin addV (eCall mkTup (aCons (eBin ixM (eVar 3) (eVar 5)) aNil)) (eCall tupleM (aCons (eLcA lcV (iAny (eBin ixM (eVar 4) (eVar 5))) (gN 6) tYesM (eCall fr__law_term (aCons (eVar 0) (aCons (eVar 6) (aCons (eBin subV (eVar 2) (eC (.int 1))) aNil)))) [6]) aNil)))))))))
def G__law_term (n : Nat) : Nat → List PV → M PV
  | 0 => fun _ => M.fail
  | d + 1 => runB (b__law_term n (G__law_term n d)) 7
@[irreducible] def F__law_term (n d : Nat) : List PV → M PV := G__law_term n d
theorem z__law_term {n d : Nat} {p0 p1 p2 : PV} {st : Sto} {Q : PV → Sto → Prop} {E : Exn → Sto → Prop} : Z (F__law_term n (d + 1) [p0, p1, p2] st) Q E = Z (b__law_term n (F__law_term n d) [some p0, some p1, some p2, none, none, none, none] st) (runQ Q E) E0 := by unfold F__law_term; exact Z_run rfl
def b__law_bent (n : Nat) (fr__law_bent : List PV → M PV) : Rho → M Fl :=
  (sSeq (sIf (tOrM (tNotM (eB (eCall isiM (aCons (eVar 1) (aCons (eC (.ty "tuple")) aNil))))) (tOrM (eB (eCall isiM (aCons (eBin ixM (eVar 1) (eC (.int 0))) (aCons (eC (.ty "int")) aNil)))) (eB (eBin eqM (eCall (F__law_take n) (aCons (eVar 0) (aCons (eC (.int 3)) aNil))) (eC (.int 0)))))) (sSeq (sSet 2 (eCall mkLst (aCons (eC (.bl true)) (aCons (eC .non) (aCons (eC (.int 32768)) (aCons (eUn negV (eC (.int 32769))) (aCons (eCall mkTup (aCons (eUn negV (eC (.int 1))) (aCons (eC (.str [110, 48])) aNil))) (aCons (eCall mkTup (aCons (eC (.bl true)) (aCons (eC (.str [110, 48])) aNil))) (aCons (eCall mkTup (aCons (eC (.int 0)) (aCons (eC (.str [110, 48, 48])) aNil))) (aCons (eCall mkTup (aCons (eC (.int 0)) (aCons (eC (.str [114, 55])) aNil))) (aCons (eCall mkTup (aCons (eC (.int 0)) (aCons (eC (.str [120, 49])) aNil))) (aCons (eCall mkTup (aCons (eC (.str [97, 100, 100, 115])) (aCons (eC (.int 1)) (aCons (eC (.int 1)) aNil)))) aNil))))))))))))
  (sSeq (sSet 2 (eBin addV (eVar 2) (eCall mkLst (aCons (eCall mkTup (aCons (eC (.str [97, 100, 100])) (aCons (eC (.int 1)) aNil))) (aCons (eBin addV (eCall mkTup (aCons (eC (.str [109, 97, 107, 101])) aNil)) (eBin mulV (eCall mkTup (aCons (eC (.int 1)) aNil)) (eC (.int 9)))) (aCons (eC (.str [110, 48])) (aCons (eCall mkTup aNil) (aCons (eCall mkTup (aCons (eC (.int 0)) (aCons (eC (.str [110, 48])) (aCons (eC (.int 1)) aNil)))) (aCons (eCall mkTup (aCons (eC (.str [99, 111, 112, 121])) (aCons (eCall mkTup (aCons (eC (.int 0)) (aCons (eC (.str [114, 48])) aNil))) aNil))) aNil)))))))))
  (sSeq (sSet 2 (eBin addV (eVar 2) (eCall mkLst (aCons (eCall mkTup (aCons (eC (.str [116, 105, 99, 107])) aNil)) (aCons (eCall mkTup (aCons (eC (.int 99999)) (aCons (eC (.str [110, 57, 57, 57, 57, 57])) aNil))) aNil)))))
  (sRet (eBin ixM (eVar 2) (eCall (F__law_take n) (aCons (eVar 0) (aCons (eC (.int 18)) aNil)))))))) sNext)
  (sSeq (sSet 3 (eCall (F__law_take n) (aCons (eVar 0) (aCons (eC (.int 6)) aNil))))
  (sSeq (sIf (eB (eBin eqM (eVar 3) (eC (.int 0)))) (sRet (eBin addV (eVar 1) (eCall mkTup (aCons (eC (.int 0)) aNil)))) sNext)
  (sSeq (sIf (tOrM (eB (eBin eqM (eVar 3) (eC (.int 1)))) (eB (eBin eqM (eCall lenM (aCons (eVar 1) aNil)) (eC (.int 1))))) (sRet (eSl slM (eVar 1) oNone (oSome (eUn negV (eC (.int 1)))))) sNext)
  (sSeq (sSet 4 (eBin addV (eC (.int 1)) (eCall (F__law_take n) (aCons (eVar 0) (aCons (eBin subV (eCall lenM (aCons (eVar 1) aNil)) (eC (.int 1))) aNil)))))
  (sRet (eBin addV (eBin addV (eSl slM (eVar 1) oNone (oSome (eVar 4))) (eCall mkTup (aCons (eCall fr__law_bent (aCons (eVar 0) (aCons (eBin ixM (eVar 1) (eVar 4)) aNil))) aNil))) (eSl slM (eVar 1) (oSome (eBin addV (eVar 4) (eC (.int 1)))) oNone))))))))
def G__law_bent (n : Nat) : Nat → List PV → M PV
  | 0 => fun _ => M.fail
  | d + 1 => runB (b__law_bent n (G__law_bent n d)) 5
@[irreducible] def F__law_bent (n d : Nat) : List PV → M PV := G__law_bent n d
theorem z__law_bent {n d : Nat} {p0 p1 : PV} {st : Sto} {Q : PV → Sto → Prop} {E : Exn → Sto → Prop} : Z (F__law_bent n (d + 1) [p0, p1] st) Q E = Z (b__law_bent n (F__law_bent n d) [some p0, some p1, none, none, none] st) (runQ Q E) E0 := by unfold F__law_bent; exact Z_run rfl
def L0__law_great (n : Nat) : Rho → M Fl :=
  (sSet 1 (eCall mkTup (aCons (eC (.str [99, 111, 112, 121])) (aCons (eVar 1) aNil))))
theorem zL0__law_great {n : Nat} {ρ : Rho} {st : Sto} {Q : Fl → Sto → Prop} {E : Exn → Sto → Prop} : Z (L0__law_great n ρ st) Q E = Z ((sSet 1 (eCall mkTup (aCons (eC (.str [99, 111, 112, 121])) (aCons (eVar 1) aNil)))) ρ st) Q E := by unfold L0__law_great; rfl
def b__law_great (n : Nat) : Rho → M Fl :=
  (sSeq (sSet 1 (eCall (F__law_leaf n) (aCons (eVar 0) (aCons (eC (.str [110])) aNil))))
  (sSeq (sFor (iCall range1 (aCons (eCall (F__law_take n) (aCons (eVar 0) (aCons (eC (.int 14)) aNil))) aNil)) (gN 2) (L0__law_great n))
  (sSeq (sIf (eB (eBin eqM (eCall (F__law_take n) (aCons (eVar 0) (aCons (eC (.int 2)) aNil))) (eC (.int 0)))) (sRet (eVar 1)) sNext)
  (sSeq (sSet 3 (eBin addV (eCall mkTup (aCons (eC (.str [109, 97, 107, 101])) aNil)) (eCall tupleM (aCons (eLc lcV (iCall range1 (aCons (eCall (F__law_take n) (aCons (eVar 0) (aCons (eC (.int 9)) aNil))) aNil)) (gN 2) tYesM (eCall (F__law_term n 20) (aCons (eVar 0) (aCons (eC (.str [110])) (aCons (eC (.int 2)) aNil)))) [2]) aNil))))
  (sRet (eCall mkTup (aCons (eC (.str [97, 116])) (aCons (eCall mkTup (aCons (eC (.str [112, 117, 116])) (aCons (eVar 3) (aCons (eCall mkTup (aCons (eC (.str [115, 105, 122, 101])) (aCons (eVar 3) aNil))) (aCons (eCall (F__law_term n 20) (aCons (eVar 0) (aCons (eC (.str [110])) (aCons (eC (.int 2)) aNil)))) aNil))))) (aCons (eVar 1) aNil)))))))))
@[irreducible] def F__law_great (n : Nat) : List PV → M PV := runB (b__law_great n) 4
theorem z__law_great {n : Nat} {p0 : PV} {st : Sto} {Q : PV → Sto → Prop} {E : Exn → Sto → Prop} : Z (F__law_great n [p0] st) Q E = Z (b__law_great n [some p0, none, none, none] st) (runQ Q E) E0 := by unfold F__law_great; exact Z_run rfl
def b__law_kind (n : Nat) (fr__law_kind : List PV → M PV) : Rho → M Fl :=
  (sSeq (sSet 1 (eDct [((eC (.str [97, 100, 100])), (eC (.str [110, 110, 110]))), ((eC (.str [115, 117, 98])), (eC (.str [110, 110, 110]))), ((eC (.str [109, 117, 108])), (eC (.str [110, 110, 110]))), ((eC (.str [100, 105, 118])), (eC (.str [110, 110, 110]))), ((eC (.str [114, 101, 115, 116])), (eC (.str [110, 110, 110]))), ((eC (.str [108, 101, 115, 115])), (eC (.str [110, 110, 110]))), ((eC (.str [115, 97, 109, 101])), (eC (.str [110, 110, 110])))]))
  (sSeq (sSet 2 (eDct [((eC (.str [112, 105, 99, 107])), (eC (.str [110, 110, 110, 110]))), ((eC (.str [99, 111, 112, 121])), (eC (.str [110, 110]))), ((eC (.str [97, 116])), (eC (.str [110, 114, 110]))), ((eC (.str [115, 105, 122, 101])), (eC (.str [110, 114]))), ((eC (.str [112, 117, 116])), (eC (.str [114, 114, 110, 110]))), ((eC (.str [109, 97, 110, 121])), (eC (.str [114, 110, 110]))), ((eC (.str [107, 101, 101, 112])), (eC (.str [114, 114])))]))
  (sSeq (sIf (eB (eCall isiM (aCons (eVar 0) (aCons (eC (.ty "int")) aNil)))) (sRet (eIf (tAndM (tNotM (eB (eCall isiM (aCons (eVar 0) (aCons (eC (.ty "bool")) aNil))))) (eB (eChain leI leI (eUn negV (eC (.int 32768))) (eVar 0) (eC (.int 32767))))) (eC (.str [110])) (eC (.str [])))) sNext)
  (sSeq (sIf (tOrM (tNotM (eB (eCall isiM (aCons (eVar 0) (aCons (eC (.ty "tuple")) aNil))))) (eB (eBin eqM (eVar 0) (eCall mkTup aNil)))) (sRet (eC (.str []))) sNext)
  (sSeq (sIf (tAndM (eB (eBin eqM (eCall lenM (aCons (eVar 0) aNil)) (eC (.int 2)))) (tAndM (eB (eCall isiM (aCons (eBin ixM (eVar 0) (eC (.int 0))) (aCons (eC (.ty "int")) aNil)))) (eB (eCall isiM (aCons (eBin ixM (eVar 0) (eC (.int 1))) (aCons (eC (.ty "str")) aNil)))))) (sSeq (sSet 3 (eSl slM (eBin ixM (eVar 0) (eC (.int 1))) (oSome (eC (.int 1))) oNone))
  (sSeq (sSet 4 (eAndV (eNotV (eCall isiM (aCons (eBin ixM (eVar 0) (eC (.int 0))) (aCons (eC (.ty "bool")) aNil)))) (eAndV (eBin geI (eBin ixM (eVar 0) (eC (.int 0))) (eC (.int 0))) (eAndV (eBin (inM false) (eSl slM (eBin ixM (eVar 0) (eC (.int 1))) oNone (oSome (eC (.int 1)))) (eCall mkTup (aCons (eC (.str [110])) (aCons (eC (.str [114])) aNil)))) (eChain ltI ltI (eC (.int 0)) (eCall lenM (aCons (eVar 3) aNil)) (eC (.int 6)))))))
  (sSeq (sSet 4 (eAndV (eVar 4) (eBin eqM (eLcA lcV (iAny (eVar 3)) (gN 6) (eB (eBin (inM true) (eVar 6) (eC (.str [48, 49, 50, 51, 52, 53, 54, 55, 56, 57])))) (eVar 6) [6]) (eCall mkLst aNil))))
  (sRet (eIf (tAndM (eB (eVar 4)) (tOrM (eB (eBin neM (eBin ixM (eVar 3) (eC (.int 0))) (eC (.str [48])))) (eB (eBin eqM (eVar 3) (eC (.str [48])))))) (eBin ixM (eBin ixM (eVar 0) (eC (.int 1))) (eC (.int 0))) (eC (.str []))))))) sNext)
  (sSeq (sIf (tNotM (eB (eCall isiM (aCons (eBin ixM (eVar 0) (eC (.int 0))) (aCons (eC (.ty "str")) aNil))))) (sRet (eC (.str []))) sNext)
  (sSeq (sSet 5 (eGet2 (eVar 1) (eBin ixM (eVar 0) (eC (.int 0))) (eGet2 (eVar 2) (eBin ixM (eVar 0) (eC (.int 0))) (eC (.str [])))))
  (sSeq (sIf (tAndM (eB (eBin eqM (eBin ixM (eVar 0) (eC (.int 0))) (eC (.str [109, 97, 107, 101])))) (eB (eBin ltI (eCall lenM (aCons (eVar 0) aNil)) (eC (.int 10))))) (sSet 5 (eBin addV (eC (.str [114])) (eBin mulS (eC (.str [110])) (eBin subV (eCall lenM (aCons (eVar 0) aNil)) (eC (.int 1)))))) sNext)
  (sSeq (sIf (tOrM (eB (eBin eqM (eVar 5) (eC (.str [])))) (eB (eBin neM (eLcA lcV (iAny (eSl slM (eVar 0) (oSome (eC (.int 1))) oNone)) (gN 7) tYesM (eCall fr__law_kind (aCons (eVar 7) aNil)) [7]) (eCall listA (aCons (eSl slM (eVar 5) (oSome (eC (.int 1))) oNone) aNil))))) (sRet (eC (.str []))) sNext)
  (sRet (eBin ixM (eVar 5) (eC (.int 0)))))))))))))
def G__law_kind (n : Nat) : Nat → List PV → M PV
  | 0 => fun _ => M.fail
  | d + 1 => runB (b__law_kind n (G__law_kind n d)) 8
@[irreducible] def F__law_kind (n d : Nat) : List PV → M PV := G__law_kind n d
theorem z__law_kind {n d : Nat} {p0 : PV} {st : Sto} {Q : PV → Sto → Prop} {E : Exn → Sto → Prop} : Z (F__law_kind n (d + 1) [p0] st) Q E = Z (b__law_kind n (F__law_kind n d) [some p0, none, none, none, none, none, none, none] st) (runQ Q E) E0 := by unfold F__law_kind; exact Z_run rfl
def b__law_deep (n : Nat) (fr__law_deep : List PV → M PV) : Rho → M Fl :=
  (sSeq (sIf (tOrM (tNotM (eB (eCall isiM (aCons (eVar 0) (aCons (eC (.ty "tuple")) aNil))))) (tOrM (eB (eBin eqM (eVar 0) (eCall mkTup aNil))) (tNotM (eB (eCall isiM (aCons (eBin ixM (eVar 0) (eC (.int 0))) (aCons (eC (.ty "str")) aNil))))))) (sRet (eC (.int 1))) sNext)
  (sRet (eBin addV (eC (.int 1)) (eCall maxL (aCons (eBin addV (eCall mkLst (aCons (eC (.int 0)) aNil)) (eLcA lcV (iAny (eSl slM (eVar 0) (oSome (eC (.int 1))) oNone)) (gN 1) tYesM (eCall fr__law_deep (aCons (eVar 1) aNil)) [1])) aNil)))))
def G__law_deep (n : Nat) : Nat → List PV → M PV
  | 0 => fun _ => M.fail
  | d + 1 => runB (b__law_deep n (G__law_deep n d)) 2
@[irreducible] def F__law_deep (n d : Nat) : List PV → M PV := G__law_deep n d
theorem z__law_deep {n d : Nat} {p0 : PV} {st : Sto} {Q : PV → Sto → Prop} {E : Exn → Sto → Prop} : Z (F__law_deep n (d + 1) [p0] st) Q E = Z (b__law_deep n (F__law_deep n d) [some p0, none] st) (runQ Q E) E0 := by unfold F__law_deep; exact Z_run rfl
def b__law_parts (n : Nat) (fr__law_parts : List PV → M PV) : Rho → M Fl :=
  (sSeq (sIf (tOrM (tNotM (eB (eCall isiM (aCons (eVar 0) (aCons (eC (.ty "tuple")) aNil))))) (tOrM (eB (eBin eqM (eVar 0) (eCall mkTup aNil))) (tNotM (eB (eCall isiM (aCons (eBin ixM (eVar 0) (eC (.int 0))) (aCons (eC (.ty "str")) aNil))))))) (sRet (eC (.int 1))) sNext)
  (sRet (eBin addV (eC (.int 1)) (eCall sumM (aCons (eLcA lcV (iAny (eSl slM (eVar 0) (oSome (eC (.int 1))) oNone)) (gN 1) tYesM (eCall fr__law_parts (aCons (eVar 1) aNil)) [1]) aNil)))))
def G__law_parts (n : Nat) : Nat → List PV → M PV
  | 0 => fun _ => M.fail
  | d + 1 => runB (b__law_parts n (G__law_parts n d)) 2
@[irreducible] def F__law_parts (n d : Nat) : List PV → M PV := G__law_parts n d
theorem z__law_parts {n d : Nat} {p0 : PV} {st : Sto} {Q : PV → Sto → Prop} {E : Exn → Sto → Prop} : Z (F__law_parts n (d + 1) [p0] st) Q E = Z (b__law_parts n (F__law_parts n d) [some p0, none] st) (runQ Q E) E0 := by unfold F__law_parts; exact Z_run rfl
def L0_law (n : Nat) : Rho → M Fl :=
  (sSeq (sSet 2 (eCall (F__law_box n) (aCons (eVar 1) aNil)))
  (sSeq (sSet 3 (eIf (eB (eBin eqM (eCall (F__law_take n) (aCons (eVar 2) (aCons (eC (.int 3)) aNil))) (eC (.int 0)))) (eCall (F__law_great n) (aCons (eVar 2) aNil)) (eCall (F__law_term n 20) (aCons (eVar 2) (aCons (eBin ixM (eC (.str [110, 114])) (eCall (F__law_take n) (aCons (eVar 2) (aCons (eC (.int 2)) aNil)))) (aCons (eC (.int 3)) aNil))))))
  (sSeq (sIf (eB (eBin eqM (eCall (F__law_take n) (aCons (eVar 2) (aCons (eC (.int 2)) aNil))) (eC (.int 0)))) (sSet 3 (eCall (F__law_bent n 20) (aCons (eVar 2) (aCons (eVar 3) aNil)))) sNext)
  (sSeq (sSet 4 (eCall (F__law_kind n 20) (aCons (eVar 3) aNil)))
  (sSeq (sIf (tOrM (eB (eBin gtI (eCall (F__law_deep n 20) (aCons (eVar 3) aNil)) (eC (.int 12)))) (eB (eBin gtI (eCall (F__law_parts n 20) (aCons (eVar 3) aNil)) (eC (.int 60))))) (sSet 4 (eC (.str []))) sNext)
  (sSeq (sSet 5 (eCall (F_kind_of_term n) (aCons (eVar 3) aNil)))
  (sIf (tOrM (tAndM (eB (eBin eqM (eVar 4) (eC (.str [])))) (eB (eBin notN (eVar 5) (eC .non)))) (tAndM (eB (eBin neM (eVar 4) (eC (.str [])))) (eB (eBin neM (eVar 5) (eVar 4))))) (sRet (eC (.bl false))) sNext)))))))
theorem zL0_law {n : Nat} {ρ : Rho} {st : Sto} {Q : Fl → Sto → Prop} {E : Exn → Sto → Prop} : Z (L0_law n ρ st) Q E = Z ((sSeq (sSet 2 (eCall (F__law_box n) (aCons (eVar 1) aNil)))   (sSeq (sSet 3 (eIf (eB (eBin eqM (eCall (F__law_take n) (aCons (eVar 2) (aCons (eC (.int 3)) aNil))) (eC (.int 0)))) (eCall (F__law_great n) (aCons (eVar 2) aNil)) (eCall (F__law_term n 20) (aCons (eVar 2) (aCons (eBin ixM (eC (.str [110, 114])) (eCall (F__law_take n) (aCons (eVar 2) (aCons (eC (.int 2)) aNil)))) (aCons (eC (.int 3)) aNil))))))   (sSeq (sIf (eB (eBin eqM (eCall (F__law_take n) (aCons (eVar 2) (aCons (eC (.int 2)) aNil))) (eC (.int 0)))) (sSet 3 (eCall (F__law_bent n 20) (aCons (eVar 2) (aCons (eVar 3) aNil)))) sNext)   (sSeq (sSet 4 (eCall (F__law_kind n 20) (aCons (eVar 3) aNil)))   (sSeq (sIf (tOrM (eB (eBin gtI (eCall (F__law_deep n 20) (aCons (eVar 3) aNil)) (eC (.int 12)))) (eB (eBin gtI (eCall (F__law_parts n 20) (aCons (eVar 3) aNil)) (eC (.int 60))))) (sSet 4 (eC (.str []))) sNext)   (sSeq (sSet 5 (eCall (F_kind_of_term n) (aCons (eVar 3) aNil)))   (sIf (tOrM (tAndM (eB (eBin eqM (eVar 4) (eC (.str [])))) (eB (eBin notN (eVar 5) (eC .non)))) (tAndM (eB (eBin neM (eVar 4) (eC (.str [])))) (eB (eBin neM (eVar 5) (eVar 4))))) (sRet (eC (.bl false))) sNext))))))) ρ st) Q E := by unfold L0_law; rfl
def b_law (n : Nat) : Rho → M Fl :=
  (sSeq (sForA (iAny (eBin addV (eCall mkLst (aCons (eCall (F__law_cell_at n) (aCons (eVar 0) (aCons (eC (.int 0)) aNil))) aNil)) (eSl slM (eVar 0) (oSome (eC (.int 1))) (oSome (eC (.int 10)))))) (gN 1) (L0_law n))
  (sRet (eC (.bl true))))
@[irreducible] def F_law (n : Nat) : List PV → M PV := runB (b_law n) 6
theorem z_law {n : Nat} {p0 : PV} {st : Sto} {Q : PV → Sto → Prop} {E : Exn → Sto → Prop} : Z (F_law n [p0] st) Q E = Z (b_law n [some p0, none, none, none, none, none] st) (runQ Q E) E0 := by unfold F_law; exact Z_run rfl
end K47

set_option maxRecDepth 100000
namespace K47
open PySem L2 MP
def topS (i : Nat) : Stmt := PySem.Challenge.pw_samepaper_k47_what_is_a_term.main.body.getD i (.Pass ⟨0, 0, 0, 0⟩)
abbrev s_kinds_of : Stmt := topS 2
abbrev s_all_of : Stmt := topS 7
abbrev s_kind_of : Stmt := topS 8
abbrev s_is_number : Stmt := topS 13
abbrev s_is_named : Stmt := topS 14
abbrev s_kind_within : Stmt := topS 15
abbrev s_kind_of_term : Stmt := topS 16
abbrev s__law_cell_at : Stmt := topS 18
abbrev s__law_box : Stmt := topS 19
abbrev s__law_take : Stmt := topS 20
abbrev s__law_number : Stmt := topS 21
abbrev s__law_leaf : Stmt := topS 22
abbrev s__law_term : Stmt := topS 23
abbrev s__law_bent : Stmt := topS 24
abbrev s__law_great : Stmt := topS 25
abbrev s__law_kind : Stmt := topS 26
abbrev s__law_deep : Stmt := topS 27
abbrev s__law_parts : Stmt := topS 28
abbrev s_law : Stmt := topS 29
structure Adr where
  a_kinds_of : Addr
  d_kinds_of : FuncData
  a_all_of : Addr
  d_all_of : FuncData
  a_kind_of : Addr
  d_kind_of : FuncData
  a_is_number : Addr
  d_is_number : FuncData
  a_is_named : Addr
  d_is_named : FuncData
  a_kind_within : Addr
  d_kind_within : FuncData
  a_kind_of_term : Addr
  d_kind_of_term : FuncData
  a__law_cell_at : Addr
  d__law_cell_at : FuncData
  a__law_box : Addr
  d__law_box : FuncData
  a__law_take : Addr
  d__law_take : FuncData
  a__law_number : Addr
  d__law_number : FuncData
  a__law_leaf : Addr
  d__law_leaf : FuncData
  a__law_term : Addr
  d__law_term : FuncData
  a__law_bent : Addr
  d__law_bent : FuncData
  a__law_great : Addr
  d__law_great : FuncData
  a__law_kind : Addr
  d__law_kind : FuncData
  a__law_deep : Addr
  d__law_deep : FuncData
  a__law_parts : Addr
  d__law_parts : FuncData
  a_law : Addr
  d_law : FuncData
structure Txt (w : World) (K : PySem.W.Frag) (mg : Str → Option Value) (A : Adr) : Prop where
  f_kinds_of : Fun K "kinds_of" "kinds_of" s_kinds_of A.a_kinds_of A.d_kinds_of
  m_kinds_of : mg "kinds_of" = some (.ref A.a_kinds_of)
  b_kinds_of : Binds K A.d_kinds_of ["op"] []
  f_all_of : Fun K "all_of" "all_of" s_all_of A.a_all_of A.d_all_of
  m_all_of : mg "all_of" = some (.ref A.a_all_of)
  b_all_of : Binds K A.d_all_of ["text", "signs"] []
  f_kind_of : Fun K "kind_of" "kind_of" s_kind_of A.a_kind_of A.d_kind_of
  m_kind_of : mg "kind_of" = some (.ref A.a_kind_of)
  b_kind_of : Binds K A.d_kind_of ["name"] []
  f_is_number : Fun K "is_number" "is_number" s_is_number A.a_is_number A.d_is_number
  m_is_number : mg "is_number" = some (.ref A.a_is_number)
  b_is_number : Binds K A.d_is_number ["thing"] []
  f_is_named : Fun K "is_named" "is_named" s_is_named A.a_is_named A.d_is_named
  m_is_named : mg "is_named" = some (.ref A.a_is_named)
  b_is_named : Binds K A.d_is_named ["thing"] []
  f_kind_within : Fun K "kind_within" "kind_within" s_kind_within A.a_kind_within A.d_kind_within
  m_kind_within : mg "kind_within" = some (.ref A.a_kind_within)
  b_kind_within : Binds K A.d_kind_within ["term", "deep"] []
  f_kind_of_term : Fun K "kind_of_term" "kind_of_term" s_kind_of_term A.a_kind_of_term A.d_kind_of_term
  m_kind_of_term : mg "kind_of_term" = some (.ref A.a_kind_of_term)
  b_kind_of_term : Binds K A.d_kind_of_term ["term"] []
  f__law_cell_at : Fun K "_law_cell_at" "_law_cell_at" s__law_cell_at A.a__law_cell_at A.d__law_cell_at
  m__law_cell_at : mg "_law_cell_at" = some (.ref A.a__law_cell_at)
  b__law_cell_at : Binds K A.d__law_cell_at ["_law_script", "_law_k"] []
  f__law_box : Fun K "_law_box" "_law_box" s__law_box A.a__law_box A.d__law_box
  m__law_box : mg "_law_box" = some (.ref A.a__law_box)
  b__law_box : Binds K A.d__law_box ["_law_cell"] []
  f__law_take : Fun K "_law_take" "_law_take" s__law_take A.a__law_take A.d__law_take
  m__law_take : mg "_law_take" = some (.ref A.a__law_take)
  b__law_take : Binds K A.d__law_take ["_law_box_here", "_law_many"] []
  f__law_number : Fun K "_law_number" "_law_number" s__law_number A.a__law_number A.d__law_number
  m__law_number : mg "_law_number" = some (.ref A.a__law_number)
  b__law_number : Binds K A.d__law_number ["_law_box_here"] []
  f__law_leaf : Fun K "_law_leaf" "_law_leaf" s__law_leaf A.a__law_leaf A.d__law_leaf
  m__law_leaf : mg "_law_leaf" = some (.ref A.a__law_leaf)
  b__law_leaf : Binds K A.d__law_leaf ["_law_box_here", "_law_kind_here"] []
  f__law_term : Fun K "_law_term" "_law_term" s__law_term A.a__law_term A.d__law_term
  m__law_term : mg "_law_term" = some (.ref A.a__law_term)
  b__law_term : Binds K A.d__law_term ["_law_box_here", "_law_kind_here", "_law_deep_here"] []
  f__law_bent : Fun K "_law_bent" "_law_bent" s__law_bent A.a__law_bent A.d__law_bent
  m__law_bent : mg "_law_bent" = some (.ref A.a__law_bent)
  b__law_bent : Binds K A.d__law_bent ["_law_box_here", "_law_term_here"] []
  f__law_great : Fun K "_law_great" "_law_great" s__law_great A.a__law_great A.d__law_great
  m__law_great : mg "_law_great" = some (.ref A.a__law_great)
  b__law_great : Binds K A.d__law_great ["_law_box_here"] []
  f__law_kind : Fun K "_law_kind" "_law_kind" s__law_kind A.a__law_kind A.d__law_kind
  m__law_kind : mg "_law_kind" = some (.ref A.a__law_kind)
  b__law_kind : Binds K A.d__law_kind ["_law_term_here"] []
  f__law_deep : Fun K "_law_deep" "_law_deep" s__law_deep A.a__law_deep A.d__law_deep
  m__law_deep : mg "_law_deep" = some (.ref A.a__law_deep)
  b__law_deep : Binds K A.d__law_deep ["_law_term_here"] []
  f__law_parts : Fun K "_law_parts" "_law_parts" s__law_parts A.a__law_parts A.d__law_parts
  m__law_parts : mg "_law_parts" = some (.ref A.a__law_parts)
  b__law_parts : Binds K A.d__law_parts ["_law_term_here"] []
  f_law : Fun K "law" "law" s_law A.a_law A.d_law
  m_law : mg "law" = some (.ref A.a_law)
  b_law : Binds K A.d_law ["_law_script"] []
  c_FIGURES : ∃ t, mg "FIGURES" = some (.str ⟨[48, 49, 50, 51, 52, 53, 54, 55, 56, 57].toArray⟩ t)
  c_GREATEST : ∃ t, mg "GREATEST" = some (.int 32767 t)
  c_LEAST : ∃ t, mg "LEAST" = some (.int (-32768) t)
  c_MOST_DEEP : ∃ t, mg "MOST_DEEP" = some (.int 12 t)
  c_MOST_MADE : ∃ t, mg "MOST_MADE" = some (.int 8 t)
  c_MOST_PARTS : ∃ t, mg "MOST_PARTS" = some (.int 60 t)
  c_OPERATIONS : TabAt w K mg "OPERATIONS" tab_OPERATIONS
  z_len : mg "len" = none
  z_isinstance : mg "isinstance" = none
  z_int : mg "int" = none
  z_bool : mg "bool" = none
  z_tuple : mg "tuple" = none
  z_str : mg "str" = none
  z_min : mg "min" = none
  z_zip : mg "zip" = none
  z_range : mg "range" = none
  z_list : mg "list" = none
  z_max : mg "max" = none
  z_sum : mg "sum" = none
section
variable {P : Program} {w : World} {K : PySem.W.Frag} {mg : Str → Option Value} {base : Heap} {A : Adr}
theorem sc_kinds_of : FnScope ["op"] ["op"] (defScope s_kinds_of) := ⟨by kernel_rfl, by kernel_rfl, by kernel_rfl, by decide +kernel, by kernel_rfl, by decide +kernel, by decide +kernel⟩
set_option maxHeartbeats 4000000 in
theorem ok_kinds_of (T : Txt w K mg A) (n : Nat) : FnOk P w K mg base (L2.CX P w) 1 A.a_kinds_of A.d_kinds_of ["op"] (spM ⟨w, K⟩ (F_kinds_of n) 1) :=
  def_okF ["op"] ["op"] (b_kinds_of n) (k := 0) (kk := 1) (nn := 1) (g := F_kinds_of n) (by kernel_rfl) (by kernel_rfl) (by kernel_rfl) T.f_kinds_of sc_kinds_of fun cdv Ar outer s H E hr => by
  have hu := hr.units
  have tk : Takes (cxOf (L2.CX P w) P w K mg base ["op"] "kinds_of" (defScope s_kinds_of) A.a_kinds_of cdv Ar outer s H E) (fun c d _ H => E c d H) := takes_of rfl rfl rfl rfl
  exact (mss_one (ms_ret (me_getTab T.c_OPERATIONS (me_var 0 (hv := Or.inl (by kernel_rfl))))))
theorem sc_all_of : FnScope ["text", "signs", "sign"] ["text", "signs"] (defScope s_all_of) := ⟨by kernel_rfl, by kernel_rfl, by kernel_rfl, by decide +kernel, by kernel_rfl, by decide +kernel, by decide +kernel⟩
set_option maxHeartbeats 4000000 in
theorem ok_all_of (T : Txt w K mg A) (n : Nat) : FnOk P w K mg base (L2.CX P w) 1 A.a_all_of A.d_all_of ["text", "signs"] (spM ⟨w, K⟩ (F_all_of n) 2) :=
  def_okF ["text", "signs", "sign"] ["text", "signs"] (b_all_of n) (k := 0) (kk := 3) (nn := 2) (g := F_all_of n) (by kernel_rfl) (by kernel_rfl) (by kernel_rfl) T.f_all_of sc_all_of fun cdv Ar outer s H E hr => by
  have hu := hr.units
  have tk : Takes (cxOf (L2.CX P w) P w K mg base ["text", "signs", "sign"] "all_of" (defScope s_all_of) A.a_all_of cdv Ar outer s H E) (fun c d _ H => E c d H) := takes_of rfl rfl rfl rfl
  exact (mss_cons (ms_forA (passes_of rfl) rfl (mig_any (me_var 0 (hv := Or.inl (by kernel_rfl)))) (mg_n (i := 2) (hx := Or.inl (by kernel_rfl)) (hf := Or.inr (by kernel_rfl)) sc_all_of.nd) (mss_one (ms_if (mt_notin hu (me_var 2 (hv := Or.inl (by kernel_rfl))) (me_var 1 (hv := Or.inl (by kernel_rfl))) (by kernel_rfl)) (mss_one (ms_ret me_bl)) mss_nil)))
  (mss_one (ms_ret me_bl)))
theorem sc_kind_of : FnScope ["name", "figures"] ["name"] (defScope s_kind_of) := ⟨by kernel_rfl, by kernel_rfl, by kernel_rfl, by decide +kernel, by kernel_rfl, by decide +kernel, by decide +kernel⟩
set_option maxHeartbeats 4000000 in
theorem ok_kind_of (T : Txt w K mg A) (n : Nat) : FnOk P w K mg base (L2.CX P w) 2 A.a_kind_of A.d_kind_of ["name"] (spM ⟨w, K⟩ (F_kind_of n) 1) :=
  def_okF ["name", "figures"] ["name"] (b_kind_of n) (k := 1) (kk := 2) (nn := 1) (g := F_kind_of n) (by kernel_rfl) (by kernel_rfl) (by kernel_rfl) T.f_kind_of sc_kind_of fun cdv Ar outer s H E hr => by
  have hu := hr.units
  have tk : Takes (cxOf (L2.CX P w) P w K mg base ["name", "figures"] "kind_of" (defScope s_kind_of) A.a_kind_of cdv Ar outer s H E) (fun c d _ H => E c d H) := takes_of rfl rfl rfl rfl
  exact (mss_cons (ms_s (i := 1) (hx := Or.inl (by kernel_rfl)) (hf := Or.inr (by kernel_rfl)) sc_kind_of.nd (me_slice (me_var 0 (hv := Or.inl (by kernel_rfl))) (mo_some me_int) mo_none))
  (mss_cons (ms_if (mt_of (mw_or (mt_notin hu (me_slice (me_var 0 (hv := Or.inl (by kernel_rfl))) mo_none (mo_some me_int)) (me_tup (ma_cons (me_str [110] (by decide +kernel)) (ma_cons (me_str [114] (by decide +kernel)) ma_nil))) (by kernel_rfl)) (mw_or (mt_lt (me_len (gl_of (by kernel_rfl)) T.z_len (ma_cons (me_var 1 (hv := Or.inl (by kernel_rfl))) ma_nil)) me_int) (mw_or (mt_gt (me_len (gl_of (by kernel_rfl)) T.z_len (ma_cons (me_var 1 (hv := Or.inl (by kernel_rfl))) ma_nil)) me_int) (mw_or1 (mt_not (mt_val (me_call (ok_all_of T n) (hr.mono (by decide)) (gl_of (by kernel_rfl)) T.m_all_of T.f_all_of.kp T.b_all_of tk (ma_cons (me_var 1 (hv := Or.inl (by kernel_rfl))) (ma_cons (me_globS' (gl_of (by kernel_rfl)) T.c_FIGURES) ma_nil)) (aLen_cons (aLen_cons aLen_nil)))))))))) (mss_one (ms_ret me_non)) mss_nil)
  (mss_cons (ms_if (mt_of (mw_and (mt_eq hr.units (me_sub_ix hu (me_var 1 (hv := Or.inl (by kernel_rfl))) me_int (fun _ _ => by kernel_rfl)) (me_str [48] (by decide +kernel))) (mw_and1 (mt_gt (me_len (gl_of (by kernel_rfl)) T.z_len (ma_cons (me_var 1 (hv := Or.inl (by kernel_rfl))) ma_nil)) me_int)))) (mss_one (ms_ret me_non)) mss_nil)
  (mss_one (ms_ret (me_sub_ix hu (me_var 0 (hv := Or.inl (by kernel_rfl))) me_int (fun _ _ => by kernel_rfl)))))))
theorem sc_is_number : FnScope ["thing"] ["thing"] (defScope s_is_number) := ⟨by kernel_rfl, by kernel_rfl, by kernel_rfl, by decide +kernel, by kernel_rfl, by decide +kernel, by decide +kernel⟩
set_option maxHeartbeats 4000000 in
theorem ok_is_number (T : Txt w K mg A) (n : Nat) : FnOk P w K mg base (L2.CX P w) 1 A.a_is_number A.d_is_number ["thing"] (spM ⟨w, K⟩ (F_is_number n) 1) :=
  def_okF ["thing"] ["thing"] (b_is_number n) (k := 0) (kk := 1) (nn := 1) (g := F_is_number n) (by kernel_rfl) (by kernel_rfl) (by kernel_rfl) T.f_is_number sc_is_number fun cdv Ar outer s H E hr => by
  have hu := hr.units
  have tk : Takes (cxOf (L2.CX P w) P w K mg base ["thing"] "is_number" (defScope s_is_number) A.a_is_number cdv Ar outer s H E) (fun c d _ H => E c d H) := takes_of rfl rfl rfl rfl
  exact (mss_one (ms_ret (me_and (me_isinst (gl_of (by kernel_rfl)) T.z_isinstance (ma_cons (me_var 0 (hv := Or.inl (by kernel_rfl))) (ma_cons (me_ty (gl_of (by kernel_rfl)) T.z_int (by decide +kernel)) ma_nil))) (me_and (me_not (me_isinst (gl_of (by kernel_rfl)) T.z_isinstance (ma_cons (me_var 0 (hv := Or.inl (by kernel_rfl))) (ma_cons (me_ty (gl_of (by kernel_rfl)) T.z_bool (by decide +kernel)) ma_nil)))) (me_one (me_chain op_le (t_cmpI _) op_le (t_cmpI _) (me_globI' (gl_of (by kernel_rfl)) T.c_LEAST) (me_var 0 (hv := Or.inl (by kernel_rfl))) (me_globI' (gl_of (by kernel_rfl)) T.c_GREATEST)))))))
theorem sc_is_named : FnScope ["thing"] ["thing"] (defScope s_is_named) := ⟨by kernel_rfl, by kernel_rfl, by kernel_rfl, by decide +kernel, by kernel_rfl, by decide +kernel, by decide +kernel⟩
set_option maxHeartbeats 4000000 in
theorem ok_is_named (T : Txt w K mg A) (n : Nat) : FnOk P w K mg base (L2.CX P w) 3 A.a_is_named A.d_is_named ["thing"] (spM ⟨w, K⟩ (F_is_named n) 1) :=
  def_okF ["thing"] ["thing"] (b_is_named n) (k := 2) (kk := 1) (nn := 1) (g := F_is_named n) (by kernel_rfl) (by kernel_rfl) (by kernel_rfl) T.f_is_named sc_is_named fun cdv Ar outer s H E hr => by
  have hu := hr.units
  have tk : Takes (cxOf (L2.CX P w) P w K mg base ["thing"] "is_named" (defScope s_is_named) A.a_is_named cdv Ar outer s H E) (fun c d _ H => E c d H) := takes_of rfl rfl rfl rfl
  exact (mss_cons (ms_if (mt_of (mw_or (mt_not (mt_val (me_isinst (gl_of (by kernel_rfl)) T.z_isinstance (ma_cons (me_var 0 (hv := Or.inl (by kernel_rfl))) (ma_cons (me_ty (gl_of (by kernel_rfl)) T.z_tuple (by decide +kernel)) ma_nil))))) (mw_or (mt_ne hr.units (me_len (gl_of (by kernel_rfl)) T.z_len (ma_cons (me_var 0 (hv := Or.inl (by kernel_rfl))) ma_nil)) me_int) (mw_or1 (mt_not (mt_val (me_isinst (gl_of (by kernel_rfl)) T.z_isinstance (ma_cons (me_sub_ix hu (me_var 0 (hv := Or.inl (by kernel_rfl))) me_int (fun _ _ => by kernel_rfl)) (ma_cons (me_ty (gl_of (by kernel_rfl)) T.z_str (by decide +kernel)) ma_nil))))))))) (mss_one (ms_ret me_bl)) mss_nil)
  (mss_cons (ms_if (mt_of (mw_or (mt_not (mt_val (me_isinst (gl_of (by kernel_rfl)) T.z_isinstance (ma_cons (me_sub_ix hu (me_var 0 (hv := Or.inl (by kernel_rfl))) me_int (fun _ _ => by kernel_rfl)) (ma_cons (me_ty (gl_of (by kernel_rfl)) T.z_int (by decide +kernel)) ma_nil))))) (mw_or (mt_val (me_isinst (gl_of (by kernel_rfl)) T.z_isinstance (ma_cons (me_sub_ix hu (me_var 0 (hv := Or.inl (by kernel_rfl))) me_int (fun _ _ => by kernel_rfl)) (ma_cons (me_ty (gl_of (by kernel_rfl)) T.z_bool (by decide +kernel)) ma_nil)))) (mw_or1 (mt_lt (me_sub_ix hu (me_var 0 (hv := Or.inl (by kernel_rfl))) me_int (fun _ _ => by kernel_rfl)) me_int))))) (mss_one (ms_ret me_bl)) mss_nil)
  (mss_one (ms_ret (me_isnot (me_call (ok_kind_of T n) (hr.mono (by decide)) (gl_of (by kernel_rfl)) T.m_kind_of T.f_kind_of.kp T.b_kind_of tk (ma_cons (me_sub_ix hu (me_var 0 (hv := Or.inl (by kernel_rfl))) me_int (fun _ _ => by kernel_rfl)) ma_nil) (aLen_cons aLen_nil)) me_non)))))
theorem sc_kind_within : FnScope ["term", "deep", "kinds", "due", "parts", "operand", "kind", "found", "many"] ["term", "deep"] (defScope s_kind_within) := ⟨by kernel_rfl, by kernel_rfl, by kernel_rfl, by decide +kernel, by kernel_rfl, by decide +kernel, by decide +kernel⟩
set_option maxHeartbeats 4000000 in
theorem st_kind_within (T : Txt w K mg A) (n d : Nat) (rc_kind_within : FnOk P w K mg base (L2.CX P w) (3 + d) A.a_kind_within A.d_kind_within ["term", "deep"] (spM ⟨w, K⟩ (F_kind_within n d) 2)) : FnOk P w K mg base (L2.CX P w) (3 + (d + 1)) A.a_kind_within A.d_kind_within ["term", "deep"] (spM ⟨w, K⟩ (F_kind_within n (d + 1)) 2) :=
  def_okF ["term", "deep", "kinds", "due", "parts", "operand", "kind", "found", "many"] ["term", "deep"] (b_kind_within n (F_kind_within n d)) (k := 3 + d) (kk := 9) (nn := 2) (g := F_kind_within n (d + 1)) (by unfold F_kind_within; first | rfl | rw [G_kind_within]) (by kernel_rfl) (by kernel_rfl) T.f_kind_within sc_kind_within fun cdv Ar outer s H E hr => by
  have hu := hr.units
  have tk : Takes (cxOf (L2.CX P w) P w K mg base ["term", "deep", "kinds", "due", "parts", "operand", "kind", "found", "many"] "kind_within" (defScope s_kind_within) A.a_kind_within cdv Ar outer s H E) (fun c d _ H => E c d H) := takes_of rfl rfl rfl rfl
  exact (mss_cons (ms_if (mt_eq hr.units (me_var 1 (hv := Or.inl (by kernel_rfl))) me_int) (mss_one (ms_ret (me_tup (ma_cons me_non (ma_cons me_int ma_nil))))) mss_nil)
  (mss_cons (ms_if (mt_val (me_call (ok_is_number T n) (hr.mono (by omega)) (gl_of (by kernel_rfl)) T.m_is_number T.f_is_number.kp T.b_is_number tk (ma_cons (me_var 0 (hv := Or.inl (by kernel_rfl))) ma_nil) (aLen_cons aLen_nil))) (mss_one (ms_ret (me_tup (ma_cons (me_str [110] (by decide +kernel)) (ma_cons me_int ma_nil))))) mss_nil)
  (mss_cons (ms_if (mt_val (me_call (ok_is_named T n) (hr.mono (by omega)) (gl_of (by kernel_rfl)) T.m_is_named T.f_is_named.kp T.b_is_named tk (ma_cons (me_var 0 (hv := Or.inl (by kernel_rfl))) ma_nil) (aLen_cons aLen_nil))) (mss_one (ms_ret (me_tup (ma_cons (me_call (ok_kind_of T n) (hr.mono (by omega)) (gl_of (by kernel_rfl)) T.m_kind_of T.f_kind_of.kp T.b_kind_of tk (ma_cons (me_sub_ix hu (me_var 0 (hv := Or.inl (by kernel_rfl))) me_int (fun _ _ => by kernel_rfl)) ma_nil) (aLen_cons aLen_nil)) (ma_cons me_int ma_nil))))) mss_nil)
  (mss_cons (ms_if (mt_of (mw_or (mt_not (mt_val (me_isinst (gl_of (by kernel_rfl)) T.z_isinstance (ma_cons (me_var 0 (hv := Or.inl (by kernel_rfl))) (ma_cons (me_ty (gl_of (by kernel_rfl)) T.z_tuple (by decide +kernel)) ma_nil))))) (mw_or (mt_eq hr.units (me_len (gl_of (by kernel_rfl)) T.z_len (ma_cons (me_var 0 (hv := Or.inl (by kernel_rfl))) ma_nil)) me_int) (mw_or1 (mt_not (mt_val (me_isinst (gl_of (by kernel_rfl)) T.z_isinstance (ma_cons (me_sub_ix hu (me_var 0 (hv := Or.inl (by kernel_rfl))) me_int (fun _ _ => by kernel_rfl)) (ma_cons (me_ty (gl_of (by kernel_rfl)) T.z_str (by decide +kernel)) ma_nil))))))))) (mss_one (ms_ret (me_tup (ma_cons me_non (ma_cons me_int ma_nil))))) mss_nil)
  (mss_cons (ms_s (i := 2) (hx := Or.inl (by kernel_rfl)) (hf := Or.inr (by kernel_rfl)) sc_kind_within.nd (me_call (ok_kinds_of T n) (hr.mono (by omega)) (gl_of (by kernel_rfl)) T.m_kinds_of T.f_kinds_of.kp T.b_kinds_of tk (ma_cons (me_sub_ix hu (me_var 0 (hv := Or.inl (by kernel_rfl))) me_int (fun _ _ => by kernel_rfl)) ma_nil) (aLen_cons aLen_nil)))
  (mss_cons (ms_if (mt_is (me_var 2 (hv := Or.inl (by kernel_rfl))) me_non) (mss_one (ms_ret (me_tup (ma_cons me_non (ma_cons me_int ma_nil))))) mss_nil)
  (mss_cons (ms_s (i := 3) (hx := Or.inl (by kernel_rfl)) (hf := Or.inr (by kernel_rfl)) sc_kind_within.nd (me_ifExp (mt_is (me_sub_ix hu (me_var 2 (hv := Or.inl (by kernel_rfl))) me_int (fun _ _ => by kernel_rfl)) me_non) (me_mulS (me_str [110] (by decide +kernel)) (me_min2 rfl (gl_of (by kernel_rfl)) T.z_min (ma_cons (me_globI' (gl_of (by kernel_rfl)) T.c_MOST_MADE) (ma_cons (me_sub (me_len (gl_of (by kernel_rfl)) T.z_len (ma_cons (me_var 0 (hv := Or.inl (by kernel_rfl))) ma_nil)) me_int) ma_nil)))) (me_sub_ix hu (me_var 2 (hv := Or.inl (by kernel_rfl))) me_int (fun _ _ => by kernel_rfl))))
  (mss_cons (ms_if (mt_ne hr.units (me_len (gl_of (by kernel_rfl)) T.z_len (ma_cons (me_var 3 (hv := Or.inl (by kernel_rfl))) ma_nil)) (me_sub (me_len (gl_of (by kernel_rfl)) T.z_len (ma_cons (me_var 0 (hv := Or.inl (by kernel_rfl))) ma_nil)) me_int)) (mss_one (ms_ret (me_tup (ma_cons me_non (ma_cons me_int ma_nil))))) mss_nil)
  (mss_cons (ms_s (i := 4) (hx := Or.inl (by kernel_rfl)) (hf := Or.inr (by kernel_rfl)) sc_kind_within.nd me_int)
  (mss_cons (ms_for (passes_of rfl) rfl (mi_zip (gl_of (by kernel_rfl)) T.z_zip (ma_cons (me_slice (me_var 0 (hv := Or.inl (by kernel_rfl))) (mo_some me_int) mo_none) (ma_cons (me_var 3 (hv := Or.inl (by kernel_rfl))) ma_nil))) (mg_tup rfl (mgs_cons (mg_n (i := 5) (hx := Or.inl (by kernel_rfl)) (hf := Or.inr (by kernel_rfl)) sc_kind_within.nd) (mgs_cons (mg_n (i := 6) (hx := Or.inl (by kernel_rfl)) (hf := Or.inr (by kernel_rfl)) sc_kind_within.nd) mgs_nil))) (mss_cons (ms_asg (me_call (rc_kind_within) (hr.mono (by omega)) (gl_of (by kernel_rfl)) T.m_kind_within T.f_kind_within.kp T.b_kind_within tk (ma_cons (me_var 5 (hv := Or.inl (by kernel_rfl))) (ma_cons (me_sub (me_var 1 (hv := Or.inl (by kernel_rfl))) me_int) ma_nil)) (aLen_cons (aLen_cons aLen_nil))) (mg_tup rfl (mgs_cons (mg_n (i := 7) (hx := Or.inl (by kernel_rfl)) (hf := Or.inr (by kernel_rfl)) sc_kind_within.nd) (mgs_cons (mg_n (i := 8) (hx := Or.inl (by kernel_rfl)) (hf := Or.inr (by kernel_rfl)) sc_kind_within.nd) mgs_nil))))
  (mss_cons (ms_s (i := 4) (hx := Or.inl (by kernel_rfl)) (hf := Or.inr (by kernel_rfl)) sc_kind_within.nd (me_add (me_var 4 (hv := Or.inl (by kernel_rfl))) (me_var 8 (hv := Or.inl (by kernel_rfl)))))
  (mss_one (ms_if (mt_of (mw_or (mt_ne hr.units (me_var 7 (hv := Or.inl (by kernel_rfl))) (me_var 6 (hv := Or.inl (by kernel_rfl)))) (mw_or1 (mt_gt (me_var 4 (hv := Or.inl (by kernel_rfl))) (me_globI' (gl_of (by kernel_rfl)) T.c_MOST_PARTS))))) (mss_one (ms_ret (me_tup (ma_cons me_non (ma_cons me_int ma_nil))))) mss_nil)))))
  (mss_one (ms_ret (me_tup (ma_cons (me_sub_ix hu (me_var 2 (hv := Or.inl (by kernel_rfl))) me_int (fun _ _ => by kernel_rfl)) (ma_cons (me_var 4 (hv := Or.inl (by kernel_rfl))) ma_nil)))))))))))))))
theorem all_kind_within (T : Txt w K mg A) (n : Nat) : ∀ d : Nat, FnOk P w K mg base (L2.CX P w) (3 + d) A.a_kind_within A.d_kind_within ["term", "deep"] (spM ⟨w, K⟩ (F_kind_within n d) 2)
  | 0 => (by unfold F_kind_within; first | exact fnOk_no | (rw [G_kind_within]; exact fnOk_no))
  | d + 1 => st_kind_within T n d (all_kind_within T n d)
theorem ok_kind_within (T : Txt w K mg A) (n d : Nat) : FnOk P w K mg base (L2.CX P w) (3 + d) A.a_kind_within A.d_kind_within ["term", "deep"] (spM ⟨w, K⟩ (F_kind_within n d) 2) := (all_kind_within T n d)
theorem sc_kind_of_term : FnScope ["term"] ["term"] (defScope s_kind_of_term) := ⟨by kernel_rfl, by kernel_rfl, by kernel_rfl, by decide +kernel, by kernel_rfl, by decide +kernel, by decide +kernel⟩
set_option maxHeartbeats 4000000 in
theorem ok_kind_of_term (T : Txt w K mg A) (n : Nat) : FnOk P w K mg base (L2.CX P w) 24 A.a_kind_of_term A.d_kind_of_term ["term"] (spM ⟨w, K⟩ (F_kind_of_term n) 1) :=
  def_okF ["term"] ["term"] (b_kind_of_term n) (k := 23) (kk := 1) (nn := 1) (g := F_kind_of_term n) (by kernel_rfl) (by kernel_rfl) (by kernel_rfl) T.f_kind_of_term sc_kind_of_term fun cdv Ar outer s H E hr => by
  have hu := hr.units
  have tk : Takes (cxOf (L2.CX P w) P w K mg base ["term"] "kind_of_term" (defScope s_kind_of_term) A.a_kind_of_term cdv Ar outer s H E) (fun c d _ H => E c d H) := takes_of rfl rfl rfl rfl
  exact (mss_one (ms_ret (me_sub_ix hu (me_call (ok_kind_within T n 20) (hr.mono (by decide)) (gl_of (by kernel_rfl)) T.m_kind_within T.f_kind_within.kp T.b_kind_within tk (ma_cons (me_var 0 (hv := Or.inl (by kernel_rfl))) (ma_cons (me_globI' (gl_of (by kernel_rfl)) T.c_MOST_DEEP) ma_nil)) (aLen_cons (aLen_cons aLen_nil))) me_int (fun _ _ => by kernel_rfl))))
theorem sc__law_cell_at : FnScope ["_law_script", "_law_k"] ["_law_script", "_law_k"] (defScope s__law_cell_at) := ⟨by kernel_rfl, by kernel_rfl, by kernel_rfl, by decide +kernel, by kernel_rfl, by decide +kernel, by decide +kernel⟩
set_option maxHeartbeats 4000000 in
theorem ok__law_cell_at (T : Txt w K mg A) (n : Nat) : FnOk P w K mg base (L2.CX P w) 1 A.a__law_cell_at A.d__law_cell_at ["_law_script", "_law_k"] (spM ⟨w, K⟩ (F__law_cell_at n) 2) :=
  def_okF ["_law_script", "_law_k"] ["_law_script", "_law_k"] (b__law_cell_at n) (k := 0) (kk := 2) (nn := 2) (g := F__law_cell_at n) (by kernel_rfl) (by kernel_rfl) (by kernel_rfl) T.f__law_cell_at sc__law_cell_at fun cdv Ar outer s H E hr => by
  have hu := hr.units
  have tk : Takes (cxOf (L2.CX P w) P w K mg base ["_law_script", "_law_k"] "_law_cell_at" (defScope s__law_cell_at) A.a__law_cell_at cdv Ar outer s H E) (fun c d _ H => E c d H) := takes_of rfl rfl rfl rfl
  exact (mss_cons (ms_if (mt_lt (me_var 1 (hv := Or.inl (by kernel_rfl))) (me_len (gl_of (by kernel_rfl)) T.z_len (ma_cons (me_var 0 (hv := Or.inl (by kernel_rfl))) ma_nil))) (mss_one (ms_ret (me_sub_ix hu (me_var 0 (hv := Or.inl (by kernel_rfl))) (me_var 1 (hv := Or.inl (by kernel_rfl))) (fun _ _ => by kernel_rfl)))) mss_nil)
  (mss_one (ms_ret me_int)))
theorem sc__law_box : FnScope ["_law_cell"] ["_law_cell"] (defScope s__law_box) := ⟨by kernel_rfl, by kernel_rfl, by kernel_rfl, by decide +kernel, by kernel_rfl, by decide +kernel, by decide +kernel⟩
set_option maxHeartbeats 4000000 in
theorem ok__law_box (T : Txt w K mg A) (n : Nat) : FnOk P w K mg base (L2.CX P w) 1 A.a__law_box A.d__law_box ["_law_cell"] (spM ⟨w, K⟩ (F__law_box n) 1) :=
  def_okF ["_law_cell"] ["_law_cell"] (b__law_box n) (k := 0) (kk := 1) (nn := 1) (g := F__law_box n) (by kernel_rfl) (by kernel_rfl) (by kernel_rfl) T.f__law_box sc__law_box fun cdv Ar outer s H E hr => by
  have hu := hr.units
  have tk : Takes (cxOf (L2.CX P w) P w K mg base ["_law_cell"] "_law_box" (defScope s__law_box) A.a__law_box cdv Ar outer s H E) (fun c d _ H => E c d H) := takes_of rfl rfl rfl rfl
  exact (mss_one (ms_ret (me_lstN (ma_cons (me_fdiv (me_var 0 (hv := Or.inl (by kernel_rfl))) me_int) (ma_cons (me_mod (me_var 0 (hv := Or.inl (by kernel_rfl))) me_int) (ma_cons me_int (ma_cons (me_mod (me_var 0 (hv := Or.inl (by kernel_rfl))) me_int) ma_nil)))))))
theorem sc__law_take : FnScope ["_law_box_here", "_law_many", "_law_found"] ["_law_box_here", "_law_many"] (defScope s__law_take) := ⟨by kernel_rfl, by kernel_rfl, by kernel_rfl, by decide +kernel, by kernel_rfl, by decide +kernel, by decide +kernel⟩
set_option maxHeartbeats 4000000 in
theorem ok__law_take (T : Txt w K mg A) (n : Nat) : FnOk P w K mg base (L2.CX P w) 1 A.a__law_take A.d__law_take ["_law_box_here", "_law_many"] (spM ⟨w, K⟩ (F__law_take n) 2) :=
  def_okF ["_law_box_here", "_law_many", "_law_found"] ["_law_box_here", "_law_many"] (b__law_take n) (k := 0) (kk := 3) (nn := 2) (g := F__law_take n) (by kernel_rfl) (by kernel_rfl) (by kernel_rfl) T.f__law_take sc__law_take fun cdv Ar outer s H E hr => by
  have hu := hr.units
  have tk : Takes (cxOf (L2.CX P w) P w K mg base ["_law_box_here", "_law_many", "_law_found"] "_law_take" (defScope s__law_take) A.a__law_take cdv Ar outer s H E) (fun c d _ H => E c d H) := takes_of rfl rfl rfl rfl
  exact (mss_cons (ms_asg (me_add (me_sub_ix hu (me_var 0 (hv := Or.inl (by kernel_rfl))) me_int (fun _ _ => by kernel_rfl)) me_int) (mg_sub hu (me_var 0 (hv := Or.inl (by kernel_rfl))) me_int))
  (mss_cons (ms_if (mt_of (mw_and (mt_eq hr.units (me_sub_ix hu (me_var 0 (hv := Or.inl (by kernel_rfl))) me_int (fun _ _ => by kernel_rfl)) me_int) (mw_and1 (mt_notin hu (me_sub_ix hu (me_var 0 (hv := Or.inl (by kernel_rfl))) me_int (fun _ _ => by kernel_rfl)) (me_tup (ma_cons me_int (ma_cons (me_neg me_int) ma_nil))) (by kernel_rfl))))) (mss_cons (ms_s (i := 2) (hx := Or.inl (by kernel_rfl)) (hf := Or.inr (by kernel_rfl)) sc__law_take.nd (me_mod (me_sub_ix hu (me_var 0 (hv := Or.inl (by kernel_rfl))) me_int (fun _ _ => by kernel_rfl)) (me_var 1 (hv := Or.inl (by kernel_rfl)))))
  (mss_cons (ms_asg (me_fdiv (me_sub_ix hu (me_var 0 (hv := Or.inl (by kernel_rfl))) me_int (fun _ _ => by kernel_rfl)) (me_var 1 (hv := Or.inl (by kernel_rfl)))) (mg_sub hu (me_var 0 (hv := Or.inl (by kernel_rfl))) me_int))
  (mss_one (ms_ret (me_var 2 (hv := Or.inl (by kernel_rfl))))))) mss_nil)
  (mss_cons (ms_asg (me_mod (me_add (me_add (me_mul (me_sub_ix hu (me_var 0 (hv := Or.inl (by kernel_rfl))) me_int (fun _ _ => by kernel_rfl)) me_int) (me_mul me_int (me_sub_ix hu (me_var 0 (hv := Or.inl (by kernel_rfl))) me_int (fun _ _ => by kernel_rfl)))) me_int) me_int) (mg_sub hu (me_var 0 (hv := Or.inl (by kernel_rfl))) me_int))
  (mss_one (ms_ret (me_mod (me_fdiv (me_mod (me_mul (me_sub_ix hu (me_var 0 (hv := Or.inl (by kernel_rfl))) me_int (fun _ _ => by kernel_rfl)) me_int) me_int) me_int) (me_var 1 (hv := Or.inl (by kernel_rfl)))))))))
theorem sc__law_number : FnScope ["_law_box_here", "_law_some"] ["_law_box_here"] (defScope s__law_number) := ⟨by kernel_rfl, by kernel_rfl, by kernel_rfl, by decide +kernel, by kernel_rfl, by decide +kernel, by decide +kernel⟩
set_option maxHeartbeats 4000000 in
theorem ok__law_number (T : Txt w K mg A) (n : Nat) : FnOk P w K mg base (L2.CX P w) 2 A.a__law_number A.d__law_number ["_law_box_here"] (spM ⟨w, K⟩ (F__law_number n) 1) :=
  def_okF ["_law_box_here", "_law_some"] ["_law_box_here"] (b__law_number n) (k := 1) (kk := 2) (nn := 1) (g := F__law_number n) (by kernel_rfl) (by kernel_rfl) (by kernel_rfl) T.f__law_number sc__law_number fun cdv Ar outer s H E hr => by
  have hu := hr.units
  have tk : Takes (cxOf (L2.CX P w) P w K mg base ["_law_box_here", "_law_some"] "_law_number" (defScope s__law_number) A.a__law_number cdv Ar outer s H E) (fun c d _ H => E c d H) := takes_of rfl rfl rfl rfl
  exact (mss_cons (ms_s (i := 1) (hx := Or.inl (by kernel_rfl)) (hf := Or.inr (by kernel_rfl)) sc__law_number.nd (me_lst (ma_cons me_int (ma_cons me_int (ma_cons (me_sub (me_call (ok__law_take T n) (hr.mono (by decide)) (gl_of (by kernel_rfl)) T.m__law_take T.f__law_take.kp T.b__law_take tk (ma_cons (me_var 0 (hv := Or.inl (by kernel_rfl))) (ma_cons me_int ma_nil)) (aLen_cons (aLen_cons aLen_nil))) me_int) (ma_cons me_int (ma_cons (me_neg me_int) (ma_cons (me_sub (me_call (ok__law_take T n) (hr.mono (by decide)) (gl_of (by kernel_rfl)) T.m__law_take T.f__law_take.kp T.b__law_take tk (ma_cons (me_var 0 (hv := Or.inl (by kernel_rfl))) (ma_cons me_int ma_nil)) (aLen_cons (aLen_cons aLen_nil))) me_int) ma_nil))))))))
  (mss_one (ms_ret (me_sub_ix hu (me_var 1 (hv := Or.inl (by kernel_rfl))) (me_call (ok__law_take T n) (hr.mono (by decide)) (gl_of (by kernel_rfl)) T.m__law_take T.f__law_take.kp T.b__law_take tk (ma_cons (me_var 0 (hv := Or.inl (by kernel_rfl))) (ma_cons me_int ma_nil)) (aLen_cons (aLen_cons aLen_nil))) (fun _ _ => by kernel_rfl)))))
theorem sc__law_leaf : FnScope ["_law_box_here", "_law_kind_here"] ["_law_box_here", "_law_kind_here"] (defScope s__law_leaf) := ⟨by kernel_rfl, by kernel_rfl, by kernel_rfl, by decide +kernel, by kernel_rfl, by decide +kernel, by decide +kernel⟩
set_option maxHeartbeats 4000000 in
theorem ok__law_leaf (T : Txt w K mg A) (n : Nat) : FnOk P w K mg base (L2.CX P w) 3 A.a__law_leaf A.d__law_leaf ["_law_box_here", "_law_kind_here"] (spM ⟨w, K⟩ (F__law_leaf n) 2) :=
  def_okF ["_law_box_here", "_law_kind_here"] ["_law_box_here", "_law_kind_here"] (b__law_leaf n) (k := 2) (kk := 2) (nn := 2) (g := F__law_leaf n) (by kernel_rfl) (by kernel_rfl) (by kernel_rfl) T.f__law_leaf sc__law_leaf fun cdv Ar outer s H E hr => by
  have hu := hr.units
  have tk : Takes (cxOf (L2.CX P w) P w K mg base ["_law_box_here", "_law_kind_here"] "_law_leaf" (defScope s__law_leaf) A.a__law_leaf cdv Ar outer s H E) (fun c d _ H => E c d H) := takes_of rfl rfl rfl rfl
  exact (mss_cons (ms_if (mt_of (mw_and (mt_eq hr.units (me_var 1 (hv := Or.inl (by kernel_rfl))) (me_str [110] (by decide +kernel))) (mw_and1 (mt_eq hr.units (me_call (ok__law_take T n) (hr.mono (by decide)) (gl_of (by kernel_rfl)) T.m__law_take T.f__law_take.kp T.b__law_take tk (ma_cons (me_var 0 (hv := Or.inl (by kernel_rfl))) (ma_cons me_int ma_nil)) (aLen_cons (aLen_cons aLen_nil))) me_int)))) (mss_one (ms_ret (me_call (ok__law_number T n) (hr.mono (by decide)) (gl_of (by kernel_rfl)) T.m__law_number T.f__law_number.kp T.b__law_number tk (ma_cons (me_var 0 (hv := Or.inl (by kernel_rfl))) ma_nil) (aLen_cons aLen_nil)))) mss_nil)
  (mss_one (ms_ret (me_tup (ma_cons (me_call (ok__law_take T n) (hr.mono (by decide)) (gl_of (by kernel_rfl)) T.m__law_take T.f__law_take.kp T.b__law_take tk (ma_cons (me_var 0 (hv := Or.inl (by kernel_rfl))) (ma_cons me_int ma_nil)) (aLen_cons (aLen_cons aLen_nil))) (ma_cons (me_add (me_var 1 (hv := Or.inl (by kernel_rfl))) (me_strOf (gl_of (by kernel_rfl)) T.z_str (ma_cons (me_call (ok__law_take T n) (hr.mono (by decide)) (gl_of (by kernel_rfl)) T.m__law_take T.f__law_take.kp T.b__law_take tk (ma_cons (me_var 0 (hv := Or.inl (by kernel_rfl))) (ma_cons me_int ma_nil)) (aLen_cons (aLen_cons aLen_nil))) ma_nil))) ma_nil))))))
theorem sc__law_term : FnScope ["_law_box_here", "_law_kind_here", "_law_deep_here", "_law_ops", "_law_kinds", "_law_k", "_law_one"] ["_law_box_here", "_law_kind_here", "_law_deep_here"] (defScope s__law_term) := ⟨by kernel_rfl, by kernel_rfl, by kernel_rfl, by decide +kernel, by kernel_rfl, by decide +kernel, by decide +kernel⟩
set_option maxHeartbeats 4000000 in
theorem st__law_term (T : Txt w K mg A) (n d : Nat) (rc__law_term : FnOk P w K mg base (L2.CX P w) (3 + d) A.a__law_term A.d__law_term ["_law_box_here", "_law_kind_here", "_law_deep_here"] (spM ⟨w, K⟩ (F__law_term n d) 3)) : FnOk P w K mg base (L2.CX P w) (3 + (d + 1)) A.a__law_term A.d__law_term ["_law_box_here", "_law_kind_here", "_law_deep_here"] (spM ⟨w, K⟩ (F__law_term n (d + 1)) 3) :=
  def_okF ["_law_box_here", "_law_kind_here", "_law_deep_here", "_law_ops", "_law_kinds", "_law_k", "_law_one"] ["_law_box_here", "_law_kind_here", "_law_deep_here"] (b__law_term n (F__law_term n d)) (k := 3 + d) (kk := 7) (nn := 3) (g := F__law_term n (d + 1)) (by unfold F__law_term; first | rfl | rw [G__law_term]) (by kernel_rfl) (by kernel_rfl) T.f__law_term sc__law_term fun cdv Ar outer s H E hr => by
  have hu := hr.units
  have tk : Takes (cxOf (L2.CX P w) P w K mg base ["_law_box_here", "_law_kind_here", "_law_deep_here", "_law_ops", "_law_kinds", "_law_k", "_law_one"] "_law_term" (defScope s__law_term) A.a__law_term cdv Ar outer s H E) (fun c d _ H => E c d H) := takes_of rfl rfl rfl rfl
  exact (mss_cons (ms_if (mt_of (mw_or (mt_eq hr.units (me_var 2 (hv := Or.inr (Or.inl (by kernel_rfl)))) me_int) (mw_or1 (mt_eq hr.units (me_call (ok__law_take T n) (hr.mono (by omega)) (gl_of (by kernel_rfl)) T.m__law_take T.f__law_take.kp T.b__law_take tk (ma_cons (me_var 0 (hv := Or.inr (Or.inl (by kernel_rfl)))) (ma_cons me_int ma_nil)) (aLen_cons (aLen_cons aLen_nil))) me_int)))) (mss_one (ms_ret (me_call (ok__law_leaf T n) (hr.mono (by omega)) (gl_of (by kernel_rfl)) T.m__law_leaf T.f__law_leaf.kp T.b__law_leaf tk (ma_cons (me_var 0 (hv := Or.inr (Or.inl (by kernel_rfl)))) (ma_cons (me_var 1 (hv := Or.inl (by kernel_rfl))) ma_nil)) (aLen_cons (aLen_cons aLen_nil))))) mss_nil)
  (mss_cons (ms_s (i := 3) (hx := Or.inl (by kernel_rfl)) (hf := Or.inr (by kernel_rfl)) sc__law_term.nd (me_lst (ma_cons (me_str [97, 100, 100] (by decide +kernel)) (ma_cons (me_str [115, 117, 98] (by decide +kernel)) (ma_cons (me_str [109, 117, 108] (by decide +kernel)) (ma_cons (me_str [100, 105, 118] (by decide +kernel)) (ma_cons (me_str [114, 101, 115, 116] (by decide +kernel)) (ma_cons (me_str [108, 101, 115, 115] (by decide +kernel)) (ma_cons (me_str [115, 97, 109, 101] (by decide +kernel)) (ma_cons (me_str [112, 105, 99, 107] (by decide +kernel)) (ma_cons (me_str [99, 111, 112, 121] (by decide +kernel)) (ma_cons (me_str [97, 116] (by decide +kernel)) (ma_cons (me_str [115, 105, 122, 101] (by decide +kernel)) (ma_cons (me_str [97, 100, 100] (by decide +kernel)) (ma_cons (me_str [115, 117, 98] (by decide +kernel)) ma_nil)))))))))))))))
  (mss_cons (ms_s (i := 4) (hx := Or.inl (by kernel_rfl)) (hf := Or.inr (by kernel_rfl)) sc__law_term.nd (me_lst (ma_cons (me_str [110, 110] (by decide +kernel)) (ma_cons (me_str [110, 110] (by decide +kernel)) (ma_cons (me_str [110, 110] (by decide +kernel)) (ma_cons (me_str [110, 110] (by decide +kernel)) (ma_cons (me_str [110, 110] (by decide +kernel)) (ma_cons (me_str [110, 110] (by decide +kernel)) (ma_cons (me_str [110, 110] (by decide +kernel)) (ma_cons (me_str [110, 110, 110] (by decide +kernel)) (ma_cons (me_str [110] (by decide +kernel)) (ma_cons (me_str [114, 110] (by decide +kernel)) (ma_cons (me_str [114] (by decide +kernel)) (ma_cons (me_str [110, 110] (by decide +kernel)) (ma_cons (me_str [110, 110] (by decide +kernel)) ma_nil)))))))))))))))
  (mss_cons (ms_if (mt_eq hr.units (me_var 1 (hv := Or.inl (by kernel_rfl))) (me_str [114] (by decide +kernel))) (mss_cons (ms_s (i := 3) (hx := Or.inl (by kernel_rfl)) (hf := Or.inr (by kernel_rfl)) sc__law_term.nd (me_lst (ma_cons (me_str [112, 117, 116] (by decide +kernel)) (ma_cons (me_str [109, 97, 110, 121] (by decide +kernel)) (ma_cons (me_str [107, 101, 101, 112] (by decide +kernel)) (ma_cons (me_str [109, 97, 107, 101] (by decide +kernel)) (ma_cons (me_str [109, 97, 107, 101] (by decide +kernel)) ma_nil)))))))
  (mss_one (ms_s (i := 4) (hx := Or.inl (by kernel_rfl)) (hf := Or.inr (by kernel_rfl)) sc__law_term.nd (me_lst (ma_cons (me_str [114, 110, 110] (by decide +kernel)) (ma_cons (me_str [110, 110] (by decide +kernel)) (ma_cons (me_str [114] (by decide +kernel)) (ma_cons (me_slice (me_str [110, 110, 110] (by decide +kernel)) mo_none (mo_some (me_call (ok__law_take T n) (hr.mono (by omega)) (gl_of (by kernel_rfl)) T.m__law_take T.f__law_take.kp T.b__law_take tk (ma_cons (me_var 0 (hv := Or.inr (Or.inl (by kernel_rfl)))) (ma_cons me_int ma_nil)) (aLen_cons (aLen_cons aLen_nil))))) (ma_cons (me_str [110, 110] (by decide +kernel)) ma_nil))))))))) mss_nil)
  (mss_cons (ms_s (i := 5) (hx := Or.inl (by kernel_rfl)) (hf := Or.inr (by kernel_rfl)) sc__law_term.nd (me_call (ok__law_take T n) (hr.mono (by omega)) (gl_of (by kernel_rfl)) T.m__law_take T.f__law_take.kp T.b__law_take tk (ma_cons (me_var 0 (hv := Or.inr (Or.inl (by kernel_rfl)))) (ma_cons (me_len (gl_of (by kernel_rfl)) T.z_len (ma_cons (me_var 3 (hv := Or.inl (by kernel_rfl))) ma_nil)) ma_nil)) (aLen_cons (aLen_cons aLen_nil))))
  (mss_one (ms_ret (me_add (me_tup (ma_cons (me_sub_ix hu (me_var 3 (hv := Or.inl (by kernel_rfl))) (me_var 5 (hv := Or.inl (by kernel_rfl))) (fun _ _ => by kernel_rfl)) ma_nil)) (me_tupleOf (gl_of (by kernel_rfl)) T.z_tuple (ma_cons (me_lcA (own := [("_law_one", 6)]) rfl sc__law_term.nd (mig_any (me_sub_ix hu (me_var 4 (hv := Or.inl (by kernel_rfl))) (me_var 5 (hv := Or.inl (by kernel_rfl))) (fun _ _ => by kernel_rfl))) (blkOk_by (by kernel_rfl)) (tgo_name (by decide)) lcV_end (fun _ _ _ _ _ => (pg_n (i := 6) (hx := Or.inl (by kernel_rfl)) (hf := Or.inr (by kernel_rfl)) sc__law_term.nd)) (fun _ _ _ _ _ => mts_nil) (fun _ _ _ _ _ => (me_call (rc__law_term) (hr.mono (by omega)) (gl_of (by kernel_rfl)) T.m__law_term T.f__law_term.kp T.b__law_term takes0 (ma_cons (me_var 0 (hv := Or.inr (Or.inl (by kernel_rfl)))) (ma_cons (me_var 6 (hv := Or.inl (by kernel_rfl))) (ma_cons (me_sub (me_var 2 (hv := Or.inr (Or.inl (by kernel_rfl)))) me_int) ma_nil))) (aLen_cons (aLen_cons (aLen_cons aLen_nil)))))) ma_nil))))))))))
theorem all__law_term (T : Txt w K mg A) (n : Nat) : ∀ d : Nat, FnOk P w K mg base (L2.CX P w) (3 + d) A.a__law_term A.d__law_term ["_law_box_here", "_law_kind_here", "_law_deep_here"] (spM ⟨w, K⟩ (F__law_term n d) 3)
  | 0 => (by unfold F__law_term; first | exact fnOk_no | (rw [G__law_term]; exact fnOk_no))
  | d + 1 => st__law_term T n d (all__law_term T n d)
theorem ok__law_term (T : Txt w K mg A) (n d : Nat) : FnOk P w K mg base (L2.CX P w) (3 + d) A.a__law_term A.d__law_term ["_law_box_here", "_law_kind_here", "_law_deep_here"] (spM ⟨w, K⟩ (F__law_term n d) 3) := (all__law_term T n d)
theorem sc__law_bent : FnScope ["_law_box_here", "_law_term_here", "_law_some", "_law_way", "_law_at"] ["_law_box_here", "_law_term_here"] (defScope s__law_bent) := ⟨by kernel_rfl, by kernel_rfl, by kernel_rfl, by decide +kernel, by kernel_rfl, by decide +kernel, by decide +kernel⟩
set_option maxHeartbeats 4000000 in
theorem st__law_bent (T : Txt w K mg A) (n d : Nat) (rc__law_bent : FnOk P w K mg base (L2.CX P w) (1 + d) A.a__law_bent A.d__law_bent ["_law_box_here", "_law_term_here"] (spM ⟨w, K⟩ (F__law_bent n d) 2)) : FnOk P w K mg base (L2.CX P w) (1 + (d + 1)) A.a__law_bent A.d__law_bent ["_law_box_here", "_law_term_here"] (spM ⟨w, K⟩ (F__law_bent n (d + 1)) 2) :=
  def_okF ["_law_box_here", "_law_term_here", "_law_some", "_law_way", "_law_at"] ["_law_box_here", "_law_term_here"] (b__law_bent n (F__law_bent n d)) (k := 1 + d) (kk := 5) (nn := 2) (g := F__law_bent n (d + 1)) (by unfold F__law_bent; first | rfl | rw [G__law_bent]) (by kernel_rfl) (by kernel_rfl) T.f__law_bent sc__law_bent fun cdv Ar outer s H E hr => by
  have hu := hr.units
  have tk : Takes (cxOf (L2.CX P w) P w K mg base ["_law_box_here", "_law_term_here", "_law_some", "_law_way", "_law_at"] "_law_bent" (defScope s__law_bent) A.a__law_bent cdv Ar outer s H E) (fun c d _ H => E c d H) := takes_of rfl rfl rfl rfl
  exact (mss_cons (ms_if (mt_of (mw_or (mt_not (mt_val (me_isinst (gl_of (by kernel_rfl)) T.z_isinstance (ma_cons (me_var 1 (hv := Or.inl (by kernel_rfl))) (ma_cons (me_ty (gl_of (by kernel_rfl)) T.z_tuple (by decide +kernel)) ma_nil))))) (mw_or (mt_val (me_isinst (gl_of (by kernel_rfl)) T.z_isinstance (ma_cons (me_sub_ix hu (me_var 1 (hv := Or.inl (by kernel_rfl))) me_int (fun _ _ => by kernel_rfl)) (ma_cons (me_ty (gl_of (by kernel_rfl)) T.z_int (by decide +kernel)) ma_nil)))) (mw_or1 (mt_eq hr.units (me_call (ok__law_take T n) (hr.mono (by omega)) (gl_of (by kernel_rfl)) T.m__law_take T.f__law_take.kp T.b__law_take tk (ma_cons (me_var 0 (hv := Or.inl (by kernel_rfl))) (ma_cons me_int ma_nil)) (aLen_cons (aLen_cons aLen_nil))) me_int))))) (mss_cons (ms_s (i := 2) (hx := Or.inl (by kernel_rfl)) (hf := Or.inr (by kernel_rfl)) sc__law_bent.nd (me_lst (ma_cons me_bl (ma_cons me_non (ma_cons me_int (ma_cons (me_neg me_int) (ma_cons (me_tup (ma_cons (me_neg me_int) (ma_cons (me_str [110, 48] (by decide +kernel)) ma_nil))) (ma_cons (me_tup (ma_cons me_bl (ma_cons (me_str [110, 48] (by decide +kernel)) ma_nil))) (ma_cons (me_tup (ma_cons me_int (ma_cons (me_str [110, 48, 48] (by decide +kernel)) ma_nil))) (ma_cons (me_tup (ma_cons me_int (ma_cons (me_str [114, 55] (by decide +kernel)) ma_nil))) (ma_cons (me_tup (ma_cons me_int (ma_cons (me_str [120, 49] (by decide +kernel)) ma_nil))) (ma_cons (me_tup (ma_cons (me_str [97, 100, 100, 115] (by decide +kernel)) (ma_cons me_int (ma_cons me_int ma_nil)))) ma_nil))))))))))))
  (mss_cons (ms_s (i := 2) (hx := Or.inl (by kernel_rfl)) (hf := Or.inr (by kernel_rfl)) sc__law_bent.nd (me_add (me_var 2 (hv := Or.inl (by kernel_rfl))) (me_lst (ma_cons (me_tup (ma_cons (me_str [97, 100, 100] (by decide +kernel)) (ma_cons me_int ma_nil))) (ma_cons (me_add (me_tup (ma_cons (me_str [109, 97, 107, 101] (by decide +kernel)) ma_nil)) (me_mul (me_tup (ma_cons me_int ma_nil)) me_int)) (ma_cons (me_str [110, 48] (by decide +kernel)) (ma_cons (me_tup ma_nil) (ma_cons (me_tup (ma_cons me_int (ma_cons (me_str [110, 48] (by decide +kernel)) (ma_cons me_int ma_nil)))) (ma_cons (me_tup (ma_cons (me_str [99, 111, 112, 121] (by decide +kernel)) (ma_cons (me_tup (ma_cons me_int (ma_cons (me_str [114, 48] (by decide +kernel)) ma_nil))) ma_nil))) ma_nil)))))))))
  (mss_cons (ms_s (i := 2) (hx := Or.inl (by kernel_rfl)) (hf := Or.inr (by kernel_rfl)) sc__law_bent.nd (me_add (me_var 2 (hv := Or.inl (by kernel_rfl))) (me_lst (ma_cons (me_tup (ma_cons (me_str [116, 105, 99, 107] (by decide +kernel)) ma_nil)) (ma_cons (me_tup (ma_cons me_int (ma_cons (me_str [110, 57, 57, 57, 57, 57] (by decide +kernel)) ma_nil))) ma_nil)))))
  (mss_one (ms_ret (me_sub_ix hu (me_var 2 (hv := Or.inl (by kernel_rfl))) (me_call (ok__law_take T n) (hr.mono (by omega)) (gl_of (by kernel_rfl)) T.m__law_take T.f__law_take.kp T.b__law_take tk (ma_cons (me_var 0 (hv := Or.inl (by kernel_rfl))) (ma_cons me_int ma_nil)) (aLen_cons (aLen_cons aLen_nil))) (fun _ _ => by kernel_rfl))))))) mss_nil)
  (mss_cons (ms_s (i := 3) (hx := Or.inl (by kernel_rfl)) (hf := Or.inr (by kernel_rfl)) sc__law_bent.nd (me_call (ok__law_take T n) (hr.mono (by omega)) (gl_of (by kernel_rfl)) T.m__law_take T.f__law_take.kp T.b__law_take tk (ma_cons (me_var 0 (hv := Or.inl (by kernel_rfl))) (ma_cons me_int ma_nil)) (aLen_cons (aLen_cons aLen_nil))))
  (mss_cons (ms_if (mt_eq hr.units (me_var 3 (hv := Or.inl (by kernel_rfl))) me_int) (mss_one (ms_ret (me_add (me_var 1 (hv := Or.inl (by kernel_rfl))) (me_tup (ma_cons me_int ma_nil))))) mss_nil)
  (mss_cons (ms_if (mt_of (mw_or (mt_eq hr.units (me_var 3 (hv := Or.inl (by kernel_rfl))) me_int) (mw_or1 (mt_eq hr.units (me_len (gl_of (by kernel_rfl)) T.z_len (ma_cons (me_var 1 (hv := Or.inl (by kernel_rfl))) ma_nil)) me_int)))) (mss_one (ms_ret (me_slice (me_var 1 (hv := Or.inl (by kernel_rfl))) mo_none (mo_some (me_neg me_int))))) mss_nil)
  (mss_cons (ms_s (i := 4) (hx := Or.inl (by kernel_rfl)) (hf := Or.inr (by kernel_rfl)) sc__law_bent.nd (me_add me_int (me_call (ok__law_take T n) (hr.mono (by omega)) (gl_of (by kernel_rfl)) T.m__law_take T.f__law_take.kp T.b__law_take tk (ma_cons (me_var 0 (hv := Or.inl (by kernel_rfl))) (ma_cons (me_sub (me_len (gl_of (by kernel_rfl)) T.z_len (ma_cons (me_var 1 (hv := Or.inl (by kernel_rfl))) ma_nil)) me_int) ma_nil)) (aLen_cons (aLen_cons aLen_nil)))))
  (mss_one (ms_ret (me_add (me_add (me_slice (me_var 1 (hv := Or.inl (by kernel_rfl))) mo_none (mo_some (me_var 4 (hv := Or.inl (by kernel_rfl))))) (me_tup (ma_cons (me_call (rc__law_bent) (hr.mono (by omega)) (gl_of (by kernel_rfl)) T.m__law_bent T.f__law_bent.kp T.b__law_bent tk (ma_cons (me_var 0 (hv := Or.inl (by kernel_rfl))) (ma_cons (me_sub_ix hu (me_var 1 (hv := Or.inl (by kernel_rfl))) (me_var 4 (hv := Or.inl (by kernel_rfl))) (fun _ _ => by kernel_rfl)) ma_nil)) (aLen_cons (aLen_cons aLen_nil))) ma_nil))) (me_slice (me_var 1 (hv := Or.inl (by kernel_rfl))) (mo_some (me_add (me_var 4 (hv := Or.inl (by kernel_rfl))) me_int)) mo_none)))))))))
theorem all__law_bent (T : Txt w K mg A) (n : Nat) : ∀ d : Nat, FnOk P w K mg base (L2.CX P w) (1 + d) A.a__law_bent A.d__law_bent ["_law_box_here", "_law_term_here"] (spM ⟨w, K⟩ (F__law_bent n d) 2)
  | 0 => (by unfold F__law_bent; first | exact fnOk_no | (rw [G__law_bent]; exact fnOk_no))
  | d + 1 => st__law_bent T n d (all__law_bent T n d)
theorem ok__law_bent (T : Txt w K mg A) (n d : Nat) : FnOk P w K mg base (L2.CX P w) (1 + d) A.a__law_bent A.d__law_bent ["_law_box_here", "_law_term_here"] (spM ⟨w, K⟩ (F__law_bent n d) 2) := (all__law_bent T n d)
theorem sc__law_great : FnScope ["_law_box_here", "_law_term_here", "_law_k", "_law_row"] ["_law_box_here"] (defScope s__law_great) := ⟨by kernel_rfl, by kernel_rfl, by kernel_rfl, by decide +kernel, by kernel_rfl, by decide +kernel, by decide +kernel⟩
set_option maxHeartbeats 4000000 in
theorem ok__law_great (T : Txt w K mg A) (n : Nat) : FnOk P w K mg base (L2.CX P w) 24 A.a__law_great A.d__law_great ["_law_box_here"] (spM ⟨w, K⟩ (F__law_great n) 1) :=
  def_okF ["_law_box_here", "_law_term_here", "_law_k", "_law_row"] ["_law_box_here"] (b__law_great n) (k := 23) (kk := 4) (nn := 1) (g := F__law_great n) (by kernel_rfl) (by kernel_rfl) (by kernel_rfl) T.f__law_great sc__law_great fun cdv Ar outer s H E hr => by
  have hu := hr.units
  have tk : Takes (cxOf (L2.CX P w) P w K mg base ["_law_box_here", "_law_term_here", "_law_k", "_law_row"] "_law_great" (defScope s__law_great) A.a__law_great cdv Ar outer s H E) (fun c d _ H => E c d H) := takes_of rfl rfl rfl rfl
  exact (mss_cons (ms_s (i := 1) (hx := Or.inl (by kernel_rfl)) (hf := Or.inr (by kernel_rfl)) sc__law_great.nd (me_call (ok__law_leaf T n) (hr.mono (by decide)) (gl_of (by kernel_rfl)) T.m__law_leaf T.f__law_leaf.kp T.b__law_leaf tk (ma_cons (me_var 0 (hv := Or.inr (Or.inl (by kernel_rfl)))) (ma_cons (me_str [110] (by decide +kernel)) ma_nil)) (aLen_cons (aLen_cons aLen_nil))))
  (mss_cons (ms_for (passes_of rfl) rfl (mi_range1 (gl_of (by kernel_rfl)) T.z_range (ma_cons (me_call (ok__law_take T n) (hr.mono (by decide)) (gl_of (by kernel_rfl)) T.m__law_take T.f__law_take.kp T.b__law_take tk (ma_cons (me_var 0 (hv := Or.inr (Or.inl (by kernel_rfl)))) (ma_cons me_int ma_nil)) (aLen_cons (aLen_cons aLen_nil))) ma_nil)) (mg_n (i := 2) (hx := Or.inl (by kernel_rfl)) (hf := Or.inr (by kernel_rfl)) sc__law_great.nd) (mss_one (ms_s (i := 1) (hx := Or.inl (by kernel_rfl)) (hf := Or.inr (by kernel_rfl)) sc__law_great.nd (me_tup (ma_cons (me_str [99, 111, 112, 121] (by decide +kernel)) (ma_cons (me_var 1 (hv := Or.inl (by kernel_rfl))) ma_nil))))))
  (mss_cons (ms_if (mt_eq hr.units (me_call (ok__law_take T n) (hr.mono (by decide)) (gl_of (by kernel_rfl)) T.m__law_take T.f__law_take.kp T.b__law_take tk (ma_cons (me_var 0 (hv := Or.inr (Or.inl (by kernel_rfl)))) (ma_cons me_int ma_nil)) (aLen_cons (aLen_cons aLen_nil))) me_int) (mss_one (ms_ret (me_var 1 (hv := Or.inl (by kernel_rfl))))) mss_nil)
  (mss_cons (ms_s (i := 3) (hx := Or.inl (by kernel_rfl)) (hf := Or.inr (by kernel_rfl)) sc__law_great.nd (me_add (me_tup (ma_cons (me_str [109, 97, 107, 101] (by decide +kernel)) ma_nil)) (me_tupleOf (gl_of (by kernel_rfl)) T.z_tuple (ma_cons (me_lc (own := [("_law_k", 2)]) rfl sc__law_great.nd (mi_range1 (gl_of (by kernel_rfl)) T.z_range (ma_cons (me_call (ok__law_take T n) (hr.mono (by decide)) (gl_of (by kernel_rfl)) T.m__law_take T.f__law_take.kp T.b__law_take tk (ma_cons (me_var 0 (hv := Or.inr (Or.inl (by kernel_rfl)))) (ma_cons me_int ma_nil)) (aLen_cons (aLen_cons aLen_nil))) ma_nil)) (blkOk_by (by kernel_rfl)) (tgo_name (by decide)) lcV_end (fun _ _ _ _ _ => (pg_n (i := 2) (hx := Or.inl (by kernel_rfl)) (hf := Or.inr (by kernel_rfl)) sc__law_great.nd)) (fun _ _ _ _ _ => mts_nil) (fun _ _ _ _ _ => (me_call (ok__law_term T n 20) (hr.mono (by decide)) (gl_of (by kernel_rfl)) T.m__law_term T.f__law_term.kp T.b__law_term takes0 (ma_cons (me_var 0 (hv := Or.inr (Or.inl (by kernel_rfl)))) (ma_cons (me_str [110] (by decide +kernel)) (ma_cons me_int ma_nil))) (aLen_cons (aLen_cons (aLen_cons aLen_nil)))))) ma_nil))))
  (mss_one (ms_ret (me_tup (ma_cons (me_str [97, 116] (by decide +kernel)) (ma_cons (me_tup (ma_cons (me_str [112, 117, 116] (by decide +kernel)) (ma_cons (me_var 3 (hv := Or.inl (by kernel_rfl))) (ma_cons (me_tup (ma_cons (me_str [115, 105, 122, 101] (by decide +kernel)) (ma_cons (me_var 3 (hv := Or.inl (by kernel_rfl))) ma_nil))) (ma_cons (me_call (ok__law_term T n 20) (hr.mono (by decide)) (gl_of (by kernel_rfl)) T.m__law_term T.f__law_term.kp T.b__law_term tk (ma_cons (me_var 0 (hv := Or.inr (Or.inl (by kernel_rfl)))) (ma_cons (me_str [110] (by decide +kernel)) (ma_cons me_int ma_nil))) (aLen_cons (aLen_cons (aLen_cons aLen_nil)))) ma_nil))))) (ma_cons (me_var 1 (hv := Or.inl (by kernel_rfl))) ma_nil))))))))))
theorem sc__law_kind : FnScope ["_law_term_here", "_law_kinds", "_law_more", "_law_figures", "_law_good", "_law_due", "_law_sign", "_law_one"] ["_law_term_here"] (defScope s__law_kind) := ⟨by kernel_rfl, by kernel_rfl, by kernel_rfl, by decide +kernel, by kernel_rfl, by decide +kernel, by decide +kernel⟩
set_option maxHeartbeats 4000000 in
theorem st__law_kind (T : Txt w K mg A) (n d : Nat) (rc__law_kind : FnOk P w K mg base (L2.CX P w) (0 + d) A.a__law_kind A.d__law_kind ["_law_term_here"] (spM ⟨w, K⟩ (F__law_kind n d) 1)) : FnOk P w K mg base (L2.CX P w) (0 + (d + 1)) A.a__law_kind A.d__law_kind ["_law_term_here"] (spM ⟨w, K⟩ (F__law_kind n (d + 1)) 1) :=
  def_okF ["_law_term_here", "_law_kinds", "_law_more", "_law_figures", "_law_good", "_law_due", "_law_sign", "_law_one"] ["_law_term_here"] (b__law_kind n (F__law_kind n d)) (k := 0 + d) (kk := 8) (nn := 1) (g := F__law_kind n (d + 1)) (by unfold F__law_kind; first | rfl | rw [G__law_kind]) (by kernel_rfl) (by kernel_rfl) T.f__law_kind sc__law_kind fun cdv Ar outer s H E hr => by
  have hu := hr.units
  have tk : Takes (cxOf (L2.CX P w) P w K mg base ["_law_term_here", "_law_kinds", "_law_more", "_law_figures", "_law_good", "_law_due", "_law_sign", "_law_one"] "_law_kind" (defScope s__law_kind) A.a__law_kind cdv Ar outer s H E) (fun c d _ H => E c d H) := takes_of rfl rfl rfl rfl
  exact (mss_cons (ms_s (i := 1) (hx := Or.inl (by kernel_rfl)) (hf := Or.inr (by kernel_rfl)) sc__law_kind.nd (me_dict (mps_cons (me_str [97, 100, 100] (by decide +kernel)) (me_str [110, 110, 110] (by decide +kernel)) (mps_cons (me_str [115, 117, 98] (by decide +kernel)) (me_str [110, 110, 110] (by decide +kernel)) (mps_cons (me_str [109, 117, 108] (by decide +kernel)) (me_str [110, 110, 110] (by decide +kernel)) (mps_cons (me_str [100, 105, 118] (by decide +kernel)) (me_str [110, 110, 110] (by decide +kernel)) (mps_cons (me_str [114, 101, 115, 116] (by decide +kernel)) (me_str [110, 110, 110] (by decide +kernel)) (mps_cons (me_str [108, 101, 115, 115] (by decide +kernel)) (me_str [110, 110, 110] (by decide +kernel)) (mps_cons (me_str [115, 97, 109, 101] (by decide +kernel)) (me_str [110, 110, 110] (by decide +kernel)) mps_nil)))))))))
  (mss_cons (ms_s (i := 2) (hx := Or.inl (by kernel_rfl)) (hf := Or.inr (by kernel_rfl)) sc__law_kind.nd (me_dict (mps_cons (me_str [112, 105, 99, 107] (by decide +kernel)) (me_str [110, 110, 110, 110] (by decide +kernel)) (mps_cons (me_str [99, 111, 112, 121] (by decide +kernel)) (me_str [110, 110] (by decide +kernel)) (mps_cons (me_str [97, 116] (by decide +kernel)) (me_str [110, 114, 110] (by decide +kernel)) (mps_cons (me_str [115, 105, 122, 101] (by decide +kernel)) (me_str [110, 114] (by decide +kernel)) (mps_cons (me_str [112, 117, 116] (by decide +kernel)) (me_str [114, 114, 110, 110] (by decide +kernel)) (mps_cons (me_str [109, 97, 110, 121] (by decide +kernel)) (me_str [114, 110, 110] (by decide +kernel)) (mps_cons (me_str [107, 101, 101, 112] (by decide +kernel)) (me_str [114, 114] (by decide +kernel)) mps_nil)))))))))
  (mss_cons (ms_if (mt_val (me_isinst (gl_of (by kernel_rfl)) T.z_isinstance (ma_cons (me_var 0 (hv := Or.inl (by kernel_rfl))) (ma_cons (me_ty (gl_of (by kernel_rfl)) T.z_int (by decide +kernel)) ma_nil)))) (mss_one (ms_ret (me_ifExp (mt_of (mw_and (mt_not (mt_val (me_isinst (gl_of (by kernel_rfl)) T.z_isinstance (ma_cons (me_var 0 (hv := Or.inl (by kernel_rfl))) (ma_cons (me_ty (gl_of (by kernel_rfl)) T.z_bool (by decide +kernel)) ma_nil))))) (mw_and1 (mt_chain op_le (t_cmpI _) op_le (t_cmpI _) (me_neg me_int) (me_var 0 (hv := Or.inl (by kernel_rfl))) me_int)))) (me_str [110] (by decide +kernel)) (me_str [] (by decide +kernel))))) mss_nil)
  (mss_cons (ms_if (mt_of (mw_or (mt_not (mt_val (me_isinst (gl_of (by kernel_rfl)) T.z_isinstance (ma_cons (me_var 0 (hv := Or.inl (by kernel_rfl))) (ma_cons (me_ty (gl_of (by kernel_rfl)) T.z_tuple (by decide +kernel)) ma_nil))))) (mw_or1 (mt_eq hr.units (me_var 0 (hv := Or.inl (by kernel_rfl))) (me_tup ma_nil))))) (mss_one (ms_ret (me_str [] (by decide +kernel)))) mss_nil)
  (mss_cons (ms_if (mt_of (mw_and (mt_eq hr.units (me_len (gl_of (by kernel_rfl)) T.z_len (ma_cons (me_var 0 (hv := Or.inl (by kernel_rfl))) ma_nil)) me_int) (mw_and (mt_val (me_isinst (gl_of (by kernel_rfl)) T.z_isinstance (ma_cons (me_sub_ix hu (me_var 0 (hv := Or.inl (by kernel_rfl))) me_int (fun _ _ => by kernel_rfl)) (ma_cons (me_ty (gl_of (by kernel_rfl)) T.z_int (by decide +kernel)) ma_nil)))) (mw_and1 (mt_val (me_isinst (gl_of (by kernel_rfl)) T.z_isinstance (ma_cons (me_sub_ix hu (me_var 0 (hv := Or.inl (by kernel_rfl))) me_int (fun _ _ => by kernel_rfl)) (ma_cons (me_ty (gl_of (by kernel_rfl)) T.z_str (by decide +kernel)) ma_nil)))))))) (mss_cons (ms_s (i := 3) (hx := Or.inl (by kernel_rfl)) (hf := Or.inr (by kernel_rfl)) sc__law_kind.nd (me_slice (me_sub_ix hu (me_var 0 (hv := Or.inl (by kernel_rfl))) me_int (fun _ _ => by kernel_rfl)) (mo_some me_int) mo_none))
  (mss_cons (ms_s (i := 4) (hx := Or.inl (by kernel_rfl)) (hf := Or.inr (by kernel_rfl)) sc__law_kind.nd (me_and (me_not (me_isinst (gl_of (by kernel_rfl)) T.z_isinstance (ma_cons (me_sub_ix hu (me_var 0 (hv := Or.inl (by kernel_rfl))) me_int (fun _ _ => by kernel_rfl)) (ma_cons (me_ty (gl_of (by kernel_rfl)) T.z_bool (by decide +kernel)) ma_nil)))) (me_and (me_ge (me_sub_ix hu (me_var 0 (hv := Or.inl (by kernel_rfl))) me_int (fun _ _ => by kernel_rfl)) me_int) (me_and (me_in hu (me_slice (me_sub_ix hu (me_var 0 (hv := Or.inl (by kernel_rfl))) me_int (fun _ _ => by kernel_rfl)) mo_none (mo_some me_int)) (me_tup (ma_cons (me_str [110] (by decide +kernel)) (ma_cons (me_str [114] (by decide +kernel)) ma_nil))) (by kernel_rfl)) (me_one (me_chain op_lt (t_cmpI _) op_lt (t_cmpI _) me_int (me_len (gl_of (by kernel_rfl)) T.z_len (ma_cons (me_var 3 (hv := Or.inl (by kernel_rfl))) ma_nil)) me_int))))))
  (mss_cons (ms_s (i := 4) (hx := Or.inl (by kernel_rfl)) (hf := Or.inr (by kernel_rfl)) sc__law_kind.nd (me_and (me_var 4 (hv := Or.inl (by kernel_rfl))) (me_one (me_eq hr.units (me_lcA (own := [("_law_sign", 6)]) rfl sc__law_kind.nd (mig_any (me_var 3 (hv := Or.inl (by kernel_rfl)))) (blkOk_by (by kernel_rfl)) (tgo_name (by decide)) lcV_end (fun _ _ _ _ _ => (pg_n (i := 6) (hx := Or.inl (by kernel_rfl)) (hf := Or.inr (by kernel_rfl)) sc__law_kind.nd)) (fun _ _ _ _ _ => (mts_one (mt_notin hu (me_var 6 (hv := Or.inl (by kernel_rfl))) (me_str [48, 49, 50, 51, 52, 53, 54, 55, 56, 57] (by decide +kernel)) (by kernel_rfl)))) (fun _ _ _ _ _ => (me_var 6 (hv := Or.inl (by kernel_rfl))))) (me_lst ma_nil)))))
  (mss_one (ms_ret (me_ifExp (mt_of (mw_and (mt_val (me_var 4 (hv := Or.inl (by kernel_rfl)))) (mw_and1 (mt_of (mw_or (mt_ne hr.units (me_sub_ix hu (me_var 3 (hv := Or.inl (by kernel_rfl))) me_int (fun _ _ => by kernel_rfl)) (me_str [48] (by decide +kernel))) (mw_or1 (mt_eq hr.units (me_var 3 (hv := Or.inl (by kernel_rfl))) (me_str [48] (by decide +kernel))))))))) (me_sub_ix hu (me_sub_ix hu (me_var 0 (hv := Or.inl (by kernel_rfl))) me_int (fun _ _ => by kernel_rfl)) me_int (fun _ _ => by kernel_rfl)) (me_str [] (by decide +kernel)))))))) mss_nil)
  (mss_cons (ms_if (mt_not (mt_val (me_isinst (gl_of (by kernel_rfl)) T.z_isinstance (ma_cons (me_sub_ix hu (me_var 0 (hv := Or.inl (by kernel_rfl))) me_int (fun _ _ => by kernel_rfl)) (ma_cons (me_ty (gl_of (by kernel_rfl)) T.z_str (by decide +kernel)) ma_nil))))) (mss_one (ms_ret (me_str [] (by decide +kernel)))) mss_nil)
  (mss_cons (ms_s (i := 5) (hx := Or.inl (by kernel_rfl)) (hf := Or.inr (by kernel_rfl)) sc__law_kind.nd (me_get2 hu (me_var 1 (hv := Or.inl (by kernel_rfl))) (me_sub_ix hu (me_var 0 (hv := Or.inl (by kernel_rfl))) me_int (fun _ _ => by kernel_rfl)) (me_get2 hu (me_var 2 (hv := Or.inl (by kernel_rfl))) (me_sub_ix hu (me_var 0 (hv := Or.inl (by kernel_rfl))) me_int (fun _ _ => by kernel_rfl)) (me_str [] (by decide +kernel)))))
  (mss_cons (ms_if (mt_of (mw_and (mt_eq hr.units (me_sub_ix hu (me_var 0 (hv := Or.inl (by kernel_rfl))) me_int (fun _ _ => by kernel_rfl)) (me_str [109, 97, 107, 101] (by decide +kernel))) (mw_and1 (mt_lt (me_len (gl_of (by kernel_rfl)) T.z_len (ma_cons (me_var 0 (hv := Or.inl (by kernel_rfl))) ma_nil)) me_int)))) (mss_one (ms_s (i := 5) (hx := Or.inl (by kernel_rfl)) (hf := Or.inr (by kernel_rfl)) sc__law_kind.nd (me_add (me_str [114] (by decide +kernel)) (me_mulS (me_str [110] (by decide +kernel)) (me_sub (me_len (gl_of (by kernel_rfl)) T.z_len (ma_cons (me_var 0 (hv := Or.inl (by kernel_rfl))) ma_nil)) me_int))))) mss_nil)
  (mss_cons (ms_if (mt_of (mw_or (mt_eq hr.units (me_var 5 (hv := Or.inl (by kernel_rfl))) (me_str [] (by decide +kernel))) (mw_or1 (mt_ne hr.units (me_lcA (own := [("_law_one", 7)]) rfl sc__law_kind.nd (mig_any (me_slice (me_var 0 (hv := Or.inl (by kernel_rfl))) (mo_some me_int) mo_none)) (blkOk_by (by kernel_rfl)) (tgo_name (by decide)) lcV_end (fun _ _ _ _ _ => (pg_n (i := 7) (hx := Or.inl (by kernel_rfl)) (hf := Or.inr (by kernel_rfl)) sc__law_kind.nd)) (fun _ _ _ _ _ => mts_nil) (fun _ _ _ _ _ => (me_call (rc__law_kind) (hr.mono (by omega)) (gl_of (by kernel_rfl)) T.m__law_kind T.f__law_kind.kp T.b__law_kind takes0 (ma_cons (me_var 7 (hv := Or.inl (by kernel_rfl))) ma_nil) (aLen_cons aLen_nil)))) (me_listA rfl (gl_of (by kernel_rfl)) T.z_list (ma_cons (me_slice (me_var 5 (hv := Or.inl (by kernel_rfl))) (mo_some me_int) mo_none) ma_nil)))))) (mss_one (ms_ret (me_str [] (by decide +kernel)))) mss_nil)
  (mss_one (ms_ret (me_sub_ix hu (me_var 5 (hv := Or.inl (by kernel_rfl))) me_int (fun _ _ => by kernel_rfl)))))))))))))
theorem all__law_kind (T : Txt w K mg A) (n : Nat) : ∀ d : Nat, FnOk P w K mg base (L2.CX P w) (0 + d) A.a__law_kind A.d__law_kind ["_law_term_here"] (spM ⟨w, K⟩ (F__law_kind n d) 1)
  | 0 => (by unfold F__law_kind; first | exact fnOk_no | (rw [G__law_kind]; exact fnOk_no))
  | d + 1 => st__law_kind T n d (all__law_kind T n d)
theorem ok__law_kind (T : Txt w K mg A) (n d : Nat) : FnOk P w K mg base (L2.CX P w) (0 + d) A.a__law_kind A.d__law_kind ["_law_term_here"] (spM ⟨w, K⟩ (F__law_kind n d) 1) := (all__law_kind T n d)
theorem sc__law_deep : FnScope ["_law_term_here", "_law_one"] ["_law_term_here"] (defScope s__law_deep) := ⟨by kernel_rfl, by kernel_rfl, by kernel_rfl, by decide +kernel, by kernel_rfl, by decide +kernel, by decide +kernel⟩
set_option maxHeartbeats 4000000 in
theorem st__law_deep (T : Txt w K mg A) (n d : Nat) (rc__law_deep : FnOk P w K mg base (L2.CX P w) (0 + d) A.a__law_deep A.d__law_deep ["_law_term_here"] (spM ⟨w, K⟩ (F__law_deep n d) 1)) : FnOk P w K mg base (L2.CX P w) (0 + (d + 1)) A.a__law_deep A.d__law_deep ["_law_term_here"] (spM ⟨w, K⟩ (F__law_deep n (d + 1)) 1) :=
  def_okF ["_law_term_here", "_law_one"] ["_law_term_here"] (b__law_deep n (F__law_deep n d)) (k := 0 + d) (kk := 2) (nn := 1) (g := F__law_deep n (d + 1)) (by unfold F__law_deep; first | rfl | rw [G__law_deep]) (by kernel_rfl) (by kernel_rfl) T.f__law_deep sc__law_deep fun cdv Ar outer s H E hr => by
  have hu := hr.units
  have tk : Takes (cxOf (L2.CX P w) P w K mg base ["_law_term_here", "_law_one"] "_law_deep" (defScope s__law_deep) A.a__law_deep cdv Ar outer s H E) (fun c d _ H => E c d H) := takes_of rfl rfl rfl rfl
  exact (mss_cons (ms_if (mt_of (mw_or (mt_not (mt_val (me_isinst (gl_of (by kernel_rfl)) T.z_isinstance (ma_cons (me_var 0 (hv := Or.inl (by kernel_rfl))) (ma_cons (me_ty (gl_of (by kernel_rfl)) T.z_tuple (by decide +kernel)) ma_nil))))) (mw_or (mt_eq hr.units (me_var 0 (hv := Or.inl (by kernel_rfl))) (me_tup ma_nil)) (mw_or1 (mt_not (mt_val (me_isinst (gl_of (by kernel_rfl)) T.z_isinstance (ma_cons (me_sub_ix hu (me_var 0 (hv := Or.inl (by kernel_rfl))) me_int (fun _ _ => by kernel_rfl)) (ma_cons (me_ty (gl_of (by kernel_rfl)) T.z_str (by decide +kernel)) ma_nil))))))))) (mss_one (ms_ret me_int)) mss_nil)
  (mss_one (ms_ret (me_add me_int (me_maxL rfl (gl_of (by kernel_rfl)) T.z_max (ma_cons (me_add (me_lst (ma_cons me_int ma_nil)) (me_lcA (own := [("_law_one", 1)]) rfl sc__law_deep.nd (mig_any (me_slice (me_var 0 (hv := Or.inl (by kernel_rfl))) (mo_some me_int) mo_none)) (blkOk_by (by kernel_rfl)) (tgo_name (by decide)) lcV_end (fun _ _ _ _ _ => (pg_n (i := 1) (hx := Or.inl (by kernel_rfl)) (hf := Or.inr (by kernel_rfl)) sc__law_deep.nd)) (fun _ _ _ _ _ => mts_nil) (fun _ _ _ _ _ => (me_call (rc__law_deep) (hr.mono (by omega)) (gl_of (by kernel_rfl)) T.m__law_deep T.f__law_deep.kp T.b__law_deep takes0 (ma_cons (me_var 1 (hv := Or.inl (by kernel_rfl))) ma_nil) (aLen_cons aLen_nil))))) ma_nil))))))
theorem all__law_deep (T : Txt w K mg A) (n : Nat) : ∀ d : Nat, FnOk P w K mg base (L2.CX P w) (0 + d) A.a__law_deep A.d__law_deep ["_law_term_here"] (spM ⟨w, K⟩ (F__law_deep n d) 1)
  | 0 => (by unfold F__law_deep; first | exact fnOk_no | (rw [G__law_deep]; exact fnOk_no))
  | d + 1 => st__law_deep T n d (all__law_deep T n d)
theorem ok__law_deep (T : Txt w K mg A) (n d : Nat) : FnOk P w K mg base (L2.CX P w) (0 + d) A.a__law_deep A.d__law_deep ["_law_term_here"] (spM ⟨w, K⟩ (F__law_deep n d) 1) := (all__law_deep T n d)
theorem sc__law_parts : FnScope ["_law_term_here", "_law_one"] ["_law_term_here"] (defScope s__law_parts) := ⟨by kernel_rfl, by kernel_rfl, by kernel_rfl, by decide +kernel, by kernel_rfl, by decide +kernel, by decide +kernel⟩
set_option maxHeartbeats 4000000 in
theorem st__law_parts (T : Txt w K mg A) (n d : Nat) (rc__law_parts : FnOk P w K mg base (L2.CX P w) (0 + d) A.a__law_parts A.d__law_parts ["_law_term_here"] (spM ⟨w, K⟩ (F__law_parts n d) 1)) : FnOk P w K mg base (L2.CX P w) (0 + (d + 1)) A.a__law_parts A.d__law_parts ["_law_term_here"] (spM ⟨w, K⟩ (F__law_parts n (d + 1)) 1) :=
  def_okF ["_law_term_here", "_law_one"] ["_law_term_here"] (b__law_parts n (F__law_parts n d)) (k := 0 + d) (kk := 2) (nn := 1) (g := F__law_parts n (d + 1)) (by unfold F__law_parts; first | rfl | rw [G__law_parts]) (by kernel_rfl) (by kernel_rfl) T.f__law_parts sc__law_parts fun cdv Ar outer s H E hr => by
  have hu := hr.units
  have tk : Takes (cxOf (L2.CX P w) P w K mg base ["_law_term_here", "_law_one"] "_law_parts" (defScope s__law_parts) A.a__law_parts cdv Ar outer s H E) (fun c d _ H => E c d H) := takes_of rfl rfl rfl rfl
  exact (mss_cons (ms_if (mt_of (mw_or (mt_not (mt_val (me_isinst (gl_of (by kernel_rfl)) T.z_isinstance (ma_cons (me_var 0 (hv := Or.inl (by kernel_rfl))) (ma_cons (me_ty (gl_of (by kernel_rfl)) T.z_tuple (by decide +kernel)) ma_nil))))) (mw_or (mt_eq hr.units (me_var 0 (hv := Or.inl (by kernel_rfl))) (me_tup ma_nil)) (mw_or1 (mt_not (mt_val (me_isinst (gl_of (by kernel_rfl)) T.z_isinstance (ma_cons (me_sub_ix hu (me_var 0 (hv := Or.inl (by kernel_rfl))) me_int (fun _ _ => by kernel_rfl)) (ma_cons (me_ty (gl_of (by kernel_rfl)) T.z_str (by decide +kernel)) ma_nil))))))))) (mss_one (ms_ret me_int)) mss_nil)
  (mss_one (ms_ret (me_add me_int (me_sum rfl (gl_of (by kernel_rfl)) T.z_sum (ma_cons (me_lcA (own := [("_law_one", 1)]) rfl sc__law_parts.nd (mig_any (me_slice (me_var 0 (hv := Or.inl (by kernel_rfl))) (mo_some me_int) mo_none)) (blkOk_by (by kernel_rfl)) (tgo_name (by decide)) lcV_end (fun _ _ _ _ _ => (pg_n (i := 1) (hx := Or.inl (by kernel_rfl)) (hf := Or.inr (by kernel_rfl)) sc__law_parts.nd)) (fun _ _ _ _ _ => mts_nil) (fun _ _ _ _ _ => (me_call (rc__law_parts) (hr.mono (by omega)) (gl_of (by kernel_rfl)) T.m__law_parts T.f__law_parts.kp T.b__law_parts takes0 (ma_cons (me_var 1 (hv := Or.inl (by kernel_rfl))) ma_nil) (aLen_cons aLen_nil)))) ma_nil))))))
theorem all__law_parts (T : Txt w K mg A) (n : Nat) : ∀ d : Nat, FnOk P w K mg base (L2.CX P w) (0 + d) A.a__law_parts A.d__law_parts ["_law_term_here"] (spM ⟨w, K⟩ (F__law_parts n d) 1)
  | 0 => (by unfold F__law_parts; first | exact fnOk_no | (rw [G__law_parts]; exact fnOk_no))
  | d + 1 => st__law_parts T n d (all__law_parts T n d)
theorem ok__law_parts (T : Txt w K mg A) (n d : Nat) : FnOk P w K mg base (L2.CX P w) (0 + d) A.a__law_parts A.d__law_parts ["_law_term_here"] (spM ⟨w, K⟩ (F__law_parts n d) 1) := (all__law_parts T n d)
theorem sc_law : FnScope ["_law_script", "_law_cell", "_law_box_here", "_law_term_here", "_law_due", "_law_found"] ["_law_script"] (defScope s_law) := ⟨by kernel_rfl, by kernel_rfl, by kernel_rfl, by decide +kernel, by kernel_rfl, by decide +kernel, by decide +kernel⟩
set_option maxHeartbeats 4000000 in
theorem ok_law (T : Txt w K mg A) (n : Nat) : FnOk P w K mg base (L2.CX P w) 25 A.a_law A.d_law ["_law_script"] (spM ⟨w, K⟩ (F_law n) 1) :=
  def_okF ["_law_script", "_law_cell", "_law_box_here", "_law_term_here", "_law_due", "_law_found"] ["_law_script"] (b_law n) (k := 24) (kk := 6) (nn := 1) (g := F_law n) (by kernel_rfl) (by kernel_rfl) (by kernel_rfl) T.f_law sc_law fun cdv Ar outer s H E hr => by
  have hu := hr.units
  have tk : Takes (cxOf (L2.CX P w) P w K mg base ["_law_script", "_law_cell", "_law_box_here", "_law_term_here", "_law_due", "_law_found"] "law" (defScope s_law) A.a_law cdv Ar outer s H E) (fun c d _ H => E c d H) := takes_of rfl rfl rfl rfl
  exact (mss_cons (ms_forA (passes_of rfl) rfl (mig_any (me_add (me_lst (ma_cons (me_call (ok__law_cell_at T n) (hr.mono (by decide)) (gl_of (by kernel_rfl)) T.m__law_cell_at T.f__law_cell_at.kp T.b__law_cell_at tk (ma_cons (me_var 0 (hv := Or.inl (by kernel_rfl))) (ma_cons me_int ma_nil)) (aLen_cons (aLen_cons aLen_nil))) ma_nil)) (me_slice (me_var 0 (hv := Or.inl (by kernel_rfl))) (mo_some me_int) (mo_some me_int)))) (mg_n (i := 1) (hx := Or.inl (by kernel_rfl)) (hf := Or.inr (by kernel_rfl)) sc_law.nd) (mss_cons (ms_s (i := 2) (hx := Or.inl (by kernel_rfl)) (hf := Or.inr (by kernel_rfl)) sc_law.nd (me_call (ok__law_box T n) (hr.mono (by decide)) (gl_of (by kernel_rfl)) T.m__law_box T.f__law_box.kp T.b__law_box tk (ma_cons (me_var 1 (hv := Or.inl (by kernel_rfl))) ma_nil) (aLen_cons aLen_nil)))
  (mss_cons (ms_s (i := 3) (hx := Or.inl (by kernel_rfl)) (hf := Or.inr (by kernel_rfl)) sc_law.nd (me_ifExp (mt_eq hr.units (me_call (ok__law_take T n) (hr.mono (by decide)) (gl_of (by kernel_rfl)) T.m__law_take T.f__law_take.kp T.b__law_take tk (ma_cons (me_var 2 (hv := Or.inl (by kernel_rfl))) (ma_cons me_int ma_nil)) (aLen_cons (aLen_cons aLen_nil))) me_int) (me_call (ok__law_great T n) (hr.mono (by decide)) (gl_of (by kernel_rfl)) T.m__law_great T.f__law_great.kp T.b__law_great tk (ma_cons (me_var 2 (hv := Or.inl (by kernel_rfl))) ma_nil) (aLen_cons aLen_nil)) (me_call (ok__law_term T n 20) (hr.mono (by decide)) (gl_of (by kernel_rfl)) T.m__law_term T.f__law_term.kp T.b__law_term tk (ma_cons (me_var 2 (hv := Or.inl (by kernel_rfl))) (ma_cons (me_sub_ix hu (me_str [110, 114] (by decide +kernel)) (me_call (ok__law_take T n) (hr.mono (by decide)) (gl_of (by kernel_rfl)) T.m__law_take T.f__law_take.kp T.b__law_take tk (ma_cons (me_var 2 (hv := Or.inl (by kernel_rfl))) (ma_cons me_int ma_nil)) (aLen_cons (aLen_cons aLen_nil))) (fun _ _ => by kernel_rfl)) (ma_cons me_int ma_nil))) (aLen_cons (aLen_cons (aLen_cons aLen_nil))))))
  (mss_cons (ms_if (mt_eq hr.units (me_call (ok__law_take T n) (hr.mono (by decide)) (gl_of (by kernel_rfl)) T.m__law_take T.f__law_take.kp T.b__law_take tk (ma_cons (me_var 2 (hv := Or.inl (by kernel_rfl))) (ma_cons me_int ma_nil)) (aLen_cons (aLen_cons aLen_nil))) me_int) (mss_one (ms_s (i := 3) (hx := Or.inl (by kernel_rfl)) (hf := Or.inr (by kernel_rfl)) sc_law.nd (me_call (ok__law_bent T n 20) (hr.mono (by decide)) (gl_of (by kernel_rfl)) T.m__law_bent T.f__law_bent.kp T.b__law_bent tk (ma_cons (me_var 2 (hv := Or.inl (by kernel_rfl))) (ma_cons (me_var 3 (hv := Or.inl (by kernel_rfl))) ma_nil)) (aLen_cons (aLen_cons aLen_nil))))) mss_nil)
  (mss_cons (ms_s (i := 4) (hx := Or.inl (by kernel_rfl)) (hf := Or.inr (by kernel_rfl)) sc_law.nd (me_call (ok__law_kind T n 20) (hr.mono (by decide)) (gl_of (by kernel_rfl)) T.m__law_kind T.f__law_kind.kp T.b__law_kind tk (ma_cons (me_var 3 (hv := Or.inl (by kernel_rfl))) ma_nil) (aLen_cons aLen_nil)))
  (mss_cons (ms_if (mt_of (mw_or (mt_gt (me_call (ok__law_deep T n 20) (hr.mono (by decide)) (gl_of (by kernel_rfl)) T.m__law_deep T.f__law_deep.kp T.b__law_deep tk (ma_cons (me_var 3 (hv := Or.inl (by kernel_rfl))) ma_nil) (aLen_cons aLen_nil)) me_int) (mw_or1 (mt_gt (me_call (ok__law_parts T n 20) (hr.mono (by decide)) (gl_of (by kernel_rfl)) T.m__law_parts T.f__law_parts.kp T.b__law_parts tk (ma_cons (me_var 3 (hv := Or.inl (by kernel_rfl))) ma_nil) (aLen_cons aLen_nil)) me_int)))) (mss_one (ms_s (i := 4) (hx := Or.inl (by kernel_rfl)) (hf := Or.inr (by kernel_rfl)) sc_law.nd (me_str [] (by decide +kernel)))) mss_nil)
  (mss_cons (ms_s (i := 5) (hx := Or.inl (by kernel_rfl)) (hf := Or.inr (by kernel_rfl)) sc_law.nd (me_call (ok_kind_of_term T n) (hr.mono (by decide)) (gl_of (by kernel_rfl)) T.m_kind_of_term T.f_kind_of_term.kp T.b_kind_of_term tk (ma_cons (me_var 3 (hv := Or.inl (by kernel_rfl))) ma_nil) (aLen_cons aLen_nil)))
  (mss_one (ms_if (mt_of (mw_or (mt_of (mw_and (mt_eq hr.units (me_var 4 (hv := Or.inl (by kernel_rfl))) (me_str [] (by decide +kernel))) (mw_and1 (mt_isnot (me_var 5 (hv := Or.inl (by kernel_rfl))) me_non)))) (mw_or1 (mt_of (mw_and (mt_ne hr.units (me_var 4 (hv := Or.inl (by kernel_rfl))) (me_str [] (by decide +kernel))) (mw_and1 (mt_ne hr.units (me_var 5 (hv := Or.inl (by kernel_rfl))) (me_var 4 (hv := Or.inl (by kernel_rfl)))))))))) (mss_one (ms_ret me_bl)) mss_nil)))))))))
  (mss_one (ms_ret me_bl)))
end
set_option maxHeartbeats 8000000 in
theorem all_mk {l : PySem.W.OpenLaw} {w : World} {K : PySem.W.Frag} {h : Heap} {mg : Str → Option Value} {fa f_kinds_of f_all_of f_kind_of f_is_number f_is_named f_kind_within f_kind_of_term f__law_cell_at f__law_box f__law_take f__law_number f__law_leaf f__law_term f__law_bent f__law_great f__law_kind f__law_deep f__law_parts f_law : Addr} (X : K.In h) (G : h.Ns mainGlobals mg) (hfa : mg "law" = some (.ref fa))
    {od_kinds_of an_kinds_of od_all_of an_all_of od_kind_of an_kind_of od_is_number an_is_number od_is_named an_is_named od_kind_within an_kind_within od_kind_of_term an_kind_of_term od__law_cell_at an__law_cell_at od__law_box an__law_box od__law_take an__law_take od__law_number an__law_number od__law_leaf an__law_leaf od__law_term an__law_term od__law_bent an__law_bent od__law_great an__law_great od__law_kind an__law_kind od__law_deep an__law_deep od__law_parts an__law_parts od_law an_law : Option Addr} {sl_kinds_of sl_all_of sl_kind_of sl_is_number sl_is_named sl_kind_within sl_kind_of_term sl__law_cell_at sl__law_box sl__law_take sl__law_number sl__law_leaf sl__law_term sl__law_bent sl__law_great sl__law_kind sl__law_deep sl__law_parts sl_law : Array (Option Value)} {oc_kinds_of kV_kinds_of dc_kinds_of pm_kinds_of cd_kinds_of ct_kinds_of oc_all_of kV_all_of dc_all_of pm_all_of cd_all_of ct_all_of oc_kind_of kV_kind_of dc_kind_of pm_kind_of cd_kind_of ct_kind_of oc_is_number kV_is_number dc_is_number pm_is_number cd_is_number ct_is_number oc_is_named kV_is_named dc_is_named pm_is_named cd_is_named ct_is_named oc_kind_within kV_kind_within dc_kind_within pm_kind_within cd_kind_within ct_kind_within oc_kind_of_term kV_kind_of_term dc_kind_of_term pm_kind_of_term cd_kind_of_term ct_kind_of_term oc__law_cell_at kV__law_cell_at dc__law_cell_at pm__law_cell_at cd__law_cell_at ct__law_cell_at oc__law_box kV__law_box dc__law_box pm__law_box cd__law_box ct__law_box oc__law_take kV__law_take dc__law_take pm__law_take cd__law_take ct__law_take oc__law_number kV__law_number dc__law_number pm__law_number cd__law_number ct__law_number oc__law_leaf kV__law_leaf dc__law_leaf pm__law_leaf cd__law_leaf ct__law_leaf oc__law_term kV__law_term dc__law_term pm__law_term cd__law_term ct__law_term oc__law_bent kV__law_bent dc__law_bent pm__law_bent cd__law_bent ct__law_bent oc__law_great kV__law_great dc__law_great pm__law_great cd__law_great ct__law_great oc__law_kind kV__law_kind dc__law_kind pm__law_kind cd__law_kind ct__law_kind oc__law_deep kV__law_deep dc__law_deep pm__law_deep cd__law_deep ct__law_deep oc__law_parts kV__law_parts dc__law_parts pm__law_parts cd__law_parts ct__law_parts oc_law kV_law dc_law pm_law cd_law ct_law : Value}
    {t_FIGURES t_GREATEST t_LEAST t_MOST_DEEP t_MOST_MADE t_MOST_PARTS : Tok}
    {ad_OPERATIONS : Addr} {es_OPERATIONS : Array DictEntry} {n_OPERATIONS : Nat}
    (a_kinds_of : PySem.W.nsIn K mainGlobals "kinds_of" = some (some (.ref f_kinds_of))) (l_kinds_of : K.lookup f_kinds_of = some ⟨oc_kinds_of, od_kinds_of, .func (PySem.W.fnOf "kinds_of" "kinds_of" (defArgs s_kinds_of) (defBody s_kinds_of) (defScope s_kinds_of) .none kV_kinds_of dc_kinds_of pm_kinds_of an_kinds_of cd_kinds_of ct_kinds_of), sl_kinds_of⟩) (c_kinds_of : PySem.W.codeIn K cd_kinds_of "kinds_of" = true) (k_kinds_of : PySem.W.keepIn K (.ref f_kinds_of) = true)
    (a_all_of : PySem.W.nsIn K mainGlobals "all_of" = some (some (.ref f_all_of))) (l_all_of : K.lookup f_all_of = some ⟨oc_all_of, od_all_of, .func (PySem.W.fnOf "all_of" "all_of" (defArgs s_all_of) (defBody s_all_of) (defScope s_all_of) .none kV_all_of dc_all_of pm_all_of an_all_of cd_all_of ct_all_of), sl_all_of⟩) (c_all_of : PySem.W.codeIn K cd_all_of "all_of" = true) (k_all_of : PySem.W.keepIn K (.ref f_all_of) = true)
    (a_kind_of : PySem.W.nsIn K mainGlobals "kind_of" = some (some (.ref f_kind_of))) (l_kind_of : K.lookup f_kind_of = some ⟨oc_kind_of, od_kind_of, .func (PySem.W.fnOf "kind_of" "kind_of" (defArgs s_kind_of) (defBody s_kind_of) (defScope s_kind_of) .none kV_kind_of dc_kind_of pm_kind_of an_kind_of cd_kind_of ct_kind_of), sl_kind_of⟩) (c_kind_of : PySem.W.codeIn K cd_kind_of "kind_of" = true) (k_kind_of : PySem.W.keepIn K (.ref f_kind_of) = true)
    (a_is_number : PySem.W.nsIn K mainGlobals "is_number" = some (some (.ref f_is_number))) (l_is_number : K.lookup f_is_number = some ⟨oc_is_number, od_is_number, .func (PySem.W.fnOf "is_number" "is_number" (defArgs s_is_number) (defBody s_is_number) (defScope s_is_number) .none kV_is_number dc_is_number pm_is_number an_is_number cd_is_number ct_is_number), sl_is_number⟩) (c_is_number : PySem.W.codeIn K cd_is_number "is_number" = true) (k_is_number : PySem.W.keepIn K (.ref f_is_number) = true)
    (a_is_named : PySem.W.nsIn K mainGlobals "is_named" = some (some (.ref f_is_named))) (l_is_named : K.lookup f_is_named = some ⟨oc_is_named, od_is_named, .func (PySem.W.fnOf "is_named" "is_named" (defArgs s_is_named) (defBody s_is_named) (defScope s_is_named) .none kV_is_named dc_is_named pm_is_named an_is_named cd_is_named ct_is_named), sl_is_named⟩) (c_is_named : PySem.W.codeIn K cd_is_named "is_named" = true) (k_is_named : PySem.W.keepIn K (.ref f_is_named) = true)
    (a_kind_within : PySem.W.nsIn K mainGlobals "kind_within" = some (some (.ref f_kind_within))) (l_kind_within : K.lookup f_kind_within = some ⟨oc_kind_within, od_kind_within, .func (PySem.W.fnOf "kind_within" "kind_within" (defArgs s_kind_within) (defBody s_kind_within) (defScope s_kind_within) .none kV_kind_within dc_kind_within pm_kind_within an_kind_within cd_kind_within ct_kind_within), sl_kind_within⟩) (c_kind_within : PySem.W.codeIn K cd_kind_within "kind_within" = true) (k_kind_within : PySem.W.keepIn K (.ref f_kind_within) = true)
    (a_kind_of_term : PySem.W.nsIn K mainGlobals "kind_of_term" = some (some (.ref f_kind_of_term))) (l_kind_of_term : K.lookup f_kind_of_term = some ⟨oc_kind_of_term, od_kind_of_term, .func (PySem.W.fnOf "kind_of_term" "kind_of_term" (defArgs s_kind_of_term) (defBody s_kind_of_term) (defScope s_kind_of_term) .none kV_kind_of_term dc_kind_of_term pm_kind_of_term an_kind_of_term cd_kind_of_term ct_kind_of_term), sl_kind_of_term⟩) (c_kind_of_term : PySem.W.codeIn K cd_kind_of_term "kind_of_term" = true) (k_kind_of_term : PySem.W.keepIn K (.ref f_kind_of_term) = true)
    (a__law_cell_at : PySem.W.nsIn K mainGlobals "_law_cell_at" = some (some (.ref f__law_cell_at))) (l__law_cell_at : K.lookup f__law_cell_at = some ⟨oc__law_cell_at, od__law_cell_at, .func (PySem.W.fnOf "_law_cell_at" "_law_cell_at" (defArgs s__law_cell_at) (defBody s__law_cell_at) (defScope s__law_cell_at) .none kV__law_cell_at dc__law_cell_at pm__law_cell_at an__law_cell_at cd__law_cell_at ct__law_cell_at), sl__law_cell_at⟩) (c__law_cell_at : PySem.W.codeIn K cd__law_cell_at "_law_cell_at" = true) (k__law_cell_at : PySem.W.keepIn K (.ref f__law_cell_at) = true)
    (a__law_box : PySem.W.nsIn K mainGlobals "_law_box" = some (some (.ref f__law_box))) (l__law_box : K.lookup f__law_box = some ⟨oc__law_box, od__law_box, .func (PySem.W.fnOf "_law_box" "_law_box" (defArgs s__law_box) (defBody s__law_box) (defScope s__law_box) .none kV__law_box dc__law_box pm__law_box an__law_box cd__law_box ct__law_box), sl__law_box⟩) (c__law_box : PySem.W.codeIn K cd__law_box "_law_box" = true) (k__law_box : PySem.W.keepIn K (.ref f__law_box) = true)
    (a__law_take : PySem.W.nsIn K mainGlobals "_law_take" = some (some (.ref f__law_take))) (l__law_take : K.lookup f__law_take = some ⟨oc__law_take, od__law_take, .func (PySem.W.fnOf "_law_take" "_law_take" (defArgs s__law_take) (defBody s__law_take) (defScope s__law_take) .none kV__law_take dc__law_take pm__law_take an__law_take cd__law_take ct__law_take), sl__law_take⟩) (c__law_take : PySem.W.codeIn K cd__law_take "_law_take" = true) (k__law_take : PySem.W.keepIn K (.ref f__law_take) = true)
    (a__law_number : PySem.W.nsIn K mainGlobals "_law_number" = some (some (.ref f__law_number))) (l__law_number : K.lookup f__law_number = some ⟨oc__law_number, od__law_number, .func (PySem.W.fnOf "_law_number" "_law_number" (defArgs s__law_number) (defBody s__law_number) (defScope s__law_number) .none kV__law_number dc__law_number pm__law_number an__law_number cd__law_number ct__law_number), sl__law_number⟩) (c__law_number : PySem.W.codeIn K cd__law_number "_law_number" = true) (k__law_number : PySem.W.keepIn K (.ref f__law_number) = true)
    (a__law_leaf : PySem.W.nsIn K mainGlobals "_law_leaf" = some (some (.ref f__law_leaf))) (l__law_leaf : K.lookup f__law_leaf = some ⟨oc__law_leaf, od__law_leaf, .func (PySem.W.fnOf "_law_leaf" "_law_leaf" (defArgs s__law_leaf) (defBody s__law_leaf) (defScope s__law_leaf) .none kV__law_leaf dc__law_leaf pm__law_leaf an__law_leaf cd__law_leaf ct__law_leaf), sl__law_leaf⟩) (c__law_leaf : PySem.W.codeIn K cd__law_leaf "_law_leaf" = true) (k__law_leaf : PySem.W.keepIn K (.ref f__law_leaf) = true)
    (a__law_term : PySem.W.nsIn K mainGlobals "_law_term" = some (some (.ref f__law_term))) (l__law_term : K.lookup f__law_term = some ⟨oc__law_term, od__law_term, .func (PySem.W.fnOf "_law_term" "_law_term" (defArgs s__law_term) (defBody s__law_term) (defScope s__law_term) .none kV__law_term dc__law_term pm__law_term an__law_term cd__law_term ct__law_term), sl__law_term⟩) (c__law_term : PySem.W.codeIn K cd__law_term "_law_term" = true) (k__law_term : PySem.W.keepIn K (.ref f__law_term) = true)
    (a__law_bent : PySem.W.nsIn K mainGlobals "_law_bent" = some (some (.ref f__law_bent))) (l__law_bent : K.lookup f__law_bent = some ⟨oc__law_bent, od__law_bent, .func (PySem.W.fnOf "_law_bent" "_law_bent" (defArgs s__law_bent) (defBody s__law_bent) (defScope s__law_bent) .none kV__law_bent dc__law_bent pm__law_bent an__law_bent cd__law_bent ct__law_bent), sl__law_bent⟩) (c__law_bent : PySem.W.codeIn K cd__law_bent "_law_bent" = true) (k__law_bent : PySem.W.keepIn K (.ref f__law_bent) = true)
    (a__law_great : PySem.W.nsIn K mainGlobals "_law_great" = some (some (.ref f__law_great))) (l__law_great : K.lookup f__law_great = some ⟨oc__law_great, od__law_great, .func (PySem.W.fnOf "_law_great" "_law_great" (defArgs s__law_great) (defBody s__law_great) (defScope s__law_great) .none kV__law_great dc__law_great pm__law_great an__law_great cd__law_great ct__law_great), sl__law_great⟩) (c__law_great : PySem.W.codeIn K cd__law_great "_law_great" = true) (k__law_great : PySem.W.keepIn K (.ref f__law_great) = true)
    (a__law_kind : PySem.W.nsIn K mainGlobals "_law_kind" = some (some (.ref f__law_kind))) (l__law_kind : K.lookup f__law_kind = some ⟨oc__law_kind, od__law_kind, .func (PySem.W.fnOf "_law_kind" "_law_kind" (defArgs s__law_kind) (defBody s__law_kind) (defScope s__law_kind) .none kV__law_kind dc__law_kind pm__law_kind an__law_kind cd__law_kind ct__law_kind), sl__law_kind⟩) (c__law_kind : PySem.W.codeIn K cd__law_kind "_law_kind" = true) (k__law_kind : PySem.W.keepIn K (.ref f__law_kind) = true)
    (a__law_deep : PySem.W.nsIn K mainGlobals "_law_deep" = some (some (.ref f__law_deep))) (l__law_deep : K.lookup f__law_deep = some ⟨oc__law_deep, od__law_deep, .func (PySem.W.fnOf "_law_deep" "_law_deep" (defArgs s__law_deep) (defBody s__law_deep) (defScope s__law_deep) .none kV__law_deep dc__law_deep pm__law_deep an__law_deep cd__law_deep ct__law_deep), sl__law_deep⟩) (c__law_deep : PySem.W.codeIn K cd__law_deep "_law_deep" = true) (k__law_deep : PySem.W.keepIn K (.ref f__law_deep) = true)
    (a__law_parts : PySem.W.nsIn K mainGlobals "_law_parts" = some (some (.ref f__law_parts))) (l__law_parts : K.lookup f__law_parts = some ⟨oc__law_parts, od__law_parts, .func (PySem.W.fnOf "_law_parts" "_law_parts" (defArgs s__law_parts) (defBody s__law_parts) (defScope s__law_parts) .none kV__law_parts dc__law_parts pm__law_parts an__law_parts cd__law_parts ct__law_parts), sl__law_parts⟩) (c__law_parts : PySem.W.codeIn K cd__law_parts "_law_parts" = true) (k__law_parts : PySem.W.keepIn K (.ref f__law_parts) = true)
    (a_law : PySem.W.nsIn K mainGlobals "law" = some (some (.ref f_law))) (l_law : K.lookup f_law = some ⟨oc_law, od_law, .func (PySem.W.fnOf "law" "law" (defArgs s_law) (defBody s_law) (defScope s_law) .none kV_law dc_law pm_law an_law cd_law ct_law), sl_law⟩) (c_law : PySem.W.codeIn K cd_law "law" = true) (k_law : PySem.W.keepIn K (.ref f_law) = true)
    (z_len : PySem.W.nsIn K mainGlobals "len" = some none)
    (z_isinstance : PySem.W.nsIn K mainGlobals "isinstance" = some none)
    (z_int : PySem.W.nsIn K mainGlobals "int" = some none)
    (z_bool : PySem.W.nsIn K mainGlobals "bool" = some none)
    (z_tuple : PySem.W.nsIn K mainGlobals "tuple" = some none)
    (z_str : PySem.W.nsIn K mainGlobals "str" = some none)
    (z_min : PySem.W.nsIn K mainGlobals "min" = some none)
    (z_zip : PySem.W.nsIn K mainGlobals "zip" = some none)
    (z_range : PySem.W.nsIn K mainGlobals "range" = some none)
    (z_list : PySem.W.nsIn K mainGlobals "list" = some none)
    (z_max : PySem.W.nsIn K mainGlobals "max" = some none)
    (z_sum : PySem.W.nsIn K mainGlobals "sum" = some none)
    (g_FIGURES : PySem.W.nsIn K mainGlobals "FIGURES" = some (some (.str (Str.ofString "0123456789") t_FIGURES)))
    (g_GREATEST : PySem.W.nsIn K mainGlobals "GREATEST" = some (some (.int 32767 t_GREATEST)))
    (g_LEAST : PySem.W.nsIn K mainGlobals "LEAST" = some (some (.int (-32768) t_LEAST)))
    (g_MOST_DEEP : PySem.W.nsIn K mainGlobals "MOST_DEEP" = some (some (.int 12 t_MOST_DEEP)))
    (g_MOST_MADE : PySem.W.nsIn K mainGlobals "MOST_MADE" = some (some (.int 8 t_MOST_MADE)))
    (g_MOST_PARTS : PySem.W.nsIn K mainGlobals "MOST_PARTS" = some (some (.int 60 t_MOST_PARTS)))
    (g_OPERATIONS : PySem.W.nsIn K mainGlobals "OPERATIONS" = some (some (.ref ad_OPERATIONS))) (gl_OPERATIONS : K.lookup ad_OPERATIONS = some ⟨.type "dict", none, .dict es_OPERATIONS n_OPERATIONS, #[]⟩)
    (tb_OPERATIONS : TabIn w K ad_OPERATIONS tab_OPERATIONS)
    : ∃ fd : FuncData, (∀ (s : Shared) (v : Value), BindsTo s fd ⟨[v], []⟩ [("_law_script", v)]) ∧ ∀ base : Heap, K.In base → base.Ns mainGlobals mg → FnOk l.prog w K mg base (L2.CX l.prog w) 25 fa fd ["_law_script"] (fun vs H Q E => ∃ n, spM ⟨w, K⟩ (F_law n) 1 vs H Q E) := by
  have e := hfa.symm.trans (PySem.W.mg_of X G a_law)
  cases e
  have F_kinds_of := fun_mk (st := s_kinds_of) l_kinds_of c_kinds_of k_kinds_of
  have B_kinds_of := F_kinds_of.binds (ps := ["op"]) fun _ _ _ _ _ _ us hl => match us, hl with | [_], _ => rfl
  have F_all_of := fun_mk (st := s_all_of) l_all_of c_all_of k_all_of
  have B_all_of := F_all_of.binds (ps := ["text", "signs"]) fun _ _ _ _ _ _ us hl => match us, hl with | [_, _], _ => rfl
  have F_kind_of := fun_mk (st := s_kind_of) l_kind_of c_kind_of k_kind_of
  have B_kind_of := F_kind_of.binds (ps := ["name"]) fun _ _ _ _ _ _ us hl => match us, hl with | [_], _ => rfl
  have F_is_number := fun_mk (st := s_is_number) l_is_number c_is_number k_is_number
  have B_is_number := F_is_number.binds (ps := ["thing"]) fun _ _ _ _ _ _ us hl => match us, hl with | [_], _ => rfl
  have F_is_named := fun_mk (st := s_is_named) l_is_named c_is_named k_is_named
  have B_is_named := F_is_named.binds (ps := ["thing"]) fun _ _ _ _ _ _ us hl => match us, hl with | [_], _ => rfl
  have F_kind_within := fun_mk (st := s_kind_within) l_kind_within c_kind_within k_kind_within
  have B_kind_within := F_kind_within.binds (ps := ["term", "deep"]) fun _ _ _ _ _ _ us hl => match us, hl with | [_, _], _ => rfl
  have F_kind_of_term := fun_mk (st := s_kind_of_term) l_kind_of_term c_kind_of_term k_kind_of_term
  have B_kind_of_term := F_kind_of_term.binds (ps := ["term"]) fun _ _ _ _ _ _ us hl => match us, hl with | [_], _ => rfl
  have F__law_cell_at := fun_mk (st := s__law_cell_at) l__law_cell_at c__law_cell_at k__law_cell_at
  have B__law_cell_at := F__law_cell_at.binds (ps := ["_law_script", "_law_k"]) fun _ _ _ _ _ _ us hl => match us, hl with | [_, _], _ => rfl
  have F__law_box := fun_mk (st := s__law_box) l__law_box c__law_box k__law_box
  have B__law_box := F__law_box.binds (ps := ["_law_cell"]) fun _ _ _ _ _ _ us hl => match us, hl with | [_], _ => rfl
  have F__law_take := fun_mk (st := s__law_take) l__law_take c__law_take k__law_take
  have B__law_take := F__law_take.binds (ps := ["_law_box_here", "_law_many"]) fun _ _ _ _ _ _ us hl => match us, hl with | [_, _], _ => rfl
  have F__law_number := fun_mk (st := s__law_number) l__law_number c__law_number k__law_number
  have B__law_number := F__law_number.binds (ps := ["_law_box_here"]) fun _ _ _ _ _ _ us hl => match us, hl with | [_], _ => rfl
  have F__law_leaf := fun_mk (st := s__law_leaf) l__law_leaf c__law_leaf k__law_leaf
  have B__law_leaf := F__law_leaf.binds (ps := ["_law_box_here", "_law_kind_here"]) fun _ _ _ _ _ _ us hl => match us, hl with | [_, _], _ => rfl
  have F__law_term := fun_mk (st := s__law_term) l__law_term c__law_term k__law_term
  have B__law_term := F__law_term.binds (ps := ["_law_box_here", "_law_kind_here", "_law_deep_here"]) fun _ _ _ _ _ _ us hl => match us, hl with | [_, _, _], _ => rfl
  have F__law_bent := fun_mk (st := s__law_bent) l__law_bent c__law_bent k__law_bent
  have B__law_bent := F__law_bent.binds (ps := ["_law_box_here", "_law_term_here"]) fun _ _ _ _ _ _ us hl => match us, hl with | [_, _], _ => rfl
  have F__law_great := fun_mk (st := s__law_great) l__law_great c__law_great k__law_great
  have B__law_great := F__law_great.binds (ps := ["_law_box_here"]) fun _ _ _ _ _ _ us hl => match us, hl with | [_], _ => rfl
  have F__law_kind := fun_mk (st := s__law_kind) l__law_kind c__law_kind k__law_kind
  have B__law_kind := F__law_kind.binds (ps := ["_law_term_here"]) fun _ _ _ _ _ _ us hl => match us, hl with | [_], _ => rfl
  have F__law_deep := fun_mk (st := s__law_deep) l__law_deep c__law_deep k__law_deep
  have B__law_deep := F__law_deep.binds (ps := ["_law_term_here"]) fun _ _ _ _ _ _ us hl => match us, hl with | [_], _ => rfl
  have F__law_parts := fun_mk (st := s__law_parts) l__law_parts c__law_parts k__law_parts
  have B__law_parts := F__law_parts.binds (ps := ["_law_term_here"]) fun _ _ _ _ _ _ us hl => match us, hl with | [_], _ => rfl
  have F_law := fun_mk (st := s_law) l_law c_law k_law
  have B_law := F_law.binds (ps := ["_law_script"]) fun _ _ _ _ _ _ us hl => match us, hl with | [_], _ => rfl
  have T : Txt w K mg ⟨f_kinds_of, _, f_all_of, _, f_kind_of, _, f_is_number, _, f_is_named, _, f_kind_within, _, f_kind_of_term, _, f__law_cell_at, _, f__law_box, _, f__law_take, _, f__law_number, _, f__law_leaf, _, f__law_term, _, f__law_bent, _, f__law_great, _, f__law_kind, _, f__law_deep, _, f__law_parts, _, fa, _⟩ := ⟨F_kinds_of, PySem.W.mg_of X G a_kinds_of, B_kinds_of, F_all_of, PySem.W.mg_of X G a_all_of, B_all_of, F_kind_of, PySem.W.mg_of X G a_kind_of, B_kind_of, F_is_number, PySem.W.mg_of X G a_is_number, B_is_number, F_is_named, PySem.W.mg_of X G a_is_named, B_is_named, F_kind_within, PySem.W.mg_of X G a_kind_within, B_kind_within, F_kind_of_term, PySem.W.mg_of X G a_kind_of_term, B_kind_of_term, F__law_cell_at, PySem.W.mg_of X G a__law_cell_at, B__law_cell_at, F__law_box, PySem.W.mg_of X G a__law_box, B__law_box, F__law_take, PySem.W.mg_of X G a__law_take, B__law_take, F__law_number, PySem.W.mg_of X G a__law_number, B__law_number, F__law_leaf, PySem.W.mg_of X G a__law_leaf, B__law_leaf, F__law_term, PySem.W.mg_of X G a__law_term, B__law_term, F__law_bent, PySem.W.mg_of X G a__law_bent, B__law_bent, F__law_great, PySem.W.mg_of X G a__law_great, B__law_great, F__law_kind, PySem.W.mg_of X G a__law_kind, B__law_kind, F__law_deep, PySem.W.mg_of X G a__law_deep, B__law_deep, F__law_parts, PySem.W.mg_of X G a__law_parts, B__law_parts, F_law, PySem.W.mg_of X G a_law, B_law, ⟨_, (PySem.W.mg_of X G g_FIGURES).trans (by rw [show Str.ofString "0123456789" = ⟨[48, 49, 50, 51, 52, 53, 54, 55, 56, 57].toArray⟩ from by decide +kernel])⟩, ⟨_, PySem.W.mg_of X G g_GREATEST⟩, ⟨_, PySem.W.mg_of X G g_LEAST⟩, ⟨_, PySem.W.mg_of X G g_MOST_DEEP⟩, ⟨_, PySem.W.mg_of X G g_MOST_MADE⟩, ⟨_, PySem.W.mg_of X G g_MOST_PARTS⟩, ⟨_, PySem.W.mg_of X G g_OPERATIONS, tb_OPERATIONS⟩, PySem.W.mg_none_of X G z_len, PySem.W.mg_none_of X G z_isinstance, PySem.W.mg_none_of X G z_int, PySem.W.mg_none_of X G z_bool, PySem.W.mg_none_of X G z_tuple, PySem.W.mg_none_of X G z_str, PySem.W.mg_none_of X G z_min, PySem.W.mg_none_of X G z_zip, PySem.W.mg_none_of X G z_range, PySem.W.mg_none_of X G z_list, PySem.W.mg_none_of X G z_max, PySem.W.mg_none_of X G z_sum⟩
  exact ⟨_, fun s v => .of_eq rfl, fun base _ _ => FnOk.ex fun n => ok_law T n⟩
theorem walk {l : PySem.W.OpenLaw} {q : Program} {loose : List Str} {XP : (Str → Option Value) → Heap → Prop} {YP : World → Heap → Prop} {d : DefRec} {K : Params → PySem.W.Frag} (hn : l.most = some 63) (hdf : d.params.defaults = [])
    (hY : ∀ (w : World) (h : Heap), YP w h → (K w.params).In h) (pure : ∀ ns : List Int, ns.length ≤ 63 → ∃ n st, F_law n [.frz (ns.map .int)] [] = .ok (.bl true) st)
    (F : ∀ (w : World) (mg : Str → Option Value) (fa : Addr) (h : Heap), (K w.params).In h → h.Ns mainGlobals mg → mg d.name = some (.ref fa) →
      ∃ fd : FuncData, (∀ (s : Shared) (u : Value), BindsTo s fd ⟨[u], []⟩ [("_law_script", u)]) ∧ ∀ base : Heap, (K w.params).In base → base.Ns mainGlobals mg → FnOk l.prog w (K w.params) mg base (L2.CX l.prog w) 25 fa fd ["_law_script"] (fun vs H Q E => ∃ n, spM ⟨w, K w.params⟩ (F_law n) 1 vs H Q E)) :
    PySem.W.WalkO q loose XP YP l.row.toRowW d [] (fun f vs => PySem.call f vs) :=
  L2.walk_of (n := 63) (k := 25) (x := "_law_script") (CX := fun w => L2.CX l.prog w) (sp := fun w vs H Q E => ∃ n, spM ⟨w, K w.params⟩ (F_law n) 1 vs H Q E) hn (by decide) hdf ⟨rfl, by decide, by decide⟩ hY F (fun w H a ns hl _ hS => by
    obtain ⟨n, st, e⟩ := pure ns hl
    exact law_sp (K := ⟨w, K w.params⟩) hS e) fun w H s e s' => cx_false H s e s'
end K47

set_option maxRecDepth 100000
namespace K47
open PySem L2 MP
theorem fmod_lt {i m : Int} (h : 0 < m) : 0 ≤ i.fmod m ∧ i.fmod m < m := by
  rw [Int.fmod_eq_emod_of_nonneg i (by omega)]
  exact ⟨Int.emod_nonneg _ (by omega), Int.emod_lt_of_pos _ h⟩
theorem atI_all {α : Type} {xs : List α} {i : Int} (h0 : 0 ≤ i) (h1 : i < xs.length) {P : α → Prop} (hP : ∀ x ∈ xs, P x) : ∃ x, L2.atI xs i = some x ∧ P x := ⟨_, atI_of h0 h1, hP _ (List.getElem_mem _)⟩
theorem Z_inT {n : Bool} {x : PV} {xs : List PV} {st : Sto} {Q : PV → Sto → Prop} {E : Exn → Sto → Prop} (h : (flatP x && xs.all flatP) = true) : Z (inM n x (.tup xs) st) Q E = Q (.bl (ng n (xs.any fun p => eqb p x))) st := by
  unfold inM; dsimp only [seqOf]; rw [if_pos h]; rfl
def BB (st : Sto) (b : Nat) : Prop := ∃ w x y z : Int, st[b]? = some (.lst [.int w, .int x, .int y, .int z])
theorem BB.bl {st : Sto} {b : Nat} (B : BB st b) : b < st.length := let ⟨_, _, _, _, h⟩ := B; getN h
theorem BB.app {st : Sto} {b : Nat} (B : BB st b) (ys : Sto) : BB (st ++ ys) b := by
  obtain ⟨w, x, y, z, h⟩ := B
  exact ⟨w, x, y, z, by rw [List.getElem?_append_left (getN h), h]⟩
theorem BB.setN {st : Sto} {b m : Nat} {c : Cell} (B : BB st b) (h : m ≠ b) : BB (st.set m c) b := by
  obtain ⟨w, x, y, z, e⟩ := B
  exact ⟨w, x, y, z, by rw [List.getElem?_set_ne h, e]⟩
theorem takeB {n : Nat} {st : Sto} {b : Nat} {m : Int} {Q : PV → Sto → Prop} {E : Exn → Sto → Prop} (B : BB st b) (h : ∀ i s, 0 ≤ i → i < m → BB s b → (∀ k, k ≠ b → s[k]? = st[k]?) → Q (.int i) s) (hm : 0 < m := by omega) (hm2 : m.natAbs.log2 < 9000 := by decide +kernel) :
    Z (F__law_take n [.loc b, .int m] st) Q E := by
  obtain ⟨w, x, y, z, hb⟩ := B
  have hl := getN hb
  have g1 : ∀ X, (st.set b X)[b]? = some X := fun X => by rw [List.getElem?_set_self hl]
  have g2 : ∀ X Y : Cell, (st.set b X).set b Y = st.set b Y := fun X Y => by rw [List.set_set]
  have hmne : m ≠ 0 := by omega
  clear hl
  have f1 := fun i : Int => fmod_lt (i := i) hm
  have fin : ∀ (i : Int) (w x y z : Int), Q (.int (i.fmod m)) (st.set b (.lst [.int w, .int x, .int y, .int z])) := fun i w x y z => h _ _ (f1 i).1 (f1 i).2 ⟨w, x, y, z, g1 _⟩ (fun k hk => by rw [List.getElem?_set_ne (Ne.symm hk)])
  have m1 : ∀ j : Int, mulOk 7 j = true := fun j => by simp [mulOk]
  have m2 : ∀ i : Int, mulOk i 48271 = true := fun i => by simp [mulOk]
  have m3 : ∀ i : Int, mulOk i 69621 = true := fun i => by simp [mulOk]
  rw [z__law_take]
  unfold b__law_take
  simp [hb, L2.ixN, g1]
  by_cases hx : x = 0
  · by_cases hw : w = 0 ∨ w = -1
    · rcases hw with rfl | rfl <;> simp [hx, Z_inT, flatP, ng, eqb, g1, g2, L2.ixN, m1, m2, m3, hmne, fin]
    · have hw1 : ((0 : Int) == w) = false := by simp; omega
      have hw2 : ((-1 : Int) == w) = false := by simp; omega
      simp [hx, Z_inT, flatP, ng, eqb, g1, g2, L2.ixN, hw1, hw2, hmne, hm, hm2, fin]
  · simp [hx, g1, g2, L2.ixN, m1, m2, m3, hmne, fin]
section
variable {n : Nat} {st : Sto} {Q : PV → Sto → Prop} {E : Exn → Sto → Prop}
theorem z_L0 {p0 : Option PV} {c : Nat} {QF : Fl → Sto → Prop} {E : Exn → Sto → Prop} : Z (L0_all_of n [p0, some (.str DG), some (.str [c])] st) QF E = if isD c = true then QF (.next [p0, some (.str DG), some (.str [c])]) st else QF (.ret (.bl false)) st := by
  unfold L0_all_of
  cases h : isD c <;> simp [inD, h, -Z_inS]
theorem all_loop {p0 : Option PV} : ∀ (d : List Nat) (x : Option PV), Z (forL (gN 2) (L0_all_of n) (d.map fun c => PV.str [c]) [p0, some (.str DG), x] st) (seqQ (sRet (eC (.bl true))) (runQ Q E) MP.E0) MP.E0 = Q (.bl (d.all isD)) st
  | [], x => by rw [List.map_nil, Z_forL_nil]; simp
  | c :: d, x => by
    rw [List.map_cons, Z_forL, Z_gN]
    simp only [List.set_cons_succ, List.set_cons_zero, kF1_at, z_L0]
    cases h : isD c
    · simp [h]
    · simp [h, all_loop d]
theorem z_all {d : List Nat} : Z (F_all_of n [.str d, .str DG] st) Q E = Q (.bl (d.all isD)) st := by
  rw [z_all_of]; unfold b_all_of
  simp [all_loop]
end
theorem lc_loop {st : Sto} {E : Exn → Sto → Prop} {x0 x1 : Option PV} {QL : List PV → Sto → Prop} : ∀ (d : List Nat) (acc : List PV), acc.length + d.length < 1000 → Z (lcL (gN 1) (eB (eBin (inM true) (eVar 1) (eC (.str DG)))) (eVar 1) [x0, x1] (d.map fun c => PV.str [c]) acc st) QL E = QL (acc ++ (d.filter fun c => !isD c).map fun c => .str [c]) st
  | [], acc, _ => by rw [List.map_nil, lc_nil]; simp
  | c :: d, acc, hl => by
    simp at hl
    rw [List.map_cons, lc_cons]
    have hz : acc.length < 16777216 := by omega
    cases h : isD c
    · have e := lc_loop (x0 := x0) (x1 := x1) (st := st) (E := E) (QL := QL) d (acc ++ [.str [c]]) (by simp; omega)
      simp [inD, -Z_inS, h, hz, e]
    · have e := lc_loop (x0 := x0) (x1 := x1) (st := st) (E := E) (QL := QL) d acc (by omega)
      simp [inD, -Z_inS, h, e]
def dueK (z : List Nat) : PV := match z with
  | [] => .non
  | c :: d => if (c = 110 ∨ c = 114) ∧ d ≠ [] ∧ d.length ≤ 5 ∧ d.all isD = true ∧ ¬ (d.head? = some 48 ∧ 1 < d.length) then .str [c] else .non
section
variable {n : Nat} {st : Sto} {Q : PV → Sto → Prop} {E : Exn → Sto → Prop} {z : List Nat}
theorem cutC1 {c : Nat} {d : List Nat} : cutL (c :: d) (some 1) none = d := by rw [cut_from (by omega) (by simp; omega)]; rfl
theorem cutC2 {c : Nat} {d : List Nat} : cutL (c :: d) none (some 1) = [c] := by rw [cut_to (by omega) (by simp; omega)]; rfl
theorem kind_spec (hl : z.length ≤ 100) : Z (F_kind_of n [.str z] st) Q E = Q (dueK z) st := by
  rw [z_kind_of]; unfold b_kind_of
  cases z with
  | nil => simp [cutL, Z_inT, flatP, eqb, dueK]
  | cons c d =>
    simp at hl
    have l1 : d.length ≤ 16777216 := by omega
    have l2 : d.length + 1 ≤ 16777216 := by omega
    by_cases hc : c = 110 ∨ c = 114
    · have hc' : (110 = c ∨ 114 = c) := by omega
      cases d with
      | nil => rcases hc with rfl | rfl <;> simp [cutC1, cutC2, Z_inT, flatP, eqb, dueK]
      | cons e d =>
        simp at hl l1 l2
        by_cases h5 : d.length + 1 ≤ 5
        · have h5' : ¬ (5 : Int) < d.length + 1 := by omega
          have h1' : ¬ (d.length : Int) + 1 < 1 := by omega
          cases ha : (e :: d).all isD
          · rcases hc with rfl | rfl <;> simp [cutC1, cutC2, Z_inT, flatP, eqb, dueK, l1, l2, h1', h5', z_all, ha, -List.all_cons]
          · by_cases he : e = 48
            · subst he
              by_cases h1 : d = []
              · subst h1
                rcases hc with rfl | rfl <;> simp [cutC1, cutC2, Z_inT, flatP, eqb, dueK, z_all, ha, -List.all_cons]
              · have hp := List.length_pos_iff.mpr h1
                have hp' : (1 : Int) < d.length + 1 := by omega
                rcases hc with rfl | rfl <;> simp [cutC1, cutC2, Z_inT, flatP, eqb, dueK, l1, l2, h1', h5', z_all, ha, hp', hp, -List.all_cons]
            · have h5n : d.length ≤ 4 := by omega
              rcases hc with rfl | rfl <;> simp [cutC1, cutC2, Z_inT, flatP, eqb, dueK, l1, l2, h1', h5', h5n, z_all, ha, he, -List.all_cons]
        · have h5' : (5 : Int) < d.length + 1 := by omega
          have h1' : ¬ (d.length : Int) + 1 < 1 := by omega
          have h5n : ¬ d.length ≤ 4 := by omega
          rcases hc with rfl | rfl <;> simp [cutC1, cutC2, Z_inT, flatP, eqb, dueK, l1, l2, h1', h5', h5n, -List.all_cons]
    · have h1 : ¬ c = 110 := fun e => hc (.inl e)
      have h2 : ¬ c = 114 := fun e => hc (.inr e)
      have h3 : ((110 : Nat) == c) = false := by simp; omega
      have h4 : ((114 : Nat) == c) = false := by simp; omega
      simp [cutC1, cutC2, Z_inT, flatP, eqb, dueK, l1, l2, h1, h2, h3, h4]
end
section
inductive WT : Nat → PV → Prop
  | non {d : Nat} : WT d .non
  | bl {d : Nat} {b : Bool} : WT d (.bl b)
  | int {d : Nat} {i : Int} : WT d (.int i)
  | str {d : Nat} {a : List Nat} (h : Sg a 100) : WT d (.str a)
  | tup {d : Nat} {xs : List PV} (hl : xs.length ≤ 20) (hx : ∀ x ∈ xs, WT d x) : WT (d + 1) (.tup xs)
theorem layPs_iff {xs : List PV} : layPs xs = true ↔ ∀ x ∈ xs, layP x = true := by
  induction xs with
  | nil => simp [layPs]
  | cons x xs ih => simp [layPs, ih]
theorem depPs_le {d : Nat} {xs : List PV} : depPs xs ≤ d ↔ ∀ x ∈ xs, depP x ≤ d := by
  induction xs with
  | nil => simp [depPs]
  | cons x xs ih => simp [depPs, Nat.max_le, ih]
theorem WT.lay {d : Nat} {p : PV} (h : WT d p) : layP p = true ∧ depP p ≤ d := by
  induction h with
  | non => simp [layP, depP]
  | bl => simp [layP, depP]
  | int => simp [layP, depP]
  | str h => simp [layP, depP]; exact h.2
  | tup hl hx ih =>
    simp only [layP, depP]
    refine ⟨layPs_iff.mpr fun x hx => (ih x hx).1, ?_⟩
    have := depPs_le.mpr fun x hx => (ih x hx).2
    omega
theorem WT.up {d : Nat} {p : PV} (h : WT d p) : ∀ {k : Nat}, d ≤ k → WT k p := by
  induction h with
  | non => intro k _; exact .non
  | bl => intro k _; exact .bl
  | int => intro k _; exact .int
  | str h => intro k _; exact .str h
  | tup hl hx ih =>
    intro k hk
    obtain ⟨k, rfl⟩ : ∃ j, k = j + 1 := ⟨k - 1, by omega⟩
    exact .tup hl fun x hx => ih x hx (by omega)
theorem WT.part {d : Nat} {xs : List PV} {x : PV} (h : WT (d + 1) (.tup xs)) (hx : x ∈ xs) : WT d x := by
  cases h with
  | tup hl h => exact h x hx
theorem WT.len {d : Nat} {xs : List PV} (h : WT d (.tup xs)) : xs.length ≤ 20 := by
  cases h with
  | tup hl h => exact hl
def opL (op : List Nat) (m : Nat) : List Nat := match lookT tab_OPERATIONS op with
  | some (.tup [.str k, .str ks]) => k ++ ks
  | some (.tup [.str k, .non]) => if m ≤ 8 then k ++ List.replicate m 110 else []
  | _ => []
def nmK (a : List Nat) : List Nat := match dueK a with
  | .str z => z
  | _ => []
mutual
def kdL : PV → List Nat
  | .int i => if -32768 ≤ i ∧ i ≤ 32767 then [110] else []
  | .tup xs => match xs, kdLs xs with
    | .str op :: r, _ :: ks => match opL op r.length with
      | [] => []
      | c :: due => if ks = due.map (fun c => [c]) then [c] else []
    | [.int i, .str a], _ => if 0 ≤ i then nmK a else []
    | _, _ => []
  | _ => []
def kdLs : List PV → List (List Nat)
  | [] => []
  | x :: xs => kdL x :: kdLs xs
end
def mxL : List Nat → Nat
  | [] => 0
  | a :: r => max a (mxL r)
mutual
def deL : PV → Nat
  | .tup xs => match xs, deLs xs with
    | .str _ :: _, _ :: ds => 1 + mxL ds
    | _, _ => 1
  | _ => 1
def deLs : List PV → List Nat
  | [] => []
  | x :: xs => deL x :: deLs xs
end
mutual
def paL : PV → Nat
  | .tup xs => match xs, paLs xs with
    | .str _ :: _, _ :: ds => 1 + ds.sum
    | _, _ => 1
  | _ => 1
def paLs : List PV → List Nat
  | [] => []
  | x :: xs => paL x :: paLs xs
end
theorem kdLs_map : ∀ xs, kdLs xs = xs.map kdL
  | [] => rfl
  | x :: xs => by rw [kdLs, kdLs_map xs]; rfl
theorem deLs_map : ∀ xs, deLs xs = xs.map deL
  | [] => rfl
  | x :: xs => by rw [deLs, deLs_map xs]; rfl
theorem paLs_map : ∀ xs, paLs xs = xs.map paL
  | [] => rfl
  | x :: xs => by rw [paLs, paLs_map xs]; rfl
theorem deL_op {op : List Nat} {r : List PV} : deL (.tup (.str op :: r)) = 1 + mxL (r.map deL) := by
  rw [← deLs_map]; rfl
theorem paL_op {op : List Nat} {r : List PV} : paL (.tup (.str op :: r)) = 1 + (r.map paL).sum := by
  rw [← paLs_map]; rfl
theorem kdL_op {op : List Nat} {r : List PV} : kdL (.tup (.str op :: r)) = match opL op r.length with
      | [] => []
      | c :: due => if r.map kdL = due.map (fun c => [c]) then [c] else [] := by
  rw [← kdLs_map]; rfl
end
section
variable {n : Nat} {Q : PV → Sto → Prop} {E : Exn → Sto → Prop}
theorem cutT1 {α : Type} {c : α} {d : List α} : cutL (c :: d) (some 1) none = d := by rw [cut_from (by omega) (by simp; omega)]; rfl
theorem eq_nil {st : Sto} {d : Nat} {xs : List PV} (h : WT d (.tup xs)) (hd : d ≤ 60) : Z (eqM (.tup xs) (.tup []) st) Q E = Q (.bl (decide (xs = []))) st := by
  have := h.lay
  rw [Z_eq (by simp [cmpOk, shal, this.1, layP, layPs, depP, depPs]; right; have := this.2; simp only [depP] at this; omega)]
  cases xs <;> simp [shal, eqb, eqbs]
theorem lc_calls {fr : List PV → M PV} {i : Nat} {ρ0 : Rho} (hi : i < ρ0.length) (g : PV → PV) {QL : List PV → Sto → Prop} : ∀ (ps acc : List PV) (st : Sto), acc.length + ps.length < 16777216 →
    (∀ p ∈ ps, ∀ (st : Sto) (Q : PV → Sto → Prop) (E : Exn → Sto → Prop), (∀ ys, Q (g p) (st ++ ys)) → Z (fr [p] st) Q E) → (∀ ys, QL (acc ++ ps.map g) (st ++ ys)) → Z (lcL (gN i) tYesM (eCall fr (aCons (eVar i) aNil)) ρ0 ps acc st) QL E
  | [], acc, st, _, _, hq => by rw [lc_nil]; simpa using hq []
  | p :: ps, acc, st, hl, hf, hq => by
    simp only [List.length_cons] at hl
    have e : (ρ0.set i (some p))[i]? = some (some p) := by simp [hi]
    have hz : acc.length < 16777216 := by omega
    rw [lc_cons]
    simp [e]
    refine hf p (by simp) st _ _ fun ys => ?_
    refine ⟨hz, ?_⟩
    refine lc_calls hi g ps (acc ++ [g p]) (st ++ ys) (by simp; omega) (fun p hp => hf p (by simp [hp])) fun zs => ?_
    have := hq (ys ++ zs)
    simpa using this
theorem maxI_cast {α : Type} (f : α → Nat) : ∀ (l : List α) (a : Nat), maxI (a : Int) (l.map fun x => (f x : Int)) = (max a (mxL (l.map f)) : Nat)
  | [], a => by simp [maxI, mxL]
  | b :: l, a => by
    simp only [List.map_cons, maxI, mxL]
    have e : (if (f b : Int) > (a : Int) then (f b : Int) else (a : Int)) = ((max a (f b) : Nat) : Int) := by split <;> omega
    rw [e, maxI_cast f l (max a (f b))]
    omega
theorem ints_of {α : Type} (f : α → Nat) (l : List α) : intsOf (l.map fun x => PV.int (f x : Int)) = some (l.map fun x => (f x : Int)) := by
  induction l with
  | nil => rfl
  | cons i l ih => rw [List.map_cons, intsOf, ih]; rfl
theorem sum_cast {α : Type} (f : α → Nat) : ∀ (l : List α), (l.map fun x => (f x : Int)).sum = ((l.map f).sum : Nat)
  | [] => rfl
  | b :: l => by simp [sum_cast f l]
theorem deep_spec : ∀ (k d : Nat) (p : PV) (st : Sto) (Q : PV → Sto → Prop) (E : Exn → Sto → Prop), WT d p → d ≤ k → k ≤ 60 → (∀ ys, Q (.int (deL p)) (st ++ ys)) → Z (F__law_deep n (k + 1) [p] st) Q E := by
  intro k
  induction k with
  | zero =>
    intro d p st Q E h hd _ hq
    rw [z__law_deep]; unfold b__law_deep
    have q0 := hq []
    cases h with
    | tup => omega
    | _ => simp [deL] at *; exact q0
  | succ k ih =>
    intro d p st Q E h hd hk hq
    rw [z__law_deep]; unfold b__law_deep
    have q0 := hq []
    cases h with
    | @tup d xs hl hx =>
      have hn := fun Q E => eq_nil (st := st) (Q := Q) (E := E) (.tup hl hx) (by omega)
      cases xs with
      | nil => simp [hn, deL] at *; exact q0
      | cons x r =>
        have hx0 := hx x (by simp)
        cases hx0 with
        | str hs =>
          simp [hn, cutT1]
          refine lc_calls (by simp) (fun p => .int (deL p)) _ _ _ (by simp at hl; simp; omega) (fun p hp st Q E => ih d p st Q E (hx p (by simp [hp])) (by omega) (by omega)) fun ys => ?_
          have hl2 : 1 + r.length ≤ 16777216 := by simp at hl; omega
          simp [hl2]
          rw [Z_maxL (n := 0) (ns := r.map fun p => (deL p : Int)) rfl (by rw [intsOf, ints_of]; rfl)]
          have e2 := maxI_cast deL r 0
          simp at e2
          simp [e2]
          have q := hq ys
          rw [deL_op] at q
          simpa using q
        | _ => simp [hn, deL] at *; exact q0
    | _ => simp [deL] at *; exact q0
theorem parts_spec : ∀ (k d : Nat) (p : PV) (st : Sto) (Q : PV → Sto → Prop) (E : Exn → Sto → Prop), WT d p → d ≤ k → k ≤ 60 → (∀ ys, Q (.int (paL p)) (st ++ ys)) → Z (F__law_parts n (k + 1) [p] st) Q E := by
  intro k
  induction k with
  | zero =>
    intro d p st Q E h hd _ hq
    rw [z__law_parts]; unfold b__law_parts
    have q0 := hq []
    cases h with
    | tup => omega
    | _ => simp [paL] at *; exact q0
  | succ k ih =>
    intro d p st Q E h hd hk hq
    rw [z__law_parts]; unfold b__law_parts
    have q0 := hq []
    cases h with
    | @tup d xs hl hx =>
      have hn := fun Q E => eq_nil (st := st) (Q := Q) (E := E) (.tup hl hx) (by omega)
      cases xs with
      | nil => simp [hn, paL] at *; exact q0
      | cons x r =>
        have hx0 := hx x (by simp)
        cases hx0 with
        | str hs =>
          simp [hn, cutT1]
          refine lc_calls (by simp) (fun p => .int (paL p)) _ _ _ (by simp at hl; simp; omega) (fun p hp st Q E => ih d p st Q E (hx p (by simp [hp])) (by omega) (by omega)) fun ys => ?_
          have e := fun Q E => Z_sumL (Q := Q) (E := E) (l := r.map fun p => (paL p : Int)) (st := st ++ ys)
          simp only [List.map_map, Function.comp_def, sum_cast] at e
          simp [e]
          have q := hq ys
          rw [paL_op] at q
          simpa using q
        | _ => simp [hn, paL] at *; exact q0
    | _ => simp [paL] at *; exact q0
end
section
def dK1 : List (PV × PV) := [(.str [97, 100, 100], .str [110, 110, 110]), (.str [115, 117, 98], .str [110, 110, 110]), (.str [109, 117, 108], .str [110, 110, 110]), (.str [100, 105, 118], .str [110, 110, 110]), (.str [114, 101, 115, 116], .str [110, 110, 110]), (.str [108, 101, 115, 115], .str [110, 110, 110]), (.str [115, 97, 109, 101], .str [110, 110, 110])]
def dK2 : List (PV × PV) := [(.str [112, 105, 99, 107], .str [110, 110, 110, 110]), (.str [99, 111, 112, 121], .str [110, 110]), (.str [97, 116], .str [110, 114, 110]), (.str [115, 105, 122, 101], .str [110, 114]), (.str [112, 117, 116], .str [114, 114, 110, 110]), (.str [109, 97, 110, 121], .str [114, 110, 110]), (.str [107, 101, 101, 112], .str [114, 114])]
abbrev mk4 : List Nat := [109, 97, 107, 101]
def twoT (op : List Nat) : PV := (lookP dK1 (.str op)).getD ((lookP dK2 (.str op)).getD (.str []))
theorem two_eq (op : List Nat) (m : Nat) : (op ≠ mk4 → twoT op = .str (opL op m)) ∧ (op = mk4 → twoT op = .str [] ∧ opL op m = if m ≤ 8 then 114 :: List.replicate m 110 else []) ∧ (∀ c ∈ opL op m, c = 110 ∨ c = 114) ∧ (opL op m).length ≤ 20 := by
  by_cases h0 : op = [97, 100, 100]
  · subst h0; simp [twoT, lookP, dK1, dK2, opL, lookT, tab_OPERATIONS]
  by_cases h1 : op = [115, 117, 98]
  · subst h1; simp [twoT, lookP, dK1, dK2, opL, lookT, tab_OPERATIONS]
  by_cases h2 : op = [109, 117, 108]
  · subst h2; simp [twoT, lookP, dK1, dK2, opL, lookT, tab_OPERATIONS]
  by_cases h3 : op = [100, 105, 118]
  · subst h3; simp [twoT, lookP, dK1, dK2, opL, lookT, tab_OPERATIONS]
  by_cases h4 : op = [114, 101, 115, 116]
  · subst h4; simp [twoT, lookP, dK1, dK2, opL, lookT, tab_OPERATIONS]
  by_cases h5 : op = [108, 101, 115, 115]
  · subst h5; simp [twoT, lookP, dK1, dK2, opL, lookT, tab_OPERATIONS]
  by_cases h6 : op = [115, 97, 109, 101]
  · subst h6; simp [twoT, lookP, dK1, dK2, opL, lookT, tab_OPERATIONS]
  by_cases h7 : op = [112, 105, 99, 107]
  · subst h7; simp [twoT, lookP, dK1, dK2, opL, lookT, tab_OPERATIONS]
  by_cases h8 : op = [99, 111, 112, 121]
  · subst h8; simp [twoT, lookP, dK1, dK2, opL, lookT, tab_OPERATIONS]
  by_cases h9 : op = [97, 116]
  · subst h9; simp [twoT, lookP, dK1, dK2, opL, lookT, tab_OPERATIONS]
  by_cases h10 : op = [115, 105, 122, 101]
  · subst h10; simp [twoT, lookP, dK1, dK2, opL, lookT, tab_OPERATIONS]
  by_cases h11 : op = [112, 117, 116]
  · subst h11; simp [twoT, lookP, dK1, dK2, opL, lookT, tab_OPERATIONS]
  by_cases h12 : op = [109, 97, 110, 121]
  · subst h12; simp [twoT, lookP, dK1, dK2, opL, lookT, tab_OPERATIONS]
  by_cases h13 : op = [109, 97, 107, 101]
  · subst h13; by_cases hm : m ≤ 8 <;> simp [twoT, lookP, dK1, dK2, opL, lookT, tab_OPERATIONS, hm]; (try (refine ⟨fun c _ h => .inl h, ?_⟩)); (try omega)
  by_cases h14 : op = [107, 101, 101, 112]
  · subst h14; simp [twoT, lookP, dK1, dK2, opL, lookT, tab_OPERATIONS]
  have g0 : ¬ [97, 100, 100] = op := fun e => h0 e.symm
  have g1 : ¬ [115, 117, 98] = op := fun e => h1 e.symm
  have g2 : ¬ [109, 117, 108] = op := fun e => h2 e.symm
  have g3 : ¬ [100, 105, 118] = op := fun e => h3 e.symm
  have g4 : ¬ [114, 101, 115, 116] = op := fun e => h4 e.symm
  have g5 : ¬ [108, 101, 115, 115] = op := fun e => h5 e.symm
  have g6 : ¬ [115, 97, 109, 101] = op := fun e => h6 e.symm
  have g7 : ¬ [112, 105, 99, 107] = op := fun e => h7 e.symm
  have g8 : ¬ [99, 111, 112, 121] = op := fun e => h8 e.symm
  have g9 : ¬ [97, 116] = op := fun e => h9 e.symm
  have g10 : ¬ [115, 105, 122, 101] = op := fun e => h10 e.symm
  have g11 : ¬ [112, 117, 116] = op := fun e => h11 e.symm
  have g12 : ¬ [109, 97, 110, 121] = op := fun e => h12 e.symm
  have g13 : ¬ [109, 97, 107, 101] = op := fun e => h13 e.symm
  have g14 : ¬ [107, 101, 101, 112] = op := fun e => h14 e.symm
  simp [twoT, lookP, dK1, dK2, opL, lookT, tab_OPERATIONS, h0, h1, h2, h3, h4, h5, h6, h7, h8, h9, h10, h11, h12, h13, h14, g0, g1, g2, g3, g4, g5, g6, g7, g8, g9, g10, g11, g12, g13, g14]
end
section
variable {n : Nat} {Q : PV → Sto → Prop} {E : Exn → Sto → Prop}
theorem nmK_cases (a : List Nat) : nmK a = [] ∨ nmK a = [110] ∨ nmK a = [114] := by
  unfold nmK dueK
  cases a with
  | nil => simp
  | cons c d =>
    dsimp only
    by_cases h : (c = 110 ∨ c = 114) ∧ d ≠ [] ∧ d.length ≤ 5 ∧ d.all isD = true ∧ ¬(d.head? = some 48 ∧ 1 < d.length)
    · rw [if_pos h]
      rcases h.1 with e | e <;> subst e <;> simp
    · rw [if_neg h]; simp
theorem kdL_cases (p : PV) : kdL p = [] ∨ kdL p = [110] ∨ kdL p = [114] := by
  cases p with
  | int i => rw [kdL]; split <;> simp
  | tup xs =>
    rw [kdL.eq_def]
    dsimp only
    split
    · rename_i op r x ks e
      have h := (two_eq op r.length).2.2.1
      split
      · simp
      · rename_i c due e2
        rw [e2] at h
        have := h c (by simp)
        split <;> simp
        rcases this with e | e <;> simp [e]
    · split
      · exact nmK_cases _
      · simp
    · simp
  | _ => simp [kdL]
theorem okK (l : List (List Nat)) (h : ∀ z ∈ l, z = [] ∨ z = [110] ∨ z = [114]) : okP (.lst (l.map PV.str)) = true := by
  have h1 : plPs (l.map PV.str) = true := by
    rw [plPs_iff]; intro x hx; simp at hx; obtain ⟨z, hz, rfl⟩ := hx
    rcases h z hz with e | e | e <;> subst e <;> simp [plP]
  have h2 : ∀ l : List (List Nat), depPs (l.map PV.str) = 0 := by
    intro l; induction l with
    | nil => rfl
    | cons c l ih => rw [List.map_cons, depPs, ih]; simp [depP]
  simp [okP, plP, h1, depP, h2]
theorem map_strs {a b : List (List Nat)} : (PV.lst (a.map PV.str) = PV.lst (b.map PV.str)) ↔ a = b := by
  rw [PV.lst.injEq]
  refine ⟨fun h => ?_, fun h => by rw [h]⟩
  exact (List.map_inj_right (f := PV.str) (fun x y h => by simpa using h)).mp h
def tlK (fr : List PV → M PV) : Rho → M Fl :=
  (sSeq (sIf (tOrM (eB (eBin eqM (eVar 5) (eC (.str [])))) (eB (eBin neM (eLcA lcV (iAny (eSl slM (eVar 0) (oSome (eC (.int 1))) oNone)) (gN 7) tYesM (eCall fr (aCons (eVar 7) aNil)) [7]) (eCall listA (aCons (eSl slM (eVar 5) (oSome (eC (.int 1))) oNone) aNil))))) (sRet (eC (.str []))) sNext)
      (sRet (eBin ixM (eVar 5) (eC (.int 0)))))
theorem tail_kind {k d : Nat} {x : PV} {D : List Nat} {r : List PV} {s : Sto} {x1 x2 x3 x4 x6 x7 : Option PV} (hD : ∀ c ∈ D, c = 110 ∨ c = 114) (hl : D.length ≤ 20) (hr : r.length ≤ 20) (hw : ∀ p ∈ r, WT d p)
    (ih : ∀ (p : PV) (st : Sto) (Q : PV → Sto → Prop) (E : Exn → Sto → Prop), WT d p → (∀ ys, Q (.str (kdL p)) (st ++ ys)) → Z (F__law_kind n (k + 1) [p] st) Q E)
    (hq : ∀ ys, Q (.str (match D with | [] => [] | c :: due => if r.map kdL = due.map (fun c => [c]) then [c] else [])) (s ++ ys)) :
    Z (tlK (F__law_kind n (k + 1)) [some (.tup (x :: r)), x1, x2, x3, x4, some (.str D), x6, x7] s) (runQ Q E) MP.E0 := by
  unfold tlK
  cases D with
  | nil =>
    have := hq []
    simp at *
    exact this
  | cons c due =>
    simp only [List.length_cons] at hl
    have l1 : due.length + 1 ≤ 16777216 := by omega
    simp [l1, cutT1]
    refine lc_calls (by simp) (fun p => .str (kdL p)) _ _ _ (by simp; omega) (fun p hp st Q E => ih p st Q E (hw p hp)) fun ys => ?_
    have e1 : (r.map fun p => PV.str (kdL p)) = (r.map kdL).map PV.str := by simp [Function.comp_def]
    have e2 : (due.map fun c => PV.str [c]) = (due.map fun c => [c]).map PV.str := by simp [Function.comp_def]
    simp [l1, cutT1]
    rw [Z_listA (itemsA_str (by show due.length ≤ 16777216; omega))]
    simp only [kB2_at]
    rw [e1, e2, Z_neP (okK _ fun z hz => by simp at hz; obtain ⟨p, _, rfl⟩ := hz; exact kdL_cases p) (okK _ fun z hz => by
      simp at hz; obtain ⟨c, hc, rfl⟩ := hz
      rcases hD c (by simp [hc]) with e | e <;> simp [e])]
    have q := hq ys
    by_cases hh : r.map kdL = due.map (fun c => [c])
    · simp only [hh, if_true] at q
      simp [hh, l1]
      exact q
    · simp only [hh, if_false] at q
      have : ¬ (PV.lst ((r.map kdL).map PV.str) = PV.lst ((due.map fun c => [c]).map PV.str)) := fun e => hh (map_strs.mp e)
      simp only [this, decide_false, Bool.not_false]
      simp
      exact q
theorem law_kind_op {k d : Nat} {op : List Nat} {r : List PV} {st : Sto} (hd : d ≤ k) (hk : k ≤ 50) (h : WT (d + 1) (.tup (.str op :: r)))
    (ih : ∀ (p : PV) (st : Sto) (Q : PV → Sto → Prop) (E : Exn → Sto → Prop), WT d p → (∀ ys, Q (.str (kdL p)) (st ++ ys)) → Z (F__law_kind n (k + 1) [p] st) Q E)
    (hq : ∀ ys, Q (.str (kdL (.tup (.str op :: r)))) (st ++ ys)) : Z (F__law_kind n (k + 2) [.tup (.str op :: r)] st) Q E := by
  have hn := fun Q E => eq_nil (st := st ++ [.dct dK1, .dct dK2]) (Q := Q) (E := E) h (by omega)
  have hl := h.len
  simp only [List.length_cons] at hl
  have g1 : ∀ x y : Cell, (st ++ [x, y])[st.length]? = some x := by intro x y; simp
  have g2 : ∀ x y : Cell, (st ++ [x, y])[st.length + 1]? = some y := by intro x y; simp
  obtain ⟨two1, two2, two3, hol⟩ := two_eq op r.length
  unfold twoT at two1 two2
  unfold dK1 dK2 at hn two1 two2
  have hq2 : ∀ (a b : Cell) (ys : Sto), Q (.str (kdL (.tup (.str op :: r)))) ((st ++ [a, b]) ++ ys) := fun a b ys => by simpa using hq (a :: b :: ys)
  rw [kdL_op] at hq2
  rw [z__law_kind]; unfold b__law_kind
  rw [show (sSeq (sIf (tOrM (eB (eBin eqM (eVar 5) (eC (.str [])))) (eB (eBin neM (eLcA lcV (iAny (eSl slM (eVar 0) (oSome (eC (.int 1))) oNone)) (gN 7) tYesM (eCall (F__law_kind n (k + 1)) (aCons (eVar 7) aNil)) [7]) (eCall listA (aCons (eSl slM (eVar 5) (oSome (eC (.int 1))) oNone) aNil))))) (sRet (eC (.str []))) sNext)
      (sRet (eBin ixM (eVar 5) (eC (.int 0))))) = tlK (F__law_kind n (k + 1)) from rfl]
  simp [keysOk, mergeP, putP, hn]
  by_cases h2 : (r.length : Int) + 1 = 2
  all_goals
    simp [h2, g1, g2]
    rw [kGe3_at (g2 _ _) rfl, kGe3_at (g1 _ _) rfl]
    simp
    by_cases hm : op = mk4
    · obtain ⟨t1, t2⟩ := two2 hm
      rw [t1]
      by_cases h10 : (r.length : Int) + 1 < 10
      · have h8 : r.length ≤ 8 := by omega
        have h9 : (r.length : Int) ≤ 1000 := by omega
        have h7 : -1000000 ≤ (r.length : Int) := by omega
        rw [if_pos h8] at t2
        rw [t2] at hq2 two3
        have h6 : 1 + r.length ≤ 16777216 := by omega
        simp [hm, h10, h9, h7, h6]
        refine tail_kind (x := .str mk4) (r := r) (D := 114 :: List.replicate r.length 110) two3 (by simp; omega) (by omega) (fun p hp => h.part (by simp [hp])) ih fun ys => ?_
        exact hq2 _ _ ys
      · have h8 : ¬ r.length ≤ 8 := by omega
        rw [if_neg h8] at t2
        rw [t2] at hq2
        simp [hm, h10]
        refine tail_kind (x := .str mk4) (r := r) (D := []) (by simp) (by simp) (by omega) (fun p hp => h.part (by simp [hp])) ih fun ys => ?_
        exact hq2 _ _ ys
    · rw [two1 hm]
      simp [hm]
      refine tail_kind (x := .str op) (r := r) two3 hol (by omega) (fun p hp => h.part (by simp [hp])) ih fun ys => ?_
      exact hq2 _ _ ys
end
section
variable {n : Nat} {Q : PV → Sto → Prop} {E : Exn → Sto → Prop}
theorem sgs {a : List Nat} (h : Sg a 100) : a.length ≤ 16777216 := Nat.le_trans h.1 (by decide)
theorem lc_sifted {st : Sto} {x0 x1 x2 x3 x4 x5 x7 : Option PV} {QL : List PV → Sto → Prop} : ∀ (d : List Nat) (acc : List PV) (x6 : Option PV), acc.length + d.length < 1000 → Z (lcL (gN 6) (eB (eBin (inM true) (eVar 6) (eC (.str [48, 49, 50, 51, 52, 53, 54, 55, 56, 57])))) (eVar 6) [x0, x1, x2, x3, x4, x5, none, x7] (d.map fun c => PV.str [c]) acc st) QL E = QL (acc ++ (d.filter fun c => !isD c).map fun c => PV.str [c]) st
  | [], acc, _, _ => by rw [List.map_nil, lc_nil]; simp
  | c :: d, acc, x6, hl => by
    simp only [List.length_cons] at hl
    rw [List.map_cons, lc_cons]
    have hz : acc.length < 16777216 := by omega
    cases h : isD c
    · have e := lc_sifted (x0 := x0) (x1 := x1) (x2 := x2) (x3 := x3) (x4 := x4) (x5 := x5) (x7 := x7) (st := st) (QL := QL) d (acc ++ [.str [c]]) none (by simp; omega)
      simp [inD, -Z_inS, h, hz, e]
    · have e := lc_sifted (x0 := x0) (x1 := x1) (x2 := x2) (x3 := x3) (x4 := x4) (x5 := x5) (x7 := x7) (st := st) (QL := QL) d acc none (by omega)
      simp [inD, -Z_inS, h, e]
theorem okS (l : List Nat) (h : ∀ c ∈ l, c < 1114112) : okP (.lst (l.map fun c => PV.str [c])) = true := by
  have h1 : plPs (l.map fun c => PV.str [c]) = true := by
    rw [plPs_iff]; intro x hx; simp at hx; obtain ⟨c, hc, rfl⟩ := hx; simp [plP, h c hc]
  have h2 : ∀ l : List Nat, depPs (l.map fun c => PV.str [c]) = 0 := by
    intro l; induction l with
    | nil => rfl
    | cons c l ih => rw [List.map_cons, depPs, ih]; simp [depP]
  simp [okP, plP, h1, depP, h2]
theorem filt {d : List Nat} : (d.filter fun c => !isD c) = [] ↔ d.all isD = true := by simp [List.filter_eq_nil_iff]
theorem law_kind_nm {k : Nat} {i : Int} {a : List Nat} {st : Sto} (ha : Sg a 100) (hq : ∀ ys, Q (.str (if 0 ≤ i then nmK a else [])) (st ++ ys)) : Z (F__law_kind n (k + 1) [.tup [.int i, .str a]] st) Q E := by
  have hn := fun Q E => eq_nil (st := st ++ [.dct dK1, .dct dK2]) (Q := Q) (E := E) (xs := [.int i, .str a]) (d := 1) (.tup (by simp) (by simp; exact ⟨.int, .str ha⟩)) (by omega)
  unfold dK1 dK2 at hn
  have q := hq [.dct dK1, .dct dK2]
  unfold dK1 dK2 at q
  have l1 := sgs ha
  rw [z__law_kind]; unfold b__law_kind
  cases a with
  | nil =>
    simp [keysOk, mergeP, putP, hn, cutL]
    by_cases h0 : 0 ≤ i
    · simp [h0, Z_inT, flatP, eqb, nmK, dueK] at *
      exact q
    · simp [h0] at *
      exact q
  | cons c d =>
    have hl := ha.1
    simp only [List.length_cons] at hl l1
    have hv : ∀ c ∈ d, c < 1114112 := fun x hx => ha.2 x (by simp [hx])
    have l2 : d.length ≤ 16777216 := by omega
    simp [keysOk, mergeP, putP, hn, l1, cutT1, cutC2]
    by_cases h0 : 0 ≤ i
    · simp only [if_pos h0] at q
      by_cases hc : c = 110 ∨ c = 114
      · have hc2 : ((110 : Nat) == c || (114 : Nat) == c) = true := by rcases hc with e | e <;> simp [e]
        cases d with
        | nil =>
          have e : nmK [c] = [] := by simp [nmK, dueK]
          rw [e] at q
          rcases hc with rfl | rfl <;> simp [h0, Z_inT, flatP, eqb, l1, cutC2] <;> exact q
        | cons e d =>
          simp only [List.length_cons] at hl l1 l2
          by_cases h5 : d.length + 1 < 6
          · have h5' : (d.length : Int) + 1 < 6 := by omega
            have h1' : 0 < (d.length : Int) + 1 := by omega
            have hlc := fun (x0 x1 x2 x3 x4 x5 x7 : Option PV) (st : Sto) (QL : List PV → Sto → Prop) (E : Exn → Sto → Prop) => lc_sifted (x0 := x0) (x1 := x1) (x2 := x2) (x3 := x3) (x4 := x4) (x5 := x5) (x7 := x7) (st := st) (QL := QL) (E := E) (e :: d) [] none (by simp; omega)
            simp only [List.map_cons] at hlc
            cases hA : (e :: d).all isD
            · have hf : (List.filter (fun c => !isD c) (e :: d)) ≠ [] := fun h => by rw [filt] at h; rw [h] at hA; cases hA
              have hne : ∀ st Q E, Z (eqM (.lst ((List.filter (fun c => !isD c) (e :: d)).map fun c => PV.str [c])) (.lst []) st) Q E = Q (.bl false) st := by
                intro st Q E
                rw [Z_eqP (okS _ fun c h => hv c (List.mem_filter.mp h).1) (by simp [okP, plP, plPs, depP, depPs])]
                simp only [List.map_eq_nil_iff, hf, PV.lst.injEq, decide_false]
              have e2 : nmK (c :: e :: d) = [] := by simp [nmK, dueK, hA, -List.all_cons]
              rw [e2] at q
              rcases hc with rfl | rfl <;> simp [h0, Z_inT, flatP, eqb, l1, l2, cutC2, h5', h1', hlc, hne, -List.filter_cons] <;> exact q
            · have hf : (List.filter (fun c => !isD c) (e :: d)) = [] := filt.mpr hA
              have hne : ∀ st Q E, Z (eqM (.lst []) (.lst []) st) Q E = Q (.bl true) st := by
                intro st Q E
                rw [Z_eqP (by simp [okP, plP, plPs, depP, depPs]) (by simp [okP, plP, plPs, depP, depPs])]; simp
              by_cases he : e = 48
              · subst he
                by_cases h1 : d = []
                · subst h1
                  have e2 : nmK [c, 48] = [c] := by rcases hc with rfl | rfl <;> simp [nmK, dueK, isD]
                  rw [e2] at q
                  rcases hc with rfl | rfl <;> simp [h0, Z_inT, flatP, eqb, l1, l2, cutC2, hlc, hf, hne, -List.filter_cons] <;> exact q
                · have hp := List.length_pos_iff.mpr h1
                  have e2 : nmK (c :: 48 :: d) = [] := by simp [nmK, dueK, hp]
                  rw [e2] at q
                  rcases hc with rfl | rfl <;> simp [h0, Z_inT, flatP, eqb, l1, l2, cutC2, h5', h1', hlc, hf, hne, h1, -List.filter_cons] <;> exact q
              · have h54 : d.length ≤ 4 := by omega
                have e2 : nmK (c :: e :: d) = [c] := by rcases hc with rfl | rfl <;> simp [nmK, dueK, hA, he, h54, -List.all_cons]
                rw [e2] at q
                rcases hc with rfl | rfl <;> simp [h0, Z_inT, flatP, eqb, l1, l2, cutC2, h5', h1', hlc, hf, hne, he, -List.filter_cons] <;> exact q
          · have h5' : ¬ (d.length : Int) + 1 < 6 := by omega
            have h1' : 0 < (d.length : Int) + 1 := by omega
            have h54 : ¬ d.length ≤ 4 := by omega
            have e2 : nmK (c :: e :: d) = [] := by simp [nmK, dueK, h54]
            rw [e2] at q
            rcases hc with rfl | rfl <;> simp [h0, Z_inT, flatP, eqb, l1, l2, cutC2, h5', h1'] <;> exact q
      · have hc2 : ((110 : Nat) == c) = false := by simp; omega
        have hc3 : ((114 : Nat) == c) = false := by simp; omega
        have e : nmK (c :: d) = [] := by simp [nmK, dueK, hc]
        rw [e] at q
        simp [h0, Z_inT, flatP, eqb, l1, cutC2, hc2, hc3]
        exact q
    · simp [h0] at *
      exact q
end
section
variable {n : Nat} {Q : PV → Sto → Prop} {E : Exn → Sto → Prop}
theorem law_kind_bl {k : Nat} {b : Bool} {a : List Nat} {st : Sto} (ha : Sg a 100) (hq : ∀ ys, Q (.str []) (st ++ ys)) : Z (F__law_kind n (k + 1) [.tup [.bl b, .str a]] st) Q E := by
  have hn := fun Q E => eq_nil (st := st ++ [.dct dK1, .dct dK2]) (Q := Q) (E := E) (xs := [.bl b, .str a]) (d := 1) (.tup (by simp) (by simp; exact ⟨.bl, .str ha⟩)) (by omega)
  unfold dK1 dK2 at hn
  have l1 := sgs ha
  rw [z__law_kind]; unfold b__law_kind
  simp [keysOk, mergeP, putP, hn, l1]
  exact hq _
theorem law_kind_no {k d : Nat} {x : PV} {r : List PV} {st : Sto} (h : WT (d + 1) (.tup (x :: r))) (hd : d ≤ 50) (hs : ∀ a, x ≠ .str a) (h2 : (∃ i, x = .int i) ∨ (∃ b, x = .bl b) → ∀ a, r ≠ [.str a])
    (hq : ∀ ys, Q (.str []) (st ++ ys)) : Z (F__law_kind n (k + 1) [.tup (x :: r)] st) Q E := by
  have hn := fun Q E => eq_nil (st := st ++ [.dct dK1, .dct dK2]) (Q := Q) (E := E) h (by omega)
  unfold dK1 dK2 at hn
  rw [z__law_kind]; unfold b__law_kind
  have h0 := h.part (x := x) (by simp)
  have one : (r.length : Int) + 1 = 2 → ∃ y, r = [y] := fun e => by
    have : r.length = 1 := by omega
    match r, this with
    | [y], _ => exact ⟨y, rfl⟩
  cases h0 with
  | str => exact absurd rfl (hs _)
  | int =>
    by_cases h2' : (r.length : Int) + 1 = 2
    · obtain ⟨y, rfl⟩ := one h2'
      have hy := h.part (x := y) (by simp)
      cases hy with
      | str => exact absurd rfl (h2 (.inl ⟨_, rfl⟩) _)
      | _ => simp [keysOk, mergeP, putP, hn]; exact hq _
    · simp [keysOk, mergeP, putP, hn, h2']; exact hq _
  | bl =>
    by_cases h2' : (r.length : Int) + 1 = 2
    · obtain ⟨y, rfl⟩ := one h2'
      have hy := h.part (x := y) (by simp)
      cases hy with
      | str => exact absurd rfl (h2 (.inr ⟨_, rfl⟩) _)
      | _ => simp [keysOk, mergeP, putP, hn]; exact hq _
    · simp [keysOk, mergeP, putP, hn, h2']; exact hq _
  | _ =>
    by_cases h2' : (r.length : Int) + 1 = 2
    · simp [keysOk, mergeP, putP, hn, h2']; exact hq _
    · simp [keysOk, mergeP, putP, hn, h2']; exact hq _
theorem kdL_no {x : PV} {r : List PV} (hs : ∀ a, x ≠ .str a) (h2 : ∀ i a, ¬ (x = .int i ∧ r = [.str a])) : kdL (.tup (x :: r)) = [] := by
  rw [kdL.eq_def]
  dsimp only
  split
  · rename_i op r' y ks e1 e2
    cases e1
    exact absurd rfl (hs _)
  · rename_i i a e1
    cases e1
    exact absurd ⟨rfl, rfl⟩ (h2 _ _)
  · rfl
theorem kdL_nm {i : Int} {a : List Nat} : kdL (.tup [.int i, .str a]) = if 0 ≤ i then nmK a else [] := rfl
theorem law_kind_spec : ∀ (k d : Nat) (p : PV) (st : Sto) (Q : PV → Sto → Prop) (E : Exn → Sto → Prop), WT d p → d ≤ k → k ≤ 50 → (∀ ys, Q (.str (kdL p)) (st ++ ys)) → Z (F__law_kind n (k + 1) [p] st) Q E := by
  have atoms : ∀ (k d : Nat) (p : PV) (st : Sto) (Q : PV → Sto → Prop) (E : Exn → Sto → Prop), WT d p → (∀ xs, p ≠ .tup xs) → (∀ ys, Q (.str (kdL p)) (st ++ ys)) → Z (F__law_kind n (k + 1) [p] st) Q E := by
    intro k d p st Q E h hx hq
    rw [z__law_kind]; unfold b__law_kind
    cases h with
    | tup => exact absurd rfl (hx _)
    | int =>
      rename_i i
      simp [kdL, keysOk, mergeP, putP] at *
      by_cases h1 : -32768 ≤ i
      · by_cases h2 : i ≤ 32767
        · simp [h1, h2] at *
          exact hq _
        · simp [h1, h2] at *
          exact hq _
      · simp [h1] at *
        exact hq _
    | _ => simp [kdL, keysOk, mergeP, putP] at *; exact hq _
  intro k
  induction k with
  | zero =>
    intro d p st Q E h hd _ hq
    refine atoms 0 d p st Q E h (fun xs e => ?_) hq
    subst e
    cases h; omega
  | succ k ih =>
    intro d p st Q E h hd hk hq
    cases h with
    | @tup d xs hl hx =>
      cases xs with
      | nil =>
        have hn := fun Q E => eq_nil (st := st ++ [.dct dK1, .dct dK2]) (Q := Q) (E := E) (.tup (d := d) hl hx) (by omega)
        unfold dK1 dK2 at hn
        rw [z__law_kind]; unfold b__law_kind
        simp [keysOk, mergeP, putP, hn]
        exact hq _
      | cons x r =>
        have h := WT.tup hl hx
        have hx0 := hx x (by simp)
        have no : (∀ a, x ≠ .str a) → ((∃ i, x = .int i) ∨ (∃ b, x = .bl b) → ∀ a, r ≠ [.str a]) → Z (F__law_kind n (k + 1 + 1) [.tup (x :: r)] st) Q E := fun h1 h2 => by
          refine law_kind_no h (by omega) h1 h2 fun ys => ?_
          have q := hq ys
          rwa [kdL_no h1 (fun i a e => h2 (.inl ⟨i, e.1⟩) a e.2)] at q
        cases hx0 with
        | str hs => exact law_kind_op (by omega) (by omega) h (fun p st Q E hw => ih d p st Q E hw (by omega) (by omega)) hq
        | @int _ i =>
          by_cases hr : ∃ a, r = [.str a]
          · obtain ⟨a, rfl⟩ := hr
            have ha := hx (.str a) (by simp)
            cases ha with
            | str hs => exact law_kind_nm hs fun ys => by have q := hq ys; rwa [kdL_nm] at q
          · exact no (by simp) fun _ a e => hr ⟨a, e⟩
        | @bl _ b =>
          by_cases hr : ∃ a, r = [.str a]
          · obtain ⟨a, rfl⟩ := hr
            have ha := hx (.str a) (by simp)
            cases ha with
            | str hs => exact law_kind_bl hs fun ys => by have q := hq ys; rwa [kdL_no (by simp) (by simp)] at q
          · exact no (by simp) fun _ a e => hr ⟨a, e⟩
        | non => exact no (by simp) (by simp)
        | tup => exact no (by simp) (by simp)
    | _ => exact atoms (k + 1) 0 _ st Q E (by constructor <;> assumption) (by simp) hq
end
section
theorem tab_cases (op : List Nat) : lookT tab_OPERATIONS op = none ∨ (∃ k ks, lookT tab_OPERATIONS op = some (.tup [.str [k], .str ks]) ∧ ks.length ≤ 3) ∨ lookT tab_OPERATIONS op = some (.tup [.str [114], .non]) := by
  by_cases h0 : op = [97, 100, 100]
  · subst h0; exact .inr (.inl ⟨110, [110, 110], by simp [lookT, tab_OPERATIONS], by simp⟩)
  by_cases h1 : op = [115, 117, 98]
  · subst h1; exact .inr (.inl ⟨110, [110, 110], by simp [lookT, tab_OPERATIONS], by simp⟩)
  by_cases h2 : op = [109, 117, 108]
  · subst h2; exact .inr (.inl ⟨110, [110, 110], by simp [lookT, tab_OPERATIONS], by simp⟩)
  by_cases h3 : op = [100, 105, 118]
  · subst h3; exact .inr (.inl ⟨110, [110, 110], by simp [lookT, tab_OPERATIONS], by simp⟩)
  by_cases h4 : op = [114, 101, 115, 116]
  · subst h4; exact .inr (.inl ⟨110, [110, 110], by simp [lookT, tab_OPERATIONS], by simp⟩)
  by_cases h5 : op = [108, 101, 115, 115]
  · subst h5; exact .inr (.inl ⟨110, [110, 110], by simp [lookT, tab_OPERATIONS], by simp⟩)
  by_cases h6 : op = [115, 97, 109, 101]
  · subst h6; exact .inr (.inl ⟨110, [110, 110], by simp [lookT, tab_OPERATIONS], by simp⟩)
  by_cases h7 : op = [112, 105, 99, 107]
  · subst h7; exact .inr (.inl ⟨110, [110, 110, 110], by simp [lookT, tab_OPERATIONS], by simp⟩)
  by_cases h8 : op = [99, 111, 112, 121]
  · subst h8; exact .inr (.inl ⟨110, [110], by simp [lookT, tab_OPERATIONS], by simp⟩)
  by_cases h9 : op = [97, 116]
  · subst h9; exact .inr (.inl ⟨110, [114, 110], by simp [lookT, tab_OPERATIONS], by simp⟩)
  by_cases h10 : op = [115, 105, 122, 101]
  · subst h10; exact .inr (.inl ⟨110, [114], by simp [lookT, tab_OPERATIONS], by simp⟩)
  by_cases h11 : op = [112, 117, 116]
  · subst h11; exact .inr (.inl ⟨114, [114, 110, 110], by simp [lookT, tab_OPERATIONS], by simp⟩)
  by_cases h12 : op = [109, 97, 110, 121]
  · subst h12; exact .inr (.inl ⟨114, [110, 110], by simp [lookT, tab_OPERATIONS], by simp⟩)
  by_cases h13 : op = [109, 97, 107, 101]
  · subst h13; exact .inr (.inr (by simp [lookT, tab_OPERATIONS]))
  by_cases h14 : op = [107, 101, 101, 112]
  · subst h14; exact .inr (.inl ⟨114, [114], by simp [lookT, tab_OPERATIONS], by simp⟩)
  have g0 : ¬ [97, 100, 100] = op := fun e => h0 e.symm
  have g1 : ¬ [115, 117, 98] = op := fun e => h1 e.symm
  have g2 : ¬ [109, 117, 108] = op := fun e => h2 e.symm
  have g3 : ¬ [100, 105, 118] = op := fun e => h3 e.symm
  have g4 : ¬ [114, 101, 115, 116] = op := fun e => h4 e.symm
  have g5 : ¬ [108, 101, 115, 115] = op := fun e => h5 e.symm
  have g6 : ¬ [115, 97, 109, 101] = op := fun e => h6 e.symm
  have g7 : ¬ [112, 105, 99, 107] = op := fun e => h7 e.symm
  have g8 : ¬ [99, 111, 112, 121] = op := fun e => h8 e.symm
  have g9 : ¬ [97, 116] = op := fun e => h9 e.symm
  have g10 : ¬ [115, 105, 122, 101] = op := fun e => h10 e.symm
  have g11 : ¬ [112, 117, 116] = op := fun e => h11 e.symm
  have g12 : ¬ [109, 97, 110, 121] = op := fun e => h12 e.symm
  have g13 : ¬ [109, 97, 107, 101] = op := fun e => h13 e.symm
  have g14 : ¬ [107, 101, 101, 112] = op := fun e => h14 e.symm
  exact .inl (by simp [lookT, tab_OPERATIONS, g0, g1, g2, g3, g4, g5, g6, g7, g8, g9, g10, g11, g12, g13, g14])

variable {n : Nat} {Q : PV → Sto → Prop} {E : Exn → Sto → Prop}
def kwR (e : Nat) (p : PV) : PV := if kdL p ≠ [] ∧ deL p ≤ e ∧ paL p ≤ 60 then .tup [.str (kdL p), .int (paL p)] else .tup [.non, .int 1]
theorem deL_pos (p : PV) : 1 ≤ deL p := by
  rw [deL.eq_def]
  split
  · split <;> omega
  · omega
def isNum : PV → Bool
  | .int i => decide (-32768 ≤ i ∧ i ≤ 32767)
  | _ => false
theorem num_spec {d : Nat} {p : PV} {st : Sto} (h : WT d p) : Z (F_is_number n [p] st) Q E = Q (.bl (isNum p)) st := by
  rw [z_is_number]; unfold b_is_number
  cases h with
  | @int _ i =>
    by_cases h1 : -32768 ≤ i
    · by_cases h2 : i ≤ 32767 <;> simp [h1, h2, isNum]
    · simp [h1, isNum]
  | _ => simp [isNum]
theorem dueK_nmK (a : List Nat) : dueK a = if nmK a = [] then .non else .str (nmK a) := by
  unfold nmK
  have : dueK a = .non ∨ ∃ z, z ≠ [] ∧ dueK a = .str z := by
    unfold dueK
    cases a with
    | nil => simp
    | cons c d =>
      dsimp only
      by_cases h : (c = 110 ∨ c = 114) ∧ d ≠ [] ∧ d.length ≤ 5 ∧ d.all isD = true ∧ ¬(d.head? = some 48 ∧ 1 < d.length)
      · rw [if_pos h]; exact .inr ⟨_, by simp, rfl⟩
      · rw [if_neg h]; exact .inl rfl
  rcases this with e | ⟨z, hz, e⟩
  · rw [e]; simp
  · rw [e]; simp [hz]
theorem named_spec {i : Int} {a : List Nat} {st : Sto} (ha : Sg a 100) : Z (F_is_named n [.tup [.int i, .str a]] st) Q E = Q (.bl (decide (0 ≤ i ∧ nmK a ≠ []))) st := by
  rw [z_is_named]; unfold b_is_named
  by_cases h0 : i < 0
  · have h1 : ¬ 0 ≤ i := by omega
    simp [h0, h1]
  · have h1 : 0 ≤ i := by omega
    simp [h0, h1, kind_spec ha.1, dueK_nmK]
    by_cases hn : nmK a = [] <;> simp [hn, nonP]
theorem named_no {d : Nat} {p : PV} {st : Sto} (h : WT d p) (hn : ∀ i a, p ≠ .tup [.int i, .str a]) : Z (F_is_named n [p] st) Q E = Q (.bl false) st := by
  rw [z_is_named]; unfold b_is_named
  cases h with
  | @tup d xs hl hx =>
    by_cases h2 : (xs.length : Int) = 2
    · have : xs.length = 2 := by omega
      match xs, this with
      | [x, y], _ =>
        have h1 := hx x (by simp)
        have h3 := hx y (by simp)
        cases h3 with
        | str hs =>
          cases h1 with
          | int => exact absurd rfl (hn _ _)
          | _ => simp
        | _ => simp
    · simp [h2]
  | _ => simp
end
section
variable {n : Nat} {Q : PV → Sto → Prop} {E : Exn → Sto → Prop}
def allR (e : Nat) (r : List PV) (due : List Nat) (parts : Nat) : Prop := r.map kdL = due.map (fun c => [c]) ∧ (∀ p ∈ r, deL p ≤ e) ∧ parts + (r.map paL).sum ≤ 60
theorem kw_loop {e : Nat} {fr : List PV → M PV} {st : Sto} {QF : Fl → Sto → Prop} {x0 x2 x3 : Option PV} (hf : ∀ p, ∀ d, WT d p → d ≤ 50 → ∀ (Q : PV → Sto → Prop) (E : Exn → Sto → Prop), Q (kwR e p) st → Z (fr [p, .int (e : Int)] st) Q E) {w : Nat} (hw : w ≤ 50) :
    ∀ (r : List PV) (due : List Nat) (parts : Nat) (x5 x6 x7 x8 : Option PV), r.length = due.length → (∀ p ∈ r, WT w p) → parts ≤ 60 →
      (allR e r due parts → ∀ x5 x6 x7 x8, QF (.next [x0, some (.int ((e : Int) + 1)), x2, x3, some (.int ((parts + (r.map paL).sum : Nat) : Int)), x5, x6, x7, x8]) st) → (¬ allR e r due parts → QF (.ret (.tup [.non, .int 1])) st) →
      Z (forL (gT 2 (gsCons (gN 5) (gsCons (gN 6) gsNil))) (L0_kind_within n fr) (zipP r (due.map fun c => .str [c])) [x0, some (.int ((e : Int) + 1)), x2, x3, some (.int (parts : Int)), x5, x6, x7, x8] st) QF E
  | [], due, parts, x5, x6, x7, x8, hl, _, hp, h1, h2 => by
    have : due = [] := by cases due with | nil => rfl | cons => simp at hl
    subst this
    have := h1 ⟨rfl, by simp, by simpa using hp⟩ x5 x6 x7 x8
    simp only [zipP]
    rw [Z_forL_nil]
    simpa using this
  | p :: r, [], parts, x5, x6, x7, x8, hl, _, hp, h1, h2 => by simp at hl
  | p :: r, c :: due, parts, x5, x6, x7, x8, hl, hx, hp, h1, h2 => by
    simp only [List.length_cons, Nat.add_right_cancel_iff] at hl
    simp only [List.map_cons, zipP]
    rw [Z_forL]
    simp
    rw [zL0_kind_within]
    simp
    refine hf p w (hx p (by simp)) hw _ _ ?_
    simp
    unfold kwR
    by_cases hk : kdL p ≠ [] ∧ deL p ≤ e ∧ paL p ≤ 60
    · rw [if_pos hk]
      simp
      by_cases hc : kdL p = [c]
      · simp [hc]
        by_cases h60 : (60 : Int) < (parts : Int) + paL p
        · simp [h60]
          refine h2 fun a => ?_
          have := a.2.2
          simp at this
          omega
        · simp [h60]
          have e1 : (parts : Int) + (paL p : Int) = ((parts + paL p : Nat) : Int) := by simp
          rw [e1]
          refine kw_loop hf hw r due (parts + paL p) _ _ _ _ hl (fun q hq => hx q (by simp [hq])) (by omega) (fun a x5 x6 x7 x8 => ?_) fun a => ?_
          · have := h1 ⟨by simp [hc, a.1], by simp; exact ⟨hk.2.1, a.2.1⟩, by have := a.2.2; simp; omega⟩ x5 x6 x7 x8
            simpa [Nat.add_assoc] using this
          · refine h2 fun b => a ⟨?_, fun q hq => b.2.1 q (by simp [hq]), ?_⟩
            · have := b.1; simp at this; exact this.2
            · have := b.2.2; simp at this; omega
      · simp [hc]
        refine h2 fun a => hc ?_
        have := a.1
        simp at this
        exact this.1
    · rw [if_neg hk]
      simp
      rw [Z_ne (by simp [cmpOk, scalP])]
      simp [shal, eqb]
      refine h2 fun a => hk ⟨?_, a.2.1 p (by simp), ?_⟩
      · have := a.1
        simp at this
        simp [this.1]
      · have := a.2.2
        simp at this
        omega
theorem mxL_le {e : Nat} : ∀ {l : List Nat}, mxL l ≤ e ↔ ∀ x ∈ l, x ≤ e
  | [] => by simp [mxL]
  | a :: l => by simp [mxL, Nat.max_le, mxL_le]
theorem sum_min {m : Int} (h0 : 0 ≤ m) : (if (m : Int) < 8 then m else 8).toNat = min m.toNat 8 := by split <;> omega
theorem kwR_op {e k : Nat} {op ks : List Nat} {r : List PV} (h : opL op r.length = k :: ks) : kwR (e + 1) (.tup (.str op :: r)) = @ite _ (allR e r ks 1) (Classical.propDecidable _) (.tup [.str [k], .int ((1 + (r.map paL).sum : Nat) : Int)]) (.tup [.non, .int 1]) := by
  unfold kwR
  rw [deL_op, paL_op, kdL_op, h]
  dsimp only
  by_cases ha : allR e r ks 1
  · simp only [if_pos ha.1]
    rw [if_pos ha, if_pos ⟨by simp, (by
      have := mxL_le.mpr (fun x hx => by simp at hx; obtain ⟨q, hq, rfl⟩ := hx; exact ha.2.1 q hq : ∀ x ∈ r.map deL, x ≤ e)
      omega), ha.2.2⟩]
  · rw [if_neg ha, if_neg]
    rintro ⟨h1, h2, h3⟩
    refine ha ⟨?_, fun q hq => mxL_le.mp (show mxL (r.map deL) ≤ e by omega) _ (by simp; exact ⟨q, hq, rfl⟩), h3⟩
    exact Classical.byContradiction fun q => by rw [if_neg q] at h1; exact h1 rfl
theorem kwR_no {e : Nat} {op : List Nat} {r : List PV} (h : opL op r.length = []) : kwR e (.tup (.str op :: r)) = .tup [.non, .int 1] := by
  unfold kwR
  rw [kdL_op, h]
  simp
theorem kinds_spec {op : List Nat} {st : Sto} : Z (F_kinds_of n [.str op] st) Q E = Q ((lookT tab_OPERATIONS op).getD .non) st := by
  rw [z_kinds_of]; unfold b_kinds_of
  simp
theorem kw_spec : ∀ (e f d : Nat) (p : PV) (st : Sto) (Q : PV → Sto → Prop) (E : Exn → Sto → Prop), WT d p → d ≤ 50 → e < f → Q (kwR e p) st → Z (F_kind_within n f [p, .int (e : Int)] st) Q E := by
  intro e
  induction e with
  | zero =>
    intro f d p st Q E h hd hf hq
    obtain ⟨f, rfl⟩ : ∃ j, f = j + 1 := ⟨f - 1, by omega⟩
    rw [z_kind_within]; unfold b_kind_within
    have := deL_pos p
    have hk : kwR 0 p = .tup [.non, .int 1] := by unfold kwR; rw [if_neg (by omega)]
    rw [hk] at hq
    simp
    exact hq
  | succ e ih =>
    intro f d p st Q E h hd hf hq
    obtain ⟨f, rfl⟩ : ∃ j, f = j + 1 := ⟨f - 1, by omega⟩
    rw [z_kind_within]; unfold b_kind_within
    have he : ¬ (e : Int) + 1 = 0 := by omega
    have no : ∀ q, kdL q = [] → kwR (e + 1) q = .tup [.non, .int 1] := fun q hq => by unfold kwR; rw [if_neg (by simp [hq])]
    simp [he, num_spec h]
    cases h with
    | non => rw [no _ (show kdL .non = [] by simp [kdL])] at hq; simp [isNum, named_no WT.non (d := 0)]; exact hq
    | bl => rw [no _ (show kdL (.bl _) = [] by simp [kdL])] at hq; simp [isNum, named_no WT.bl (d := 0)]; exact hq
    | str hs => rw [no _ (show kdL (.str _) = [] by simp [kdL])] at hq; simp [isNum, named_no (WT.str hs) (d := 0)]; exact hq
    | @int _ i =>
      by_cases hi : -32768 ≤ i ∧ i ≤ 32767
      · have hk : kdL (.int i) = [110] := by rw [kdL, if_pos hi]
        simp [kwR, hk, deL, paL] at hq
        simp [isNum, hi]
        exact hq
      · have hk : kdL (.int i) = [] := by rw [kdL, if_neg hi]
        rw [no _ hk] at hq
        simp [isNum, hi, named_no WT.int (d := 0)]
        exact hq
    | @tup d xs hl hx =>
      have h := WT.tup hl hx
      simp [isNum]
      by_cases hnm : ∃ i a, xs = [.int i, .str a]
      · obtain ⟨i, a, rfl⟩ := hnm
        have ha := hx (.str a) (by simp)
        cases ha with
        | str ha =>
          rw [named_spec ha]
          by_cases h0 : 0 ≤ i ∧ nmK a ≠ []
          · have hk : kdL (.tup [.int i, .str a]) = nmK a := by rw [kdL_nm, if_pos h0.1]
            have hd : deL (.tup [.int i, .str a]) = 1 := rfl
            have hp : paL (.tup [.int i, .str a]) = 1 := rfl
            simp [kwR, hk, hd, hp, h0] at hq
            simp [h0, kind_spec ha.1, dueK_nmK]
            exact hq
          · have hk : kdL (.tup [.int i, .str a]) = [] := by
              rw [kdL_nm]
              by_cases hi : 0 ≤ i
              · rw [if_pos hi]; exact Classical.byContradiction fun q => h0 ⟨hi, q⟩
              · rw [if_neg hi]
            rw [no _ hk] at hq
            simp only [h0, decide_false]
            simp
            exact hq
      · rw [named_no h (fun i a e => hnm ⟨i, a, by simpa using e⟩)]
        cases xs with
        | nil => rw [no _ (show kdL (.tup []) = [] from rfl)] at hq; simp; exact hq
        | cons x r =>
          have hx0 := hx x (by simp)
          have nos : (∀ a, x ≠ .str a) → kwR (e + 1) (.tup (x :: r)) = .tup [.non, .int 1] := fun hs => no _ (kdL_no hs fun i a ee => hnm ⟨i, a, by rw [ee.1, ee.2]⟩)
          have hrl : ¬ (r.length : Int) + 1 = 0 := by omega
          cases hx0 with
          | @str _ op hs =>
            simp only [List.length_cons] at hl
            have lp : ∀ ks : List Nat, ks.length = r.length → ∀ (x2 x3 : Option PV) (QF : Fl → Sto → Prop), (allR e r ks 1 → ∀ x5 x6 x7 x8, QF (.next [some (.tup (.str op :: r)), some (.int ((e : Int) + 1)), x2, x3, some (.int ((1 + (r.map paL).sum : Nat) : Int)), x5, x6, x7, x8]) st) → (¬ allR e r ks 1 → QF (.ret (.tup [.non, .int 1])) st) →
                Z (forL (gT 2 (gsCons (gN 5) (gsCons (gN 6) gsNil))) (L0_kind_within n (F_kind_within n f)) (zipP r (ks.map fun c => .str [c])) [some (.tup (.str op :: r)), some (.int ((e : Int) + 1)), x2, x3, some (.int 1), none, none, none, none] st) QF MP.E0 := fun ks hk2 x2 x3 QF h1 h2 =>
              kw_loop (fun p d hp hd Q E => ih f d p st Q E hp hd (by omega)) (w := d) (by omega) r ks 1 _ _ _ _ hk2.symm (fun p hp => hx p (by simp [hp])) (by omega) h1 h2
            simp [hrl, kinds_spec]
            rcases tab_cases op with ht | ⟨k, ks, ht, hkl⟩ | ht
            · have ho : opL op r.length = [] := by unfold opL; rw [ht]
              rw [kwR_no ho] at hq
              simp [ht, nonP]
              exact hq
            · have ho : opL op r.length = k :: ks := by unfold opL; rw [ht]; rfl
              have hk1 : ks.length ≤ 16777216 := by omega
              rw [kwR_op ho] at hq
              simp [ht, nonP, hk1]
              by_cases hlen : (ks.length : Int) = r.length
              · have hlen2 : ks.length = r.length := by omega
                simp [hlen2, cutT1]
                refine lp ks hlen2 _ _ _ (fun a x5 x6 x7 x8 => ?_) fun a => ?_
                · rw [if_pos a] at hq; simpa using hq
                · rw [if_neg a] at hq; simpa using hq
              · have : ¬ allR e r ks 1 := fun a => hlen (by have := congrArg List.length a.1; simp at this; omega)
                rw [if_neg this] at hq
                simp [hlen]
                exact hq
            · have h8 : (if (r.length : Int) < 8 then (r.length : Int) else 8).toNat = min r.length 8 := by split <;> omega
              have h9 : -1000000 ≤ (if (r.length : Int) < 8 then (r.length : Int) else 8) ∧ (if (r.length : Int) < 8 then (r.length : Int) else 8) ≤ 1000 := by split <;> omega
              have h6 : min r.length 8 ≤ 16777216 := by omega
              simp [ht, nonP, h8, h9, h6]
              by_cases hlen : r.length ≤ 8
              · have ho : opL op r.length = 114 :: List.replicate r.length 110 := by unfold opL; rw [ht]; simp [hlen]
                rw [kwR_op ho] at hq
                have h7 : min r.length 8 = r.length := by omega
                simp [h7, cutT1]
                have := lp (List.replicate r.length 110) (by simp)
                simp at this
                refine this _ _ _ (fun a x5 x6 x7 x8 => ?_) fun a => ?_
                · rw [if_pos a] at hq; simpa using hq
                · rw [if_neg a] at hq; simpa using hq
              · have ho : opL op r.length = [] := by unfold opL; rw [ht]; simp [hlen]
                rw [kwR_no ho] at hq
                have h7 : ¬ (((min r.length 8 : Nat) : Int) = (r.length : Int)) := by omega
                simp only [h7, decide_false]
                simp
                exact hq
          | non => rw [nos (by simp)] at hq; simp [hrl]; exact hq
          | bl => rw [nos (by simp)] at hq; simp [hrl]; exact hq
          | int => rw [nos (by simp)] at hq; simp [hrl]; exact hq
          | tup => rw [nos (by simp)] at hq; simp [hrl]; exact hq
theorem term_spec {d : Nat} {p : PV} {st : Sto} (h : WT d p) (hd : d ≤ 50) (hq : Q (if kdL p ≠ [] ∧ deL p ≤ 12 ∧ paL p ≤ 60 then .str (kdL p) else .non) st) : Z (F_kind_of_term n [p] st) Q E := by
  rw [z_kind_of_term]; unfold b_kind_of_term
  simp
  refine kw_spec 12 20 d p st _ _ h hd (by omega) ?_
  unfold kwR
  by_cases hk : kdL p ≠ [] ∧ deL p ≤ 12 ∧ paL p ≤ 60
  · rw [if_pos hk] at hq
    rw [if_pos hk]
    simpa using hq
  · rw [if_neg hk] at hq
    rw [if_neg hk]
    simpa using hq
end
section
variable {n : Nat} {b : Nat} {Q : PV → Sto → Prop} {E : Exn → Sto → Prop}
inductive GT : Nat → PV → Prop
  | int {d : Nat} {i : Int} : GT d (.int i)
  | nam {d : Nat} {i : Int} {a : List Nat} (ha : Sg a 100) : GT (d + 1) (.tup [.int i, .str a])
  | op {d : Nat} {a : List Nat} {xs : List PV} (ha : Sg a 100) (hl : xs.length ≤ 8) (hx : ∀ x ∈ xs, GT d x) : GT (d + 1) (.tup (.str a :: xs))
theorem GT.up {d : Nat} {p : PV} (h : GT d p) : ∀ {k : Nat}, d ≤ k → GT k p := by
  induction h with
  | int => intro k _; exact .int
  | nam ha =>
    intro k hk
    obtain ⟨k, rfl⟩ : ∃ j, k = j + 1 := ⟨k - 1, by omega⟩
    exact .nam ha
  | op ha hl hx ih =>
    intro k hk
    obtain ⟨k, rfl⟩ : ∃ j, k = j + 1 := ⟨k - 1, by omega⟩
    exact .op ha hl fun x hx => ih x hx (by omega)
theorem GT.wt {d : Nat} {p : PV} (h : GT d p) : WT d p := by
  induction h with
  | int => exact .int
  | nam ha => exact .tup (by simp) (by simp; exact ⟨.int, .str ha⟩)
  | op ha hl hx ih => exact .tup (by simp; omega) (by simp; exact ⟨.str ha, ih⟩)
theorem number_spec {st : Sto} (B : BB st b) (hq : ∀ i s, BB s b → Q (.int i) s) : Z (F__law_number n [.loc b] st) Q E := by
  rw [z__law_number]; unfold b__law_number
  simp
  refine takeB B fun i s i0 i1 B1 _ => ?_
  simp
  refine takeB B1 fun j s j0 j1 B2 _ => ?_
  simp
  refine takeB B2 fun k s k0 k1 B3 _ => ?_
  obtain ⟨x, hx, i, rfl⟩ := atI_all (xs := [PV.int 0, .int 1, .int (i - 1), .int 32767, .int (-32768), .int (j - 32768)]) (i := k) k0 (by simpa using k1) (P := fun x => ∃ i, x = .int i) (by simp)
  simp [hx]
  exact hq _ _ B3
theorem leaf_spec {k : Nat} {st : Sto} (hk : k = 110 ∨ k = 114) (B : BB st b) (hq : ∀ p s, GT 1 p → BB s b → Q p s) : Z (F__law_leaf n [.loc b, .str [k]] st) Q E := by
  have fin : ∀ (st : Sto) (X1 X2 X3 : KX), BB st b → Z (F__law_take n [.loc b, .int 2] st) (kA1 (aCons (eBin addV (eVar 1) (eCall strM (aCons (eCall (F__law_take n) (aCons (eVar 0) (aCons (eC (.int 2)) aNil))) aNil))) aNil) [some (.loc b), some (.str [k])] (kF mkTup (kRet (runQ Q E)) X1) X2) X3 := by
    intro st X1 X2 X3 B
    refine takeB B fun i s i0 i1 B1 _ => ?_
    simp
    refine takeB B1 fun j s j0 j1 B2 _ => ?_
    have : j = 0 ∨ j = 1 := by omega
    obtain ⟨z, hz, hz1, hz2⟩ : ∃ z, intS j = z ∧ z.length ≤ 2 ∧ ∀ c ∈ z, c < 1114112 := by
      rcases this with rfl | rfl
      · exact ⟨[48], by decide +kernel, by decide, by decide⟩
      · exact ⟨[49], by decide +kernel, by decide, by decide⟩
    have hlog : j.natAbs.log2 < 1920 := by rcases this with rfl | rfl <;> decide
    have hl : 1 + z.length ≤ 16777216 := by omega
    simp [Z_strI hlog, hz, hl]
    exact hq _ _ (.nam ⟨by simp; omega, by rcases hk with rfl | rfl <;> simp <;> exact hz2⟩) B2
  rw [z__law_leaf]; unfold b__law_leaf
  rcases hk with rfl | rfl
  · simp
    refine takeB B fun i s i0 i1 B1 _ => ?_
    by_cases hi : i = 0
    · simp [hi]
      exact number_spec B1 fun i s B => hq _ _ .int B
    · simp [hi]
      exact fin _ _ _ _ B1
  · simp
    exact fin _ _ _ _ B
theorem lc_gen {fr : List PV → M PV} {d : Nat} {P : PV → Prop} {x1 : Option PV} {x3 x4 x5 : Option PV} {QL : List PV → Sto → Prop} {D : Int} : ∀ (cs : List Nat) (acc : List PV) (st : Sto), acc.length + cs.length < 1000 →
    (∀ c ∈ cs, ∀ (st : Sto) (Q : PV → Sto → Prop) (E : Exn → Sto → Prop), BB st b → (∀ p s, P p → BB s b → Q p s) → Z (fr [.loc b, .str [c], .int (D - 1)] st) Q E) → BB st b →
    (∀ ps s, ps.length = cs.length → (∀ p ∈ ps, P p) → BB s b → QL (acc ++ ps) s) →
    Z (lcL (gN 6) tYesM (eCall fr (aCons (eVar 0) (aCons (eVar 6) (aCons (eBin subV (eVar 2) (eC (.int 1))) aNil)))) [some (.loc b), x1, some (.int D), x3, x4, x5, none] (cs.map fun c => PV.str [c]) acc st) QL E
  | [], acc, st, _, _, B, hq => by
    rw [List.map_nil, lc_nil]
    simpa using hq [] st rfl (by simp) B
  | c :: cs, acc, st, hl, hf, B, hq => by
    simp only [List.length_cons] at hl
    have hz : acc.length < 16777216 := by omega
    rw [List.map_cons, lc_cons]
    simp
    refine hf c (by simp) st _ _ B fun p s hp B1 => ?_
    refine ⟨hz, ?_⟩
    refine lc_gen (d := d) (P := P) cs (acc ++ [p]) s (by simp; omega) (fun c hc => hf c (by simp [hc])) B1 fun ps s2 h1 h2 B2 => ?_
    have := hq (p :: ps) s2 (by simp [h1]) (by simp; exact ⟨hp, h2⟩) B2
    simpa using this
theorem cut3 {t : Int} : (cutL [110, 110, 110] none (some t)).length ≤ 3 ∧ ∀ c ∈ cutL [110, 110, 110] none (some t), c = 110 := by
  refine ⟨by have := cut_len (xs := [110, 110, 110]) (lo := none) (hi := some t); simpa using this, fun c hc => ?_⟩
  unfold cutL at hc
  have := List.mem_of_mem_drop (List.mem_of_mem_take hc)
  simpa using this
def KS (x : PV) : Prop := ∃ ks, x = .str ks ∧ ks.length ≤ 3 ∧ ∀ c ∈ ks, c = 110 ∨ c = 114
def OS (x : PV) : Prop := ∃ a, x = .str a ∧ Sg a 100
theorem os_of {a : List Nat} (h : a.length ≤ 100) (h2 : ∀ c ∈ a, c < 1114112) : OS (.str a) := ⟨a, rfl, h, h2⟩
theorem ks_of {a : List Nat} (h : a.length ≤ 3) (h2 : ∀ c ∈ a, c = 110 ∨ c = 114) : KS (.str a) := ⟨a, rfl, h, h2⟩
def tlT (fr : List PV → M PV) : Rho → M Fl :=
  (sRet (eBin addV (eCall mkTup (aCons (eBin ixM (eVar 3) (eVar 5)) aNil)) (eCall tupleM (aCons (eLcA lcV (iAny (eBin ixM (eVar 4) (eVar 5))) (gN 6) tYesM (eCall fr (aCons (eVar 0) (aCons (eVar 6) (aCons (eBin subV (eVar 2) (eC (.int 1))) aNil)))) [6]) aNil))))
theorem term_gen : ∀ (deep f k : Nat) (st : Sto) (Q : PV → Sto → Prop) (E : Exn → Sto → Prop), deep < f → (k = 110 ∨ k = 114) → BB st b → (∀ p s, GT (deep + 1) p → BB s b → Q p s) → Z (F__law_term n f [.loc b, .str [k], .int (deep : Int)] st) Q E := by
  intro deep
  induction deep with
  | zero =>
    intro f k st Q E hf hk B hq
    obtain ⟨f, rfl⟩ : ∃ j, f = j + 1 := ⟨f - 1, by omega⟩
    rw [z__law_term]; unfold b__law_term
    simp
    exact leaf_spec hk B hq
  | succ e ih =>
    intro f k st Q E hf hk B hq
    obtain ⟨f, rfl⟩ : ∃ j, f = j + 1 := ⟨f - 1, by omega⟩
    have he : ¬ (e : Int) + 1 = 0 := by omega
    rw [z__law_term]; unfold b__law_term
    rw [show (sRet (eBin addV (eCall mkTup (aCons (eBin ixM (eVar 3) (eVar 5)) aNil)) (eCall tupleM (aCons (eLcA lcV (iAny (eBin ixM (eVar 4) (eVar 5))) (gN 6) tYesM (eCall (F__law_term n f) (aCons (eVar 0) (aCons (eVar 6) (aCons (eBin subV (eVar 2) (eC (.int 1))) aNil)))) [6]) aNil)))) = tlT (F__law_term n f) from rfl]
    simp [he]
    refine takeB B fun i s i0 i1 B1 _ => ?_
    by_cases hi : i = 0
    · simp [hi]
      exact leaf_spec hk B1 fun p s h B => hq p s (h.up (by omega)) B
    · have go : ∀ (ops kds : List PV) (s : Sto) (x5 : Option PV) (j : Int), 0 ≤ j → j < ops.length → ops.length = kds.length → (∀ x ∈ ops, OS x) → (∀ x ∈ kds, KS x) → BB s b →
          Z (tlT (F__law_term n f) [some (.loc b), some (.str [k]), some (.int ((e : Int) + 1)), some (.lst ops), some (.lst kds), some (.int j), none] s) (runQ Q E) MP.E0 := by
        intro ops kds s x5 j j0 j1 hl ho hk2 B
        obtain ⟨x, hx, a, rfl, ha⟩ := atI_all j0 j1 ho
        obtain ⟨y, hy, ks, rfl, hy1, hy2⟩ := atI_all j0 (by rw [← hl]; exact j1) hk2
        have hks : ks.length ≤ 16777216 := by omega
        unfold tlT
        simp [hx, hy]
        refine lc_gen (d := e) (P := GT (e + 1)) ks [] s (by simp; omega) (fun c hc st Q E B h => ?_) B fun ps s2 h1 h2 B2 => ?_
        · have := ih f c st Q E (by omega) (hy2 c hc) B h
          have e1 : ((e : Int) + 1 - 1) = e := by omega
          rw [e1]; exact this
        · have : 1 + ps.length ≤ 16777216 := by omega
          simp [this]
          exact hq _ _ (.op ha (by omega) h2) B2
      simp [hi]
      rcases hk with rfl | rfl
      · simp
        refine takeB B1 fun j s j0 j1 B2 _ => ?_
        simp
        refine go _ _ _ none _ j0 ?_ rfl ?_ ?_ B2
        · simpa using j1
        · simp only [List.forall_mem_cons]
          refine ⟨?_, ?_, ?_, ?_, ?_, ?_, ?_, ?_, ?_, ?_, ?_, ?_, ?_, ?_⟩ <;> first | exact os_of (by simp) (by simp) | simp
        · simp only [List.forall_mem_cons]
          refine ⟨?_, ?_, ?_, ?_, ?_, ?_, ?_, ?_, ?_, ?_, ?_, ?_, ?_, ?_⟩ <;> first | exact ks_of (by simp) (by simp) | simp
      · simp
        refine takeB B1 fun t s t0 t1 B2 _ => ?_
        simp
        refine takeB B2 fun j s j0 j1 B3 _ => ?_
        simp
        refine go _ _ _ none _ j0 ?_ rfl ?_ ?_ B3
        · simpa using j1
        · simp only [List.forall_mem_cons]
          refine ⟨?_, ?_, ?_, ?_, ?_, ?_⟩ <;> first | exact os_of (by simp) (by simp) | simp
        · simp only [List.forall_mem_cons]
          refine ⟨?_, ?_, ?_, ?_, ?_, ?_⟩ <;> first | exact ks_of (by simp) (by simp) | exact ks_of cut3.1 (fun c hc => .inl (cut3.2 c hc)) | simp
end
section
variable {n : Nat} {b : Nat} {Q : PV → Sto → Prop} {E : Exn → Sto → Prop}
def wtB : Nat → PV → Bool
  | _, .non => true
  | _, .bl _ => true
  | _, .int _ => true
  | _, .str a => decide (a.length ≤ 100) && a.all fun c => decide (c < 1114112)
  | d + 1, .tup xs => decide (xs.length ≤ 20) && xs.all fun x => wtB d x
  | _, _ => false
theorem wtB_ok : ∀ (d : Nat) (p : PV), wtB d p = true → WT d p
  | d, .non, _ => .non
  | d, .bl _, _ => .bl
  | d, .int _, _ => .int
  | d, .str a, h => by
    unfold wtB at h
    simp at h
    exact .str ⟨h.1, h.2⟩
  | d + 1, .tup xs, h => by
    unfold wtB at h
    simp at h
    exact .tup h.1 fun x hx => wtB_ok d x (h.2 x hx)
  | 0, .tup _, h => by simp [wtB] at h
  | d, .lst _, h => by cases d <;> simp [wtB] at h
  | d, .frz _, h => by cases d <;> simp [wtB] at h
  | d, .ty _, h => by cases d <;> simp [wtB] at h
  | d, .gl _, h => by cases d <;> simp [wtB] at h
  | d, .loc _, h => by cases d <;> simp [wtB] at h
abbrev oddL : List PV := [PV.bl true, .non, .int 32768, .int (-32769), .tup [.int (-1), .str [110, 48]], .tup [.bl true, .str [110, 48]], .tup [.int 0, .str [110, 48, 48]], .tup [.int 0, .str [114, 55]], .tup [.int 0, .str [120, 49]], .tup [.str [97, 100, 100, 115], .int 1, .int 1], .tup [.str [97, 100, 100], .int 1], .tup [.str [109, 97, 107, 101], .int 1, .int 1, .int 1, .int 1, .int 1, .int 1, .int 1, .int 1, .int 1], .str [110, 48], .tup [], .tup [.int 0, .str [110, 48], .int 1], .tup [.str [99, 111, 112, 121], .tup [.int 0, .str [114, 48]]], .tup [.str [116, 105, 99, 107]], .tup [.int 99999, .str [110, 57, 57, 57, 57, 57]]]
theorem odd_list : ∀ x ∈ oddL, WT 2 x := by
  have h : ∀ (l : List PV), l.all (fun x => wtB 2 x) = true → ∀ x ∈ l, WT 2 x := fun l h x hx => wtB_ok 2 x (List.all_eq_true.mp h x hx)
  exact h _ (by decide +kernel)
theorem odd_spec {st : Sto} {T : MS1} {X Y W : KX} (B : BB st b) (hq : ∀ q s, WT 2 q → BB s b → Q q s) : Z (F__law_take n [.loc b, .int 18] st) (kB2 ixM (.lst oddL) (kRet (seqQ T (runQ Q E) X)) Y) W := by
  refine takeB B fun i s i0 i1 B1 _ => ?_
  obtain ⟨x, hx, hw⟩ := atI_all (xs := oddL) i0 (by simpa using i1) odd_list
  simp [hx]
  exact hq _ _ hw B1
theorem bent_spec : ∀ (d f : Nat) (p : PV) (st : Sto) (Q : PV → Sto → Prop) (E : Exn → Sto → Prop), GT d p → d < f → BB st b → (∀ q s, WT (d + 2) q → BB s b → Q q s) → Z (F__law_bent n f [.loc b, p] st) Q E := by
  intro d
  induction d with
  | zero =>
    intro f p st Q E h hf B hq
    obtain ⟨f, rfl⟩ : ∃ j, f = j + 1 := ⟨f - 1, by omega⟩
    rw [z__law_bent]; unfold b__law_bent
    cases h with
    | int =>
      simp
      exact odd_spec B hq
  | succ d ih =>
    intro f p st Q E h hf B hq
    obtain ⟨f, rfl⟩ : ∃ j, f = j + 1 := ⟨f - 1, by omega⟩
    rw [z__law_bent]; unfold b__law_bent
    have hq2 : ∀ q s, WT 2 q → BB s b → Q q s := fun q s h B => hq q s (h.up (by omega)) B
    cases h with
    | int => simp; exact odd_spec B hq2
    | nam ha => simp; exact odd_spec B hq2
    | @op _ a xs ha hl hx =>
      have hW : ∀ x ∈ (.str a :: xs), WT (d + 2) x := by
        simp only [List.forall_mem_cons]
        exact ⟨.str ha, fun x h => (hx x h).wt.up (by omega)⟩
      have wt : ∀ ys : List PV, ys.length ≤ 20 → (∀ y ∈ ys, y ∈ (.str a :: xs) ∨ WT (d + 2) y) → WT (d + 1 + 2) (.tup ys) := fun ys h1 h2 => .tup h1 fun y hy => by
        rcases h2 y hy with h | h
        · exact hW y h
        · exact h
      have cm : ∀ {lo hi : Option Int} {x : PV}, x ∈ cutL (.str a :: xs) lo hi → x ∈ (.str a :: xs) := fun h => by
        unfold cutL at h
        exact List.mem_of_mem_drop (List.mem_of_mem_take h)
      have cl : ∀ {lo hi : Option Int}, (cutL (.str a :: xs) lo hi).length ≤ 9 := by
        intro lo hi
        have := cut_len (xs := .str a :: xs) (lo := lo) (hi := hi)
        simp only [List.length_cons] at this
        omega
      simp
      refine takeB B fun i s i0 i1 B1 _ => ?_
      by_cases hi : i = 0
      · simp [hi]; exact odd_spec B1 hq2
      · simp [hi]
        refine takeB B1 fun j s j0 j1 B2 _ => ?_
        by_cases hj : j = 0
        · have hl2 : xs.length + 1 + 1 ≤ 16777216 := by omega
          simp [hj, hl2]
          refine hq _ _ (wt _ (by simp; omega) fun y hy => ?_) B2
          simp at hy
          rcases hy with h | h | h
          · exact .inl (by simp [h])
          · exact .inl (by simp [h])
          · exact .inr (by rw [h]; exact .int)
        · simp [hj]
          by_cases hj1 : j = 1
          · simp [hj1]
            exact hq _ _ (wt _ (by have := cl (lo := none) (hi := some (-1)); omega) fun y hy => .inl (cm hy)) B2
          · simp [hj1]
            by_cases hx0 : (xs.length : Int) + 1 = 1
            · simp [hx0]
              exact hq _ _ (wt _ (by have := cl (lo := none) (hi := some (-1)); omega) fun y hy => .inl (cm hy)) B2
            · simp [hx0]
              refine takeB B2 (fun t s t0 t1 B3 _ => ?_) (by omega) (log2_small (by omega))
              obtain ⟨y, hat, hyx⟩ : ∃ y, L2.atI (.str a :: xs) (1 + t) = some y ∧ y ∈ xs := by
                have e := atI_of (xs := .str a :: xs) (i := 1 + t) (by omega) (by simp; omega)
                have e2 : (1 + t).toNat = t.toNat + 1 := by omega
                refine ⟨_, e, ?_⟩
                simp only [e2, List.getElem_cons_succ]
                exact List.getElem_mem _
              simp [hat]
              refine ih f y s _ _ (hx y hyx) (by omega) B3 fun q s2 hw B4 => ?_
              have c1 := cl (lo := none) (hi := some (1 + t))
              have c2 := cl (lo := some (1 + t + 1)) (hi := none)
              have c3 : (cutL (.str a :: xs) none (some (1 + t))).length + 1 ≤ 16777216 := by omega
              have c4 : (cutL (.str a :: xs) none (some (1 + t))).length + ((cutL (.str a :: xs) (some (1 + t + 1)) none).length + 1) ≤ 16777216 := by omega
              simp [c3, c4]
              refine ⟨by omega, hq _ _ (wt _ ?_ fun z hz => ?_) B4⟩
              · have c5 : (cutL (.str a :: xs) none (some (1 + t))).length + ((cutL (.str a :: xs) (some (1 + t + 1)) none).length + 1) ≤ 20 := by omega
                simpa using c5
              · simp at hz
                rcases hz with h | h | h
                · exact .inl (cm h)
                · exact .inr (by rw [h]; exact hw)
                · exact .inl (cm h)
theorem great_spec {st : Sto} (B : BB st b) (hq : ∀ p s, GT 16 p → BB s b → Q p s) : Z (F__law_great n [.loc b] st) Q E := by
  rw [z__law_great]; unfold b__law_great
  simp
  refine leaf_spec (.inl rfl) B fun p s hp B1 => ?_
  simp
  refine takeB B1 fun t s t0 t1 B2 _ => ?_
  obtain ⟨t, rfl⟩ := Int.eq_ofNat_of_zero_le t0
  have ht : t ≤ 16777216 := by omega
  simp [ht]
  have loop : ∀ (ks : List PV) (m : Nat) (p : PV) (x2 x3 : Option PV) (QF : Fl → Sto → Prop), GT (m + 1) p → (∀ p x2, GT (m + 1 + ks.length) p → QF (.next [some (.loc b), some p, x2, x3]) s) → Z (forL (gN 2) (L0__law_great n) ks [some (.loc b), some p, x2, x3] s) QF MP.E0 := by
    intro ks
    induction ks with
    | nil => intro m p x2 x3 QF hp h; rw [Z_forL_nil]; exact h p x2 hp
    | cons k ks ih =>
      intro m p x2 x3 QF hp h
      rw [Z_forL, Z_gN]
      simp
      rw [zL0__law_great]
      simp
      refine ih (m + 1) _ _ _ QF (.op ⟨by simp, by simp⟩ (by simp) (by simpa using hp)) fun p x2 hp => h p x2 ?_
      simp only [List.length_cons]
      rw [show m + 1 + (ks.length + 1) = m + 1 + 1 + ks.length by omega]
      exact hp
  refine loop _ 0 p none none _ hp fun p x2 hp => ?_
  simp at hp
  have hp : GT 14 p := hp.up (by omega)
  simp
  refine takeB B2 fun j s j0 j1 B3 _ => ?_
  by_cases hj : j = 0
  · simp [hj]
    exact hq _ _ (hp.up (by omega)) B3
  · simp [hj]
    refine takeB B3 fun m s m0 m1 B4 _ => ?_
    obtain ⟨m, rfl⟩ := Int.eq_ofNat_of_zero_le m0
    have hm : m ≤ 16777216 := by omega
    simp [hm]
    have lc : ∀ (ks acc : List PV) (s : Sto) (QL : List PV → Sto → Prop) (X : KX), acc.length + ks.length ≤ 8 → (∀ p ∈ acc, GT 3 p) → BB s b → (∀ ps s, ps.length ≤ 8 → (∀ p ∈ ps, GT 3 p) → BB s b → QL ps s) →
        Z (lcL (gN 2) tYesM (eCall (F__law_term n 20) (aCons (eVar 0) (aCons (eC (.str [110])) (aCons (eC (.int 2)) aNil)))) [some (.loc b), some p, none, none] ks acc s) QL X := by
      intro ks
      induction ks with
      | nil => intro acc s QL X h1 h2 B h; rw [lc_nil]; exact h acc s (by simpa using h1) h2 B
      | cons k ks ih =>
        intro acc s QL X h1 h2 B h
        simp only [List.length_cons] at h1
        rw [lc_cons]
        simp
        refine term_gen 2 20 110 s _ _ (by omega) (.inl rfl) B fun q s hq B => ?_
        refine ⟨by omega, ih (acc ++ [q]) s QL X (by simp; omega) (fun r hr => ?_) B h⟩
        rcases List.mem_append.mp hr with h | h
        · exact h2 r h
        · simp at h; rw [h]; exact hq
    refine lc _ [] s _ _ (by simp; omega) (by simp) B4 fun ps s hps1 hps2 B5 => ?_
    have l1 : 1 + ps.length ≤ 16777216 := by omega
    simp [l1]
    refine term_gen 2 20 110 s _ _ (by omega) (.inl rfl) B5 fun q s hq2 B => ?_
    simp
    have gr : GT 4 (.tup (.str [109, 97, 107, 101] :: ps)) := .op ⟨by simp, by simp⟩ (by omega) hps2
    have gs : GT 5 (.tup [.str [115, 105, 122, 101], .tup (.str [109, 97, 107, 101] :: ps)]) := .op ⟨by simp, by simp⟩ (by simp) (by simpa using gr)
    have gp : GT 6 (.tup [.str [112, 117, 116], .tup (.str [109, 97, 107, 101] :: ps), .tup [.str [115, 105, 122, 101], .tup (.str [109, 97, 107, 101] :: ps)], q]) := .op ⟨by simp, by simp⟩ (by simp) (by
      simp; exact ⟨gr.up (by omega), gs, hq2.up (by omega)⟩)
    exact hq _ _ (.op (d := 15) ⟨by simp, by simp⟩ (by simp) (by simp; exact ⟨gp.up (by omega), hp.up (by omega)⟩)) B
end
section
variable {n : Nat} {E : Exn → Sto → Prop}
def tlL (n : Nat) : Rho → M Fl :=
  (sSeq (sSet 4 (eCall (F__law_kind n 20) (aCons (eVar 3) aNil)))
  (sSeq (sIf (tOrM (eB (eBin gtI (eCall (F__law_deep n 20) (aCons (eVar 3) aNil)) (eC (.int 12)))) (eB (eBin gtI (eCall (F__law_parts n 20) (aCons (eVar 3) aNil)) (eC (.int 60))))) (sSet 4 (eC (.str []))) sNext)
  (sSeq (sSet 5 (eCall (F_kind_of_term n) (aCons (eVar 3) aNil)))
  (sIf (tOrM (tAndM (eB (eBin eqM (eVar 4) (eC (.str [])))) (eB (eBin notN (eVar 5) (eC .non)))) (tAndM (eB (eBin neM (eVar 4) (eC (.str [])))) (eB (eBin neM (eVar 5) (eVar 4))))) (sRet (eC (.bl false))) sNext))))
theorem L0_spec {st : Sto} {i : Int} {x0 x2 x3 x4 x5 : Option PV} : Z (L0_law n [x0, some (.int i), x2, x3, x4, x5] st) (fun fl _ => ∃ x2 x3 x4 x5, fl = .next [x0, some (.int i), x2, x3, x4, x5]) E := by
  rw [zL0_law]
  have rest : ∀ (b : Nat) (p : PV) (s : Sto) (x4 x5 : Option PV), WT 19 p → Z (tlL n [x0, some (.int i), some (.loc b), some p, x4, x5] s) (fun fl _ => ∃ x2 x3 x4 x5, fl = .next [x0, some (.int i), x2, x3, x4, x5]) E := by
    intro b p s x4 x5 hp
    have hs := kdL_cases p
    unfold tlL
    simp
    refine law_kind_spec 19 19 p s _ _ hp (by omega) (by omega) fun ys => ?_
    simp
    refine deep_spec 19 19 p _ _ _ hp (by omega) (by omega) fun zs => ?_
    by_cases h1 : (12 : Int) < (deL p : Int)
    · have h1' : ¬ deL p ≤ 12 := by omega
      simp [h1]
      refine term_spec hp (by omega) ?_
      simp [h1', nonP]
    · have h1' : deL p ≤ 12 := by omega
      simp [h1]
      refine parts_spec 19 19 p _ _ _ hp (by omega) (by omega) fun ws => ?_
      by_cases h2 : (60 : Int) < (paL p : Int)
      · have h2' : ¬ paL p ≤ 60 := by omega
        simp [h2]
        refine term_spec hp (by omega) ?_
        simp [h2', nonP]
      · have h2' : paL p ≤ 60 := by omega
        simp [h2]
        refine term_spec hp (by omega) ?_
        by_cases hk : kdL p = []
        · simp [hk, nonP]
        · simp [hk, h1', h2']
  rw [show (sSeq (sSet 4 (eCall (F__law_kind n 20) (aCons (eVar 3) aNil)))
  (sSeq (sIf (tOrM (eB (eBin gtI (eCall (F__law_deep n 20) (aCons (eVar 3) aNil)) (eC (.int 12)))) (eB (eBin gtI (eCall (F__law_parts n 20) (aCons (eVar 3) aNil)) (eC (.int 60))))) (sSet 4 (eC (.str []))) sNext)
  (sSeq (sSet 5 (eCall (F_kind_of_term n) (aCons (eVar 3) aNil)))
  (sIf (tOrM (tAndM (eB (eBin eqM (eVar 4) (eC (.str [])))) (eB (eBin notN (eVar 5) (eC .non)))) (tAndM (eB (eBin neM (eVar 4) (eC (.str [])))) (eB (eBin neM (eVar 5) (eVar 4))))) (sRet (eC (.bl false))) sNext)))) = tlL n from rfl]
  have fin : ∀ (b : Nat) (p : PV) (s : Sto) (x3 : Option PV), GT 16 p → BB s b → Z (sSeq (sIf (eB (eBin eqM (eCall (F__law_take n) (aCons (eVar 2) (aCons (eC (.int 2)) aNil))) (eC (.int 0)))) (sSet 3 (eCall (F__law_bent n 20) (aCons (eVar 2) (aCons (eVar 3) aNil)))) sNext) (tlL n) [x0, some (.int i), some (.loc b), some p, x4, x5] s) (fun fl _ => ∃ x2 x3 x4 x5, fl = .next [x0, some (.int i), x2, x3, x4, x5]) E := by
    intro b p s x3 hp B
    simp
    refine takeB B fun j s j0 j1 B1 _ => ?_
    by_cases hj : j = 0
    · simp [hj]
      refine bent_spec 16 20 p s _ _ hp (by omega) B1 fun q s hq B2 => ?_
      simp
      exact rest b q s x4 x5 (hq.up (by omega))
    · simp [hj]
      exact rest b p s x4 x5 (hp.wt.up (by omega))
  simp
  rw [z__law_box]; unfold b__law_box
  simp
  have B : ∀ w x y z : Int, BB (st ++ [.lst [.int w, .int x, .int y, .int z]]) st.length := fun w x y z => ⟨w, x, y, z, by simp⟩
  refine takeB (B _ _ _ _) fun t s t0 t1 B1 _ => ?_
  by_cases ht : t = 0
  · simp [ht]
    refine great_spec B1 fun p s hp B2 => ?_
    have := fin st.length p s none hp B2
    simpa using this
  · simp [ht]
    refine takeB B1 fun u s u0 u1 B2 _ => ?_
    have hu : u = 0 ∨ u = 1 := by omega
    have g3 : ∀ k, (k = 110 ∨ k = 114) → ∀ (Q : PV → Sto → Prop) (E : Exn → Sto → Prop), (∀ p s, GT 4 p → BB s st.length → Q p s) → Z (F__law_term n 20 [.loc st.length, .str [k], .int 3] s) Q E := fun k hk Q E h => term_gen 3 20 k s Q E (by omega) hk B2 h
    rcases hu with rfl | rfl
    · simp
      refine g3 110 (.inl rfl) _ _ fun p s hp B3 => ?_
      have := fin st.length p s none (hp.up (by omega)) B3
      simpa using this
    · simp
      refine g3 114 (.inr rfl) _ _ fun p s hp B3 => ?_
      have := fin st.length p s none (hp.up (by omega)) B3
      simpa using this
end
theorem loop_spec {B : Rho → M Fl} {x0 : Option PV} {i : Int} {ms : List Int} {st : Sto} {QF : Fl → Sto → Prop}
    (hB : ∀ (s : Sto) (i : Int) (x2 x3 x4 x5 : Option PV), Z (B [x0, some (.int i), x2, x3, x4, x5] s) (fun fl _ => ∃ x2 x3 x4 x5, fl = .next [x0, some (.int i), x2, x3, x4, x5]) MP.E0)
    (hq : ∀ s x1 x2 x3 x4 x5, QF (.next [x0, x1, x2, x3, x4, x5]) s) {E : Exn → Sto → Prop} :
    Z (forL (gN 1) B (PV.int i :: List.map PV.int ms) [x0, none, none, none, none, none] st) QF E := by
  refine for_inv (fun ps ρ s => ∃ (x1 x2 x3 x4 x5 : Option PV) (is : List Int), ρ = [x0, x1, x2, x3, x4, x5] ∧ ps = is.map .int) _ _ _ ⟨_, _, _, _, _, i :: ms, rfl, rfl⟩ ?_ ?_
  · rintro p ps ρ s ⟨x1, x2, x3, x4, x5, is, rfl, hp⟩
    cases is with
    | nil => cases hp
    | cons j is =>
      cases hp
      rw [Z_gN]
      refine (hB s j x2 x3 x4 x5).go fun fl s2 ⟨x2, x3, x4, x5, e⟩ => .inl ⟨_, .inl e, _, _, _, _, _, is, rfl, rfl⟩
  · rintro ρ s ⟨x1, x2, x3, x4, x5, is, rfl, hp⟩
    exact hq s _ _ _ _ _
theorem law_spec {n : Nat} {ns : List Int} : Z (F_law n [.frz (ns.map .int)] []) (fun v _ => v = .bl true) MP.E0 := by
  rw [z_law]
  unfold b_law
  simp
  have hc : Z (F__law_cell_at n [PV.frz (List.map PV.int ns), PV.int 0] []) (fun v s => s = [] ∧ ∃ i, v = .int i) MP.E0 := by
    rw [z__law_cell_at]; unfold b__law_cell_at
    cases ns with
    | nil => simp
    | cons i ns =>
      have h : (0 : Int) < ns.length + 1 := by omega
      simp [h, L2.atI, L2.ixN]
  refine hc.go fun v s ⟨hs, i, hi⟩ => ?_
  subst hs hi
  have hcut : ∃ ms : List Int, ms.length ≤ 9 ∧ cutL (ns.map PV.int) (some 1) (some 10) = ms.map .int := ⟨cutL ns (some 1) (some 10), cut_midlen (xs := ns) (a := 1) (b := 10), cut_map _⟩
  obtain ⟨ms, hm, hcut⟩ := hcut
  simp [hcut]
  clear hc
  have h1 : 1 + ms.length ≤ 16777216 := Nat.le_trans (Nat.add_le_add_left hm 1) (by decide)
  rw [eq_true h1, true_and]
  have hL := fun s i x2 x3 x4 x5 => L0_spec (n := n) (st := s) (i := i) (x0 := some (.frz (ns.map .int))) (x2 := x2) (x3 := x3) (x4 := x4) (x5 := x5) (E := MP.E0) 
  revert hL
  generalize L0_law n = B
  intro hL
  refine loop_spec hL ?_
  intro s x1 x2 x3 x4 x5
  simp
theorem pure_law (ns : List Int) (_ : ns.length ≤ 63) : ∃ n st, F_law n [.frz (ns.map .int)] [] = .ok (.bl true) st := by
  have h := law_spec (n := 0) (ns := ns)
  refine ⟨0, ?_⟩
  revert h
  cases F_law 0 [.frz (ns.map .int)] [] with
  | ok v st => intro h; exact ⟨st, by rw [show v = .bl true from h]⟩
  | err x st => intro h; exact h.elim
  | bad => intro h; exact h.elim

end K47

set_option maxRecDepth 100000
open PySem PySem.W PyProof.Rows
set_option maxRecDepth 100000 in
set_option maxHeartbeats 0 in
theorem PySem.Challenge.cw_samepaper_k47_what_is_a_term_holds : PySem.Challenge.rw_samepaper_k47_what_is_a_term.Holds := by
  w_on; o_law; k_head; (case hw => w_witness2)
  k_fill
  refine K47.walk (l := PySem.Challenge.rw_samepaper_k47_what_is_a_term) rfl rfl (fun w h Y => PySem.W.kIn_of Y) K47.pure_law ?F
  case F =>
    intro w mg fa h KX G hmg
    refine' K47.all_mk KX G hmg ?a_kinds_of ?l_kinds_of ?c_kinds_of ?k_kinds_of ?a_all_of ?l_all_of ?c_all_of ?k_all_of ?a_kind_of ?l_kind_of ?c_kind_of ?k_kind_of ?a_is_number ?l_is_number ?c_is_number ?k_is_number ?a_is_named ?l_is_named ?c_is_named ?k_is_named ?a_kind_within ?l_kind_within ?c_kind_within ?k_kind_within ?a_kind_of_term ?l_kind_of_term ?c_kind_of_term ?k_kind_of_term ?a__law_cell_at ?l__law_cell_at ?c__law_cell_at ?k__law_cell_at ?a__law_box ?l__law_box ?c__law_box ?k__law_box ?a__law_take ?l__law_take ?c__law_take ?k__law_take ?a__law_number ?l__law_number ?c__law_number ?k__law_number ?a__law_leaf ?l__law_leaf ?c__law_leaf ?k__law_leaf ?a__law_term ?l__law_term ?c__law_term ?k__law_term ?a__law_bent ?l__law_bent ?c__law_bent ?k__law_bent ?a__law_great ?l__law_great ?c__law_great ?k__law_great ?a__law_kind ?l__law_kind ?c__law_kind ?k__law_kind ?a__law_deep ?l__law_deep ?c__law_deep ?k__law_deep ?a__law_parts ?l__law_parts ?c__law_parts ?k__law_parts ?a_law ?l_law ?c_law ?k_law ?z_len ?z_isinstance ?z_int ?z_bool ?z_tuple ?z_str ?z_min ?z_zip ?z_range ?z_list ?z_max ?z_sum ?g_FIGURES ?g_GREATEST ?g_LEAST ?g_MOST_DEEP ?g_MOST_MADE ?g_MOST_PARTS ?g_OPERATIONS ?gl_OPERATIONS ?tb_OPERATIONS
    (case a_kinds_of => k_is)
    (case l_kinds_of => k_is)
    (case c_kinds_of => k_is)
    (case k_kinds_of => k_is)
    (case a_all_of => k_is)
    (case l_all_of => k_is)
    (case c_all_of => k_is)
    (case k_all_of => k_is)
    (case a_kind_of => k_is)
    (case l_kind_of => k_is)
    (case c_kind_of => k_is)
    (case k_kind_of => k_is)
    (case a_is_number => k_is)
    (case l_is_number => k_is)
    (case c_is_number => k_is)
    (case k_is_number => k_is)
    (case a_is_named => k_is)
    (case l_is_named => k_is)
    (case c_is_named => k_is)
    (case k_is_named => k_is)
    (case a_kind_within => k_is)
    (case l_kind_within => k_is)
    (case c_kind_within => k_is)
    (case k_kind_within => k_is)
    (case a_kind_of_term => k_is)
    (case l_kind_of_term => k_is)
    (case c_kind_of_term => k_is)
    (case k_kind_of_term => k_is)
    (case a__law_cell_at => k_is)
    (case l__law_cell_at => k_is)
    (case c__law_cell_at => k_is)
    (case k__law_cell_at => k_is)
    (case a__law_box => k_is)
    (case l__law_box => k_is)
    (case c__law_box => k_is)
    (case k__law_box => k_is)
    (case a__law_take => k_is)
    (case l__law_take => k_is)
    (case c__law_take => k_is)
    (case k__law_take => k_is)
    (case a__law_number => k_is)
    (case l__law_number => k_is)
    (case c__law_number => k_is)
    (case k__law_number => k_is)
    (case a__law_leaf => k_is)
    (case l__law_leaf => k_is)
    (case c__law_leaf => k_is)
    (case k__law_leaf => k_is)
    (case a__law_term => k_is)
    (case l__law_term => k_is)
    (case c__law_term => k_is)
    (case k__law_term => k_is)
    (case a__law_bent => k_is)
    (case l__law_bent => k_is)
    (case c__law_bent => k_is)
    (case k__law_bent => k_is)
    (case a__law_great => k_is)
    (case l__law_great => k_is)
    (case c__law_great => k_is)
    (case k__law_great => k_is)
    (case a__law_kind => k_is)
    (case l__law_kind => k_is)
    (case c__law_kind => k_is)
    (case k__law_kind => k_is)
    (case a__law_deep => k_is)
    (case l__law_deep => k_is)
    (case c__law_deep => k_is)
    (case k__law_deep => k_is)
    (case a__law_parts => k_is)
    (case l__law_parts => k_is)
    (case c__law_parts => k_is)
    (case k__law_parts => k_is)
    (case a_law => k_is)
    (case l_law => k_is)
    (case c_law => k_is)
    (case k_law => k_is)
    (case z_len => k_is)
    (case z_isinstance => k_is)
    (case z_int => k_is)
    (case z_bool => k_is)
    (case z_tuple => k_is)
    (case z_str => k_is)
    (case z_min => k_is)
    (case z_zip => k_is)
    (case z_range => k_is)
    (case z_list => k_is)
    (case z_max => k_is)
    (case z_sum => k_is)
    (case g_FIGURES => k_is)
    (case g_GREATEST => k_is)
    (case g_LEAST => k_is)
    (case g_MOST_DEEP => k_is)
    (case g_MOST_MADE => k_is)
    (case g_MOST_PARTS => k_is)
    (case g_OPERATIONS => k_is)
    (case gl_OPERATIONS => k_is)
    (case tb_OPERATIONS => refine' MP.TabIn.of ?l ?k ?s ?r; (case l => k_is); (case k => k_keys); (case s => decide); (case r => refine' MP.RowsT.row ?e1 ?x1 ?r1; (case e1 => decide +kernel); (case x1 => refine MP.TupIn.val ?_; refine' MP.TupIn.of ?l2 ?n2 ?v2; (case l2 => k_is); (case n2 => decide); (case v2 => refine' MP.KVs.cons ?x3 ?r3; (case x3 => exact MP.KV1.str (by decide +kernel)); (case r3 => refine' MP.KVs.cons ?x4 ?r4; (case x4 => exact MP.KV1.str (by decide +kernel)); (case r4 => exact MP.KVs.nil)))); (case r1 => refine' MP.RowsT.row ?e5 ?x5 ?r5; (case e5 => decide +kernel); (case x5 => refine MP.TupIn.val ?_; refine' MP.TupIn.of ?l6 ?n6 ?v6; (case l6 => k_is); (case n6 => decide); (case v6 => refine' MP.KVs.cons ?x7 ?r7; (case x7 => exact MP.KV1.str (by decide +kernel)); (case r7 => refine' MP.KVs.cons ?x8 ?r8; (case x8 => exact MP.KV1.str (by decide +kernel)); (case r8 => exact MP.KVs.nil)))); (case r5 => refine' MP.RowsT.row ?e9 ?x9 ?r9; (case e9 => decide +kernel); (case x9 => refine MP.TupIn.val ?_; refine' MP.TupIn.of ?l10 ?n10 ?v10; (case l10 => k_is); (case n10 => decide); (case v10 => refine' MP.KVs.cons ?x11 ?r11; (case x11 => exact MP.KV1.str (by decide +kernel)); (case r11 => refine' MP.KVs.cons ?x12 ?r12; (case x12 => exact MP.KV1.str (by decide +kernel)); (case r12 => exact MP.KVs.nil)))); (case r9 => refine' MP.RowsT.row ?e13 ?x13 ?r13; (case e13 => decide +kernel); (case x13 => refine MP.TupIn.val ?_; refine' MP.TupIn.of ?l14 ?n14 ?v14; (case l14 => k_is); (case n14 => decide); (case v14 => refine' MP.KVs.cons ?x15 ?r15; (case x15 => exact MP.KV1.str (by decide +kernel)); (case r15 => refine' MP.KVs.cons ?x16 ?r16; (case x16 => exact MP.KV1.str (by decide +kernel)); (case r16 => exact MP.KVs.nil)))); (case r13 => refine' MP.RowsT.row ?e17 ?x17 ?r17; (case e17 => decide +kernel); (case x17 => refine MP.TupIn.val ?_; refine' MP.TupIn.of ?l18 ?n18 ?v18; (case l18 => k_is); (case n18 => decide); (case v18 => refine' MP.KVs.cons ?x19 ?r19; (case x19 => exact MP.KV1.str (by decide +kernel)); (case r19 => refine' MP.KVs.cons ?x20 ?r20; (case x20 => exact MP.KV1.str (by decide +kernel)); (case r20 => exact MP.KVs.nil)))); (case r17 => refine' MP.RowsT.row ?e21 ?x21 ?r21; (case e21 => decide +kernel); (case x21 => refine MP.TupIn.val ?_; refine' MP.TupIn.of ?l22 ?n22 ?v22; (case l22 => k_is); (case n22 => decide); (case v22 => refine' MP.KVs.cons ?x23 ?r23; (case x23 => exact MP.KV1.str (by decide +kernel)); (case r23 => refine' MP.KVs.cons ?x24 ?r24; (case x24 => exact MP.KV1.str (by decide +kernel)); (case r24 => exact MP.KVs.nil)))); (case r21 => refine' MP.RowsT.row ?e25 ?x25 ?r25; (case e25 => decide +kernel); (case x25 => refine MP.TupIn.val ?_; refine' MP.TupIn.of ?l26 ?n26 ?v26; (case l26 => k_is); (case n26 => decide); (case v26 => refine' MP.KVs.cons ?x27 ?r27; (case x27 => exact MP.KV1.str (by decide +kernel)); (case r27 => refine' MP.KVs.cons ?x28 ?r28; (case x28 => exact MP.KV1.str (by decide +kernel)); (case r28 => exact MP.KVs.nil)))); (case r25 => refine' MP.RowsT.row ?e29 ?x29 ?r29; (case e29 => decide +kernel); (case x29 => refine MP.TupIn.val ?_; refine' MP.TupIn.of ?l30 ?n30 ?v30; (case l30 => k_is); (case n30 => decide); (case v30 => refine' MP.KVs.cons ?x31 ?r31; (case x31 => exact MP.KV1.str (by decide +kernel)); (case r31 => refine' MP.KVs.cons ?x32 ?r32; (case x32 => exact MP.KV1.str (by decide +kernel)); (case r32 => exact MP.KVs.nil)))); (case r29 => refine' MP.RowsT.row ?e33 ?x33 ?r33; (case e33 => decide +kernel); (case x33 => refine MP.TupIn.val ?_; refine' MP.TupIn.of ?l34 ?n34 ?v34; (case l34 => k_is); (case n34 => decide); (case v34 => refine' MP.KVs.cons ?x35 ?r35; (case x35 => exact MP.KV1.str (by decide +kernel)); (case r35 => refine' MP.KVs.cons ?x36 ?r36; (case x36 => exact MP.KV1.str (by decide +kernel)); (case r36 => exact MP.KVs.nil)))); (case r33 => refine' MP.RowsT.row ?e37 ?x37 ?r37; (case e37 => decide +kernel); (case x37 => refine MP.TupIn.val ?_; refine' MP.TupIn.of ?l38 ?n38 ?v38; (case l38 => k_is); (case n38 => decide); (case v38 => refine' MP.KVs.cons ?x39 ?r39; (case x39 => exact MP.KV1.str (by decide +kernel)); (case r39 => refine' MP.KVs.cons ?x40 ?r40; (case x40 => exact MP.KV1.str (by decide +kernel)); (case r40 => exact MP.KVs.nil)))); (case r37 => refine' MP.RowsT.row ?e41 ?x41 ?r41; (case e41 => decide +kernel); (case x41 => refine MP.TupIn.val ?_; refine' MP.TupIn.of ?l42 ?n42 ?v42; (case l42 => k_is); (case n42 => decide); (case v42 => refine' MP.KVs.cons ?x43 ?r43; (case x43 => exact MP.KV1.str (by decide +kernel)); (case r43 => refine' MP.KVs.cons ?x44 ?r44; (case x44 => exact MP.KV1.str (by decide +kernel)); (case r44 => exact MP.KVs.nil)))); (case r41 => refine' MP.RowsT.row ?e45 ?x45 ?r45; (case e45 => decide +kernel); (case x45 => refine MP.TupIn.val ?_; refine' MP.TupIn.of ?l46 ?n46 ?v46; (case l46 => k_is); (case n46 => decide); (case v46 => refine' MP.KVs.cons ?x47 ?r47; (case x47 => exact MP.KV1.str (by decide +kernel)); (case r47 => refine' MP.KVs.cons ?x48 ?r48; (case x48 => exact MP.KV1.str (by decide +kernel)); (case r48 => exact MP.KVs.nil)))); (case r45 => refine' MP.RowsT.row ?e49 ?x49 ?r49; (case e49 => decide +kernel); (case x49 => refine MP.TupIn.val ?_; refine' MP.TupIn.of ?l50 ?n50 ?v50; (case l50 => k_is); (case n50 => decide); (case v50 => refine' MP.KVs.cons ?x51 ?r51; (case x51 => exact MP.KV1.str (by decide +kernel)); (case r51 => refine' MP.KVs.cons ?x52 ?r52; (case x52 => exact MP.KV1.str (by decide +kernel)); (case r52 => exact MP.KVs.nil)))); (case r49 => refine' MP.RowsT.row ?e53 ?x53 ?r53; (case e53 => decide +kernel); (case x53 => refine MP.TupIn.val ?_; refine' MP.TupIn.of ?l54 ?n54 ?v54; (case l54 => k_is); (case n54 => decide); (case v54 => refine' MP.KVs.cons ?x55 ?r55; (case x55 => exact MP.KV1.str (by decide +kernel)); (case r55 => refine' MP.KVs.cons ?x56 ?r56; (case x56 => exact MP.KV1.non); (case r56 => exact MP.KVs.nil)))); (case r53 => refine' MP.RowsT.row ?e57 ?x57 ?r57; (case e57 => decide +kernel); (case x57 => refine MP.TupIn.val ?_; refine' MP.TupIn.of ?l58 ?n58 ?v58; (case l58 => k_is); (case n58 => decide); (case v58 => refine' MP.KVs.cons ?x59 ?r59; (case x59 => exact MP.KV1.str (by decide +kernel)); (case r59 => refine' MP.KVs.cons ?x60 ?r60; (case x60 => exact MP.KV1.str (by decide +kernel)); (case r60 => exact MP.KVs.nil)))); (case r57 => exact MP.RowsT.nil)))))))))))))))))
