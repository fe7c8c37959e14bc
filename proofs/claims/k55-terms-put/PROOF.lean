import PyProof.Rows.All
import Wide.All
import OpenK.AllK
import Wide.FinOn
import KE.OsRun
import HandS.ForMost
import HandS.ForExc
import HandS.CallSlots
import HandS.Wide
import HandS.Flow
import HandS.TupAny
import HandS.TupMul
import HandS.IsInst
import HandS.EndBits
import HandS.Zip
import HandS.NoneIn
import HandS.TupLe
import KE.KDictKeyed
import KE.KDictCopyH
import PyProof.ListMulRoad
import PyProof.FactsAll.tuple_2
import PyProof.EqAt
import PyProof.NeKinds
import HandS.Text
import HandS.Codes
import HandS.More
import HandS.Replace
import HandS.RaiseMore
import KE.GoesZip
import PyProof.Rows.SetFrom
import HandS.SetKeys
import HandS.SortInts
import PyProof.StrOps2
import KE.KEqDict
import KE.KDictList
import KE.KAssignIn
import KE.KDictZip
import PyProof.StrWalks
import PyProof.CollectWalk
import KE.KDictPairs
import PyProof.Draws
import HandS.SetFor
import HandS.Strs
import HandS.Rev
import HandS.Iter
import HandS.Dict
import PyProof.AutoSeq1
import PyProof.MeetsSeq
import PyProof.IsRules
import HandS.ExcInit
import HandS.ExcField
import HandS.ExcIs
import HandS.WordsExc
import KE.KExcIs
import KE.DataMinMax
import HandS.TupSets
import KE.KSortTupUse
import HandS.SortKw
import KE.KeyNested
import KE.SortData
import PySem.Challenge.RW_samepaper_k55_terms_put
set_option Elab.async false
set_option linter.all false
section
namespace HdRun
open PySem PySem.W PyProof.Rows
abbrev R : OpenRow := OpenLaw.row PySem.Challenge.rw_samepaper_k55_terms_put
abbrev qv : Program := view R.prog [12]
def nm0 : List PySem.Str := ["__name__", "names_in", "put_in", "_law_box", "_law_take", "_law_leaf", "_law_term", "_law_names", "_law_before", "_law_put", "_law_rises"]
def names : List PySem.Str := nm0
end HdRun
open PySem PySem.W PyProof.Rows
local macro_rules | `(tactic| o_head (kHook $k $a $e)) => `(tactic| (
  refine holds_open (r := HdRun.R) (q := HdRun.qv) (loose := HdRun.names) (Xt := fun s => xlAt HdRun.qv [] s && recOk (RowW.records HdRun.R.toRowW) s) (XP := XL HdRun.qv []) (Yf := Hook.obs (kHook $k $a $e)) (Ya := Hook.val (kHook $k $a $e)) (YP := Hook.says (kHook $k $a $e)) (N := 100000) ?hl (Hook.of (kHook $k $a $e)) (Hook.keeps (kHook $k $a $e)) (fun s e => xl_of s (Bool.and_eq_true_iff.mp e).1) XL.keeps (by rfl) (by rfl) (by rfl) (fun s e => recFacts_of (Bool.and_eq_true_iff.mp e).2) (by rfl) (by first | assumption | decide +kernel) (by decide +kernel) ⟨rfl, rfl, rfl, rfl, rfl, by decide +kernel⟩ ?hw ?hc
  (case hl =>
    refine HeadRun.left_oneK (M := 90000) (by kernel_rfl) (by rfl) (fun s => by kernel_rfl) (by rfl) ?_
    intro w os; kernel_rfl)))
set_option maxRecDepth 100000 in
set_option maxHeartbeats 0 in
open_top HdTop for PySem.Challenge.rw_samepaper_k55_terms_put
end

set_option maxRecDepth 100000
namespace MP
open PySem L2

structure KW where
  w : World
  K : PySem.W.Frag
noncomputable instance : Coe KW PySem.W.Frag := ⟨KW.K⟩
noncomputable abbrev kw (X : Cx) : KW := ⟨X.w, X.K⟩

inductive PV where
  | non
  | bl (b : Bool)
  | int (i : Int)
  | str (x : List Nat)
  | ty (n : String)
  | gl (a : Addr)
  | tup (xs : List PV)
  | lst (xs : List PV)
  | frz (xs : List PV)
  | loc (n : Nat)
mutual
noncomputable def PV.beq : PV → PV → Bool
  | .non, .non => true
  | .bl a, .bl b => a == b
  | .int a, .int b => a == b
  | .str a, .str b => a == b
  | .ty a, .ty b => a == b
  | .gl a, .gl b => a == b
  | .tup a, .tup b => PV.beqs a b
  | .lst a, .lst b => PV.beqs a b
  | .frz a, .frz b => PV.beqs a b
  | .loc a, .loc b => a == b
  | _, _ => false
noncomputable def PV.beqs : List PV → List PV → Bool
  | [], [] => true
  | a :: r, b :: t => PV.beq a b && PV.beqs r t
  | _, _ => false
end
mutual
theorem PV.beq_iff : ∀ (a b : PV), PV.beq a b = true ↔ a = b
  | .non, b => by cases b <;> simp [PV.beq]
  | .bl x, b => by cases b <;> simp [PV.beq]
  | .int x, b => by cases b <;> simp [PV.beq]
  | .str x, b => by cases b <;> simp [PV.beq]
  | .ty x, b => by cases b <;> simp [PV.beq]
  | .gl x, b => by cases b <;> simp [PV.beq]
  | .tup x, b => by cases b <;> simp [PV.beq, PV.beqs_iff x]
  | .lst x, b => by cases b <;> simp [PV.beq, PV.beqs_iff x]
  | .frz x, b => by cases b <;> simp [PV.beq, PV.beqs_iff x]
  | .loc x, b => by cases b <;> simp [PV.beq]
theorem PV.beqs_iff : ∀ (a b : List PV), PV.beqs a b = true ↔ a = b
  | [], b => by cases b <;> simp [PV.beqs]
  | x :: r, b => by
    cases b with
    | nil => simp [PV.beqs]
    | cons y t => simp [PV.beqs, PV.beq_iff x y, PV.beqs_iff r t]
end
noncomputable instance : DecidableEq PV := fun a b => decidable_of_iff (PV.beq a b = true) (PV.beq_iff a b)
noncomputable instance : Inhabited PV := ⟨.non⟩

inductive Cell where
  | lst (xs : List PV)
  | dct (kvs : List (PV × PV))
  | ins (C : String) (fs : List (String × PV))
  | dcl (kvs : List (PV × PV))
  | dcn (kvs : List (PV × PV))
  | lck (kvs : List (PV × PV))
noncomputable abbrev Sto := List Cell
structure Exn where
  C : String
  fs : List (String × PV)
inductive Res (α : Type) where
  | ok (a : α) (st : Sto)
  | err (x : Exn) (st : Sto)
  | bad
noncomputable abbrev M (α : Type) : Type := Sto → Res α
namespace M
variable {α β : Type}
noncomputable def ret (a : α) : M α := fun st => .ok a st
noncomputable def bind (m : M α) (f : α → M β) : M β := fun st => match m st with
  | .ok a st' => f a st'
  | .err x st' => .err x st'
  | .bad => .bad
noncomputable def fail : M α := fun _ => .bad
noncomputable def calm (m : M α) : M α := fun st => match m st with
  | .err _ _ => .bad
  | r => r
end M
noncomputable abbrev Rho := List (Option PV)
inductive Fl where
  | next (ρ : Rho)
  | ret (v : PV)
  | brk (ρ : Rho)
  | cont (ρ : Rho)
  | exc (x : Exn) (ρ : Rho)

structure Mu where
  l : List Addr
  b : List Addr
noncomputable instance : Membership Addr Mu := ⟨fun μ a => a ∈ μ.l ∨ a ∈ μ.b⟩
noncomputable def Mu.add (μ : Mu) (p : Addr) : Mu := ⟨μ.l ++ [p], μ.b⟩
noncomputable def KT (K : PySem.W.Frag) (a : Addr) (xs : List V) : Prop :=
  ∃ (o : Obj) (its : Array Value) (n : Nat), K.lookup a = some o ∧ o.cls = .type "tuple" ∧ o.data = .seq its n ∧ its.size ≤ sizeLine ∧ Vals xs its.toList
noncomputable def KL (K : PySem.W.Frag) (a : Addr) (xs : List V) : Prop :=
  ∃ (o : Obj) (its : Array Value) (n : Nat), K.lookup a = some o ∧ o.cls = .type "list" ∧ o.dict = none ∧ o.data = .seq its n ∧ its.size ≤ sizeLine ∧ Vals xs its.toList
noncomputable def TupAt (K : PySem.W.Frag) (H : Hp) (μ : Mu) (a : Addr) (vs : List V) : Prop := (H a = some (.tup vs) ∧ a ∉ μ) ∨ KT K a vs
noncomputable def LstAt (H : Hp) (μ : Mu) (a : Addr) (vs : List V) : Prop := H a = some (.lst vs) ∧ a ∉ μ
noncomputable def FrzAt (K : PySem.W.Frag) (H : Hp) (μ : Mu) (a : Addr) (vs : List V) : Prop := (Rd H a (.lst vs) ∧ a ∉ μ) ∨ KL K a vs
theorem TupAt.sq {K : PySem.W.Frag} {H : Hp} {μ : Mu} {a : Addr} {vs : List V} (h : TupAt K H μ a vs) : SqT K H a vs := by
  rcases h with ⟨h, _⟩ | h
  · exact .inl (.inl h)
  · exact .inr h
theorem LstAt.sq {K : PySem.W.Frag} {H : Hp} {μ : Mu} {a : Addr} {vs : List V} (h : LstAt H μ a vs) : SqL K H a vs := .inl (.inl h.1)
theorem FrzAt.sq {K : PySem.W.Frag} {H : Hp} {μ : Mu} {a : Addr} {vs : List V} (h : FrzAt K H μ a vs) : SqL K H a vs := by
  rcases h with ⟨h, _⟩ | h
  · exact .inl h
  · exact .inr h
mutual
noncomputable def VR (K : PySem.W.Frag) (H : Hp) (μ : Mu) : PV → V → Prop
  | .non, v => v = .non
  | .bl b, v => v = .bl b
  | .int i, v => v = .int i
  | .str x, v => v = .str ⟨x.toArray⟩
  | .ty n, v => v = .ty n
  | .gl a, v => v = .ref a
  | .tup ps, v => ∃ a vs, v = .ref a ∧ TupAt K H μ a vs ∧ VRs K H μ ps vs
  | .lst ps, v => ∃ a vs, v = .ref a ∧ LstAt H μ a vs ∧ VRs K H μ ps vs
  | .frz ps, v => ∃ a vs, v = .ref a ∧ FrzAt K H μ a vs ∧ VRs K H μ ps vs
  | .loc n, v => ∃ a, v = .ref a ∧ μ.l[n]? = some a
noncomputable def VRs (K : PySem.W.Frag) (H : Hp) (μ : Mu) : List PV → List V → Prop
  | [], vs => vs = []
  | p :: ps, vs => ∃ v r, vs = v :: r ∧ VR K H μ p v ∧ VRs K H μ ps r
end
structure Gr (μ : Mu) (H : Hp) (μ' : Mu) (H' : Hp) : Prop where
  pre : ∃ t, μ'.l = μ.l ++ t
  ban : ∀ a, a ∈ μ.b → a ∈ μ'.b
  bnew : ∀ a, a ∈ μ'.b → a ∈ μ.b ∨ H a = none
  new : ∀ a, a ∈ μ'.l → a ∈ μ.l ∨ H a = none
  keep : ∀ a o, H a = some o → a ∉ μ.l → H' a = some o
  fz : ∀ a o u, H a = some (.frz o u) → H' a = some (.frz o u)
theorem Gr.refl (μ : Mu) (H : Hp) : Gr μ H μ H := ⟨⟨[], by simp⟩, fun _ h => h, fun _ h => .inl h, fun _ h => .inl h, fun _ _ h _ => h, fun _ _ _ h => h⟩
theorem Gr.outl {μ μ' : Mu} {H H' : Hp} (g : Gr μ H μ' H') {a : Addr} {o : HO} (h : H a = some o) (n : a ∉ μ.l) : a ∉ μ'.l := fun m => by
  rcases g.new a m with z | z
  · exact n z
  · rw [h] at z; cases z
theorem Gr.out {μ μ' : Mu} {H H' : Hp} (g : Gr μ H μ' H') {a : Addr} {o : HO} (h : H a = some o) (n : a ∉ μ) : a ∉ μ' := fun m => by
  rcases m with m | m
  · exact g.outl h (fun z => n (.inl z)) m
  · rcases g.bnew a m with z | z
    · exact n (.inr z)
    · rw [h] at z; cases z
theorem Gr.back {μ μ' : Mu} {H H' : Hp} (g : Gr μ H μ' H') {a : Addr} (h : H' a = none) : a ∈ μ.l ∨ H a = none := by
  cases q : H a with
  | none => exact .inr rfl
  | some o =>
    by_cases n : a ∈ μ.l
    · exact .inl n
    · rw [g.keep a o q n] at h; cases h
theorem Gr.trans {μ μ1 μ2 : Mu} {H H1 H2 : Hp} (g : Gr μ H μ1 H1) (g' : Gr μ1 H1 μ2 H2) (hb : ∀ a, a ∈ μ2.b → a ∉ μ2.l) : Gr μ H μ2 H2 := by
  have sub : ∀ a, a ∈ μ.l → a ∈ μ2.l := fun a m => by
    obtain ⟨t, e⟩ := g.pre
    obtain ⟨u, e'⟩ := g'.pre
    rw [e', e]
    exact List.mem_append_left _ (List.mem_append_left _ m)
  refine ⟨?_, fun a m => g'.ban a (g.ban a m), fun a m => ?_, fun a m => ?_, fun a o h n => g'.keep a o (g.keep a o h n) (g.outl h n), fun a o u h => g'.fz a o u (g.fz a o u h)⟩
  · obtain ⟨t, e⟩ := g.pre
    obtain ⟨u, e'⟩ := g'.pre
    exact ⟨t ++ u, by rw [e', e, List.append_assoc]⟩
  · rcases g'.bnew a m with z | z
    · exact g.bnew a z
    · rcases g.back z with z | z
      · exact absurd (sub a z) (hb a m)
      · exact .inr z
  · rcases g'.new a m with z | z
    · exact g.new a z
    · exact g.back z
theorem Gr.get {μ μ' : Mu} {H H' : Hp} (g : Gr μ H μ' H') {n : Nat} {a : Addr} (h : μ.l[n]? = some a) : μ'.l[n]? = some a := by
  obtain ⟨t, e⟩ := g.pre
  rw [e]
  exact (List.getElem?_append_left (List.getElem?_eq_some_iff.mp h).1).trans h
noncomputable def seqO : HO → Bool
  | .tup _ => true
  | .lst _ => true
  | .frz _ _ => true
  | _ => false
structure Gv (μ : Mu) (H : Hp) (μ' : Mu) (H' : Hp) : Prop where
  pre : ∃ t, μ'.l = μ.l ++ t
  keep : ∀ a o, H a = some o → seqO o = true → a ∉ μ → H' a = some o ∧ a ∉ μ'
theorem Gr.v {μ μ' : Mu} {H H' : Hp} (g : Gr μ H μ' H') : Gv μ H μ' H' := ⟨g.pre, fun a o h _ n => ⟨g.keep a o h (fun z => n (.inl z)), g.out h n⟩⟩
theorem Gv.get {μ μ' : Mu} {H H' : Hp} (g : Gv μ H μ' H') {n : Nat} {a : Addr} (h : μ.l[n]? = some a) : μ'.l[n]? = some a := by
  obtain ⟨t, e⟩ := g.pre
  rw [e]
  exact (List.getElem?_append_left (List.getElem?_eq_some_iff.mp h).1).trans h
mutual
theorem VR.monov {K : PySem.W.Frag} {H H' : Hp} {μ μ' : Mu} (g : Gv μ H μ' H') : ∀ (p : PV) (v : V), VR K H μ p v → VR K H' μ' p v
  | .non, _, h => h
  | .bl _, _, h => h
  | .int _, _, h => h
  | .str _, _, h => h
  | .ty _, _, h => h
  | .gl _, _, h => h
  | .tup ps, v, h => by
    obtain ⟨a, vs, e, t, r⟩ := (show ∃ a vs, v = .ref a ∧ TupAt K H μ a vs ∧ VRs K H μ ps vs from h)
    refine (show ∃ a vs, v = .ref a ∧ TupAt K H' μ' a vs ∧ VRs K H' μ' ps vs from ⟨a, vs, e, ?_, VRs.monov g ps vs r⟩)
    rcases t with ⟨t, n⟩ | t
    · exact .inl (g.keep a _ t rfl n)
    · exact .inr t
  | .lst ps, v, h => by
    obtain ⟨a, vs, e, t, r⟩ := (show ∃ a vs, v = .ref a ∧ LstAt H μ a vs ∧ VRs K H μ ps vs from h)
    exact (show ∃ a vs, v = .ref a ∧ LstAt H' μ' a vs ∧ VRs K H' μ' ps vs from ⟨a, vs, e, g.keep a _ t.1 rfl t.2, VRs.monov g ps vs r⟩)
  | .frz ps, v, h => by
    obtain ⟨a, vs, e, t, r⟩ := (show ∃ a vs, v = .ref a ∧ FrzAt K H μ a vs ∧ VRs K H μ ps vs from h)
    refine (show ∃ a vs, v = .ref a ∧ FrzAt K H' μ' a vs ∧ VRs K H' μ' ps vs from ⟨a, vs, e, ?_, VRs.monov g ps vs r⟩)
    rcases t with ⟨t | ⟨o, t⟩, n⟩ | t
    · exact .inl ⟨.inl (g.keep a _ t rfl n).1, (g.keep a _ t rfl n).2⟩
    · exact .inl ⟨.inr ⟨o, (g.keep a _ t rfl n).1⟩, (g.keep a _ t rfl n).2⟩
    · exact .inr t
  | .loc n, v, h => by
    obtain ⟨a, e, t⟩ := (show ∃ a, v = .ref a ∧ μ.l[n]? = some a from h)
    exact (show ∃ a, v = .ref a ∧ μ'.l[n]? = some a from ⟨a, e, g.get t⟩)
theorem VRs.monov {K : PySem.W.Frag} {H H' : Hp} {μ μ' : Mu} (g : Gv μ H μ' H') : ∀ (ps : List PV) (vs : List V), VRs K H μ ps vs → VRs K H' μ' ps vs
  | [], _, h => h
  | p :: ps, vs, h => by
    obtain ⟨v, r, e, h1, h2⟩ := (show ∃ v r, vs = v :: r ∧ VR K H μ p v ∧ VRs K H μ ps r from h)
    exact (show ∃ v r, vs = v :: r ∧ VR K H' μ' p v ∧ VRs K H' μ' ps r from ⟨v, r, e, VR.monov g p v h1, VRs.monov g ps r h2⟩)
end
theorem VR.mono {K : PySem.W.Frag} {H H' : Hp} {μ μ' : Mu} (g : Gr μ H μ' H') (p : PV) (v : V) (h : VR K H μ p v) : VR K H' μ' p v := VR.monov g.v p v h
theorem VRs.mono {K : PySem.W.Frag} {H H' : Hp} {μ μ' : Mu} (g : Gr μ H μ' H') (p : List PV) (v : List V) (h : VRs K H μ p v) : VRs K H' μ' p v := VRs.monov g.v p v h
section
variable {K : PySem.W.Frag} {H : Hp} {μ : Mu}
theorem VRs.length : ∀ {ps : List PV} {vs : List V}, VRs K H μ ps vs → ps.length = vs.length
  | [], vs, h => by have e : vs = [] := h; rw [e]; rfl
  | p :: ps, vs, h => by
    obtain ⟨v, r, e, _, h2⟩ := (show ∃ v r, vs = v :: r ∧ VR K H μ p v ∧ VRs K H μ ps r from h)
    rw [e, List.length_cons, List.length_cons, VRs.length h2]
theorem VRs.cons {p : PV} {ps : List PV} {v : V} {vs : List V} (h : VR K H μ p v) (t : VRs K H μ ps vs) : VRs K H μ (p :: ps) (v :: vs) :=
  (show ∃ w r, v :: vs = w :: r ∧ VR K H μ p w ∧ VRs K H μ ps r from ⟨v, vs, rfl, h, t⟩)
theorem VRs.nil : VRs K H μ [] [] := rfl
theorem VRs.append : ∀ {ps qs : List PV} {vs ws : List V}, VRs K H μ ps vs → VRs K H μ qs ws → VRs K H μ (ps ++ qs) (vs ++ ws)
  | [], _, vs, _, h, t => by have e : vs = [] := h; rw [e]; exact t
  | p :: ps, qs, vs, ws, h, t => by
    obtain ⟨v, r, e, h1, h2⟩ := (show ∃ v r, vs = v :: r ∧ VR K H μ p v ∧ VRs K H μ ps r from h)
    rw [e]
    exact VRs.cons h1 (VRs.append h2 t)
theorem VRs.get : ∀ {ps : List PV} {vs : List V} {i : Nat} {p : PV}, VRs K H μ ps vs → ps[i]? = some p → ∃ v, vs[i]? = some v ∧ VR K H μ p v
  | [], _, _, _, _, e => by simp at e
  | q :: ps, vs, 0, p, h, e => by
    obtain ⟨v, r, ev, h1, _⟩ := (show ∃ v r, vs = v :: r ∧ VR K H μ q v ∧ VRs K H μ ps r from h)
    simp at e
    subst e
    exact ⟨v, by rw [ev]; rfl, h1⟩
  | q :: ps, vs, i + 1, p, h, e => by
    obtain ⟨v, r, ev, _, h2⟩ := (show ∃ v r, vs = v :: r ∧ VR K H μ q v ∧ VRs K H μ ps r from h)
    obtain ⟨w, e1, e2⟩ := VRs.get (i := i) (p := p) h2 (by simpa using e)
    exact ⟨w, by rw [ev]; simpa using e1, e2⟩
theorem VRs.set {p : PV} {v : V} (r : VR K H μ p v) : ∀ {ps : List PV} {vs : List V} (i : Nat), VRs K H μ ps vs → VRs K H μ (ps.set i p) (vs.set i v)
  | [], vs, _, h => by have e : vs = [] := h; rw [e]; exact rfl
  | q :: ps, vs, 0, h => by
    obtain ⟨w, t, ev, _, h2⟩ := (show ∃ v r, vs = v :: r ∧ VR K H μ q v ∧ VRs K H μ ps r from h)
    rw [ev]
    exact VRs.cons r h2
  | q :: ps, vs, i + 1, h => by
    obtain ⟨w, t, ev, h1, h2⟩ := (show ∃ v r, vs = v :: r ∧ VR K H μ q v ∧ VRs K H μ ps r from h)
    rw [ev]
    exact VRs.cons h1 (VRs.set r i h2)
theorem VRs.take : ∀ {ps : List PV} {vs : List V} (n : Nat), VRs K H μ ps vs → VRs K H μ (ps.take n) (vs.take n)
  | _, _, 0, _ => rfl
  | [], vs, n + 1, h => by have e : vs = [] := h; rw [e]; exact rfl
  | q :: ps, vs, n + 1, h => by
    obtain ⟨w, t, ev, h1, h2⟩ := (show ∃ v r, vs = v :: r ∧ VR K H μ q v ∧ VRs K H μ ps r from h)
    rw [ev]
    exact VRs.cons h1 (VRs.take n h2)
theorem VRs.drop : ∀ {ps : List PV} {vs : List V} (n : Nat), VRs K H μ ps vs → VRs K H μ (ps.drop n) (vs.drop n)
  | _, _, 0, h => h
  | [], vs, n + 1, h => by have e : vs = [] := h; rw [e]; exact rfl
  | q :: ps, vs, n + 1, h => by
    obtain ⟨w, t, ev, h1, h2⟩ := (show ∃ v r, vs = v :: r ∧ VR K H μ q v ∧ VRs K H μ ps r from h)
    rw [ev]
    exact VRs.drop n h2
theorem VRs.nil_iff {ps : List PV} {vs : List V} (h : VRs K H μ ps vs) : vs = [] ↔ ps = [] := by
  have e := VRs.length h
  constructor
  · intro z; rw [z] at e; exact List.eq_nil_of_length_eq_zero e
  · intro z; rw [z] at e; exact List.eq_nil_of_length_eq_zero e.symm
theorem VRs.ints : ∀ {ns : List Int}, VRs K H μ (ns.map PV.int) (ns.map V.int)
  | [] => rfl
  | n :: ns => VRs.cons rfl (VRs.ints (ns := ns))
end

noncomputable def keyOf : PV → Option Key
  | .int i => some (.inl i)
  | .str x => some (.inr ⟨x.toArray⟩)
  | _ => none
theorem keyOf_inj {p q : PV} {k : Key} (h : keyOf p = some k) (h' : keyOf q = some k) : p = q := by
  cases p <;> cases q <;> simp [keyOf] at h h' <;> subst h <;> simp_all
noncomputable def KRs (K : PySem.W.Frag) (H : Hp) (μ : Mu) : List (PV × PV) → List (Key × V) → Prop
  | [], kv => kv = []
  | p :: r, kv => ∃ k v t, kv = (k, v) :: t ∧ keyOf p.1 = some k ∧ VR K H μ p.2 v ∧ KRs K H μ r t
noncomputable def ClsIn (K : PySem.W.Frag) (c : String) (C : Addr) : Prop := PySem.W.nsIn K mainGlobals (Str.ofString c) = some (some (.ref C))
theorem ClsIn.one {K : PySem.W.Frag} {c : String} {C C' : Addr} (h : ClsIn K c C) (h' : ClsIn K c C') : C = C' := by
  have e := h.symm.trans h'
  injection e with e; injection e with e; injection e
noncomputable def FRs (K : PySem.W.Frag) (H : Hp) (μ : Mu) : List (String × PV) → List (Str × V) → Prop
  | [], fv => fv = []
  | p :: r, fv => ∃ v t, fv = (Str.ofString p.1, v) :: t ∧ VR K H μ p.2 v ∧ FRs K H μ r t
noncomputable def lfOf : PV → Option Leaf
  | .non => some .none
  | .int i => some (.num i)
  | .str x => some (.text ⟨x.toArray⟩)
  | _ => none
theorem lfOf_inj {p q : PV} {k : Leaf} (h : lfOf p = some k) (h' : lfOf q = some k) : p = q := by
  cases p <;> cases q <;> simp [lfOf] at h h' <;> subst h <;> simp_all
mutual
noncomputable def nkOf : PV → Option NestedKey
  | .non => some .none
  | .int i => some (.num i)
  | .str x => some (.text ⟨x.toArray⟩)
  | .tup xs => match nksOf xs with
    | some ks => some (.tup ks)
    | none => none
  | .bl _ => none
  | .ty _ => none
  | .gl _ => none
  | .lst _ => none
  | .frz _ => none
  | .loc _ => none
noncomputable def nksOf : List PV → Option (List NestedKey)
  | [] => some []
  | x :: r => match nkOf x with
    | some k => match nksOf r with
      | some ks => some (k :: ks)
      | none => none
    | none => none
end
theorem nkOf_tup {xs : List PV} {k : NestedKey} (h : nkOf (.tup xs) = some k) : ∃ ks, nksOf xs = some ks ∧ k = .tup ks := by
  rw [nkOf] at h
  cases q : nksOf xs with
  | none => rw [q] at h; cases h
  | some ks => rw [q] at h; cases h; exact ⟨ks, rfl, rfl⟩
theorem nksOf_cons {x : PV} {r : List PV} {ks : List NestedKey} (h : nksOf (x :: r) = some ks) : ∃ k t, nkOf x = some k ∧ nksOf r = some t ∧ ks = k :: t := by
  rw [nksOf] at h
  cases q : nkOf x with
  | none => rw [q] at h; cases h
  | some k =>
    rw [q] at h
    cases q' : nksOf r with
    | none => rw [q'] at h; cases h
    | some t => rw [q'] at h; cases h; exact ⟨k, t, rfl, rfl, rfl⟩
mutual
theorem nkOf_inj : ∀ (p q : PV) (k : NestedKey), nkOf p = some k → nkOf q = some k → p = q
  | .non, q, k, h, h' => by
    cases (show some NestedKey.none = some k by rw [← h]; rfl)
    cases q with
    | non => rfl
    | tup xs => obtain ⟨_, _, e⟩ := nkOf_tup h'; cases e
    | int i => cases h'
    | str i => cases h'
    | _ => cases h'
  | .int i, q, k, h, h' => by
    cases (show some (NestedKey.num i) = some k by rw [← h]; rfl)
    cases q with
    | non => cases h'
    | tup xs => obtain ⟨_, _, e⟩ := nkOf_tup h'; cases e
    | int j => cases h'; rfl
    | str i => cases h'
    | _ => cases h'
  | .str x, q, k, h, h' => by
    cases (show some (NestedKey.text ⟨x.toArray⟩) = some k by rw [← h]; rfl)
    cases q with
    | non => cases h'
    | tup xs => obtain ⟨_, _, e⟩ := nkOf_tup h'; cases e
    | int j => cases h'
    | str y =>
      have e : (some (NestedKey.text ⟨y.toArray⟩)) = some (NestedKey.text ⟨x.toArray⟩) := by rw [← h']; rfl
      injection e with e; injection e with e; injection e with e; injection e with e
      rw [e]
    | _ => cases h'
  | .tup xs, q, k, h, h' => by
    obtain ⟨ks, e1, e2⟩ := nkOf_tup h
    subst e2
    cases q with
    | non => cases h'
    | tup ys =>
      obtain ⟨ks', e3, e4⟩ := nkOf_tup h'
      cases e4
      rw [nksOf_inj xs ys ks e1 e3]
    | int j => cases h'
    | str y => cases h'
    | _ => cases h'
  | .bl _, _, _, h, _ => by cases h
  | .ty _, _, _, h, _ => by cases h
  | .gl _, _, _, h, _ => by cases h
  | .lst _, _, _, h, _ => by cases h
  | .frz _, _, _, h, _ => by cases h
  | .loc _, _, _, h, _ => by cases h
theorem nksOf_inj : ∀ (p q : List PV) (k : List NestedKey), nksOf p = some k → nksOf q = some k → p = q
  | [], q, k, h, h' => by
    cases (show some ([] : List NestedKey) = some k by rw [← h]; rfl)
    cases q with
    | nil => rfl
    | cons y t => obtain ⟨_, _, _, _, e⟩ := nksOf_cons h'; cases e
  | x :: r, q, k, h, h' => by
    obtain ⟨k1, t1, e1, e2, e3⟩ := nksOf_cons h
    subst e3
    cases q with
    | nil => cases (show some ([] : List NestedKey) = some _ by rw [← h']; rfl)
    | cons y t =>
      obtain ⟨k2, t2, e4, e5, e6⟩ := nksOf_cons h'
      cases e6
      rw [nkOf_inj x y k1 e1 e4, nksOf_inj r t t1 e2 e5]
end
noncomputable def nkT : PV → Option NestedKey
  | .tup xs => match nksOf xs with
    | some ks => if NestedKey.depthAll ks + 1 ≤ 8 then some (.tup ks) else none
    | none => none
  | _ => none
theorem nkT_of {p : PV} {k : NestedKey} (h : nkT p = some k) : nkOf p = some k ∧ k.depth ≤ 8 := by
  cases p with
  | tup xs =>
    unfold nkT at h
    dsimp only at h
    cases q : nksOf xs with
    | none => rw [q] at h; cases h
    | some ks =>
      rw [q] at h
      dsimp only at h
      by_cases d : NestedKey.depthAll ks + 1 ≤ 8
      · rw [if_pos d] at h
        cases h
        exact ⟨by rw [nkOf, q], by rw [NestedKey.depth]; exact d⟩
      · rw [if_neg d] at h; cases h
  | _ => cases h
theorem nkT_inj {p q : PV} {k : NestedKey} (h : nkT p = some k) (h' : nkT q = some k) : p = q := nkOf_inj p q k (nkT_of h).1 (nkT_of h').1
noncomputable def entL (w : World) (e : DictEntry) (x : Leaf × Value) : Prop := Leaf.isOf x.1 e.key = true ∧ e.hash = x.1.key.hash w ∧ e.val = x.2
noncomputable def leafD (w : World) (a : Addr) (xs : List (Leaf × Value)) : HO := .ext fun h => ∃ o es ep, h.get? a = some o ∧ o.ExactDict ∧ o.data = .dict es ep ∧ Paired (entL w) es.toList xs
noncomputable def entN (w : World) (x : NestedKey × Addr × Value) : DictEntry := ⟨x.1.hash w, .ref x.2.1, x.2.2⟩
noncomputable def nestD (w : World) (a : Addr) (xs : List (NestedKey × Addr × Value)) : HO := .ext fun h => ∃ o es ep, h.get? a = some o ∧ o.ExactDict ∧ o.data = .dict es ep ∧ es.toList = xs.map (entN w)
noncomputable def LRs (K : PySem.W.Frag) (H : Hp) (μ : Mu) : List (PV × PV) → List (Leaf × Value) → Prop := Paired fun (p : PV × PV) (x : Leaf × Value) => lfOf p.1 = some x.1 ∧ ∃ v, VR K H μ p.2 v ∧ RelV v x.2
noncomputable def NRs (K : PySem.W.Frag) (H : Hp) (μ : Mu) : List (PV × PV) → List (NestedKey × Addr × Value) → Prop := Paired fun (p : PV × PV) (x : NestedKey × Addr × Value) => nkT p.1 = some x.1 ∧ VR K H μ p.1 (.ref x.2.1) ∧ ∃ v, VR K H μ p.2 v ∧ RelV v x.2.2
theorem LRs.mono {K : PySem.W.Frag} {H H' : Hp} {μ μ' : Mu} (g : Gv μ H μ' H') {ps : List (PV × PV)} {xs : List (Leaf × Value)} (r : LRs K H μ ps xs) : LRs K H' μ' ps xs :=
  Paired.mapP r fun _ _ ⟨h1, v, h2, h3⟩ => ⟨h1, v, VR.monov g _ _ h2, h3⟩
theorem NRs.mono {K : PySem.W.Frag} {H H' : Hp} {μ μ' : Mu} (g : Gv μ H μ' H') {ps : List (PV × PV)} {xs : List (NestedKey × Addr × Value)} (r : NRs K H μ ps xs) : NRs K H' μ' ps xs :=
  Paired.mapP r fun _ _ ⟨h1, h0, v, h2, h3⟩ => ⟨h1, VR.monov g _ _ h0, v, VR.monov g _ _ h2, h3⟩
noncomputable def CR (K : KW) (H : Hp) (μ : Mu) (a : Addr) : Cell → Prop
  | .lst xs => ∃ vs, H a = some (.lst vs) ∧ VRs K H μ xs vs
  | .dct kvs => ∃ kv, H a = some (.dK kv) ∧ KRs K H μ kvs kv
  | .ins c fs => ∃ C dx fv, ClsIn K c C ∧ H a = some (.ins C dx fv) ∧ FRs K H μ fs fv
  | .dcl kvs => ∃ xs, H a = some (leafD K.w a xs) ∧ (a == sysModules) = false ∧ kvs.length ≤ sizeLine ∧ LRs K H μ kvs xs ∧ (xs.map (·.1)).Nodup
  | .dcn kvs => ∃ xs, H a = some (nestD K.w a xs) ∧ (a == sysModules) = false ∧ kvs.length ≤ sizeLine ∧ NRs K H μ kvs xs ∧ (xs.map (·.1)).Nodup
  | .lck kvs => ∃ o u, H a = some (.frz o u) ∧ ((∃ kv, u = .dK kv ∧ KRs K H μ kvs kv) ∨ ∃ xs, u = nestD K.w a xs ∧ (a == sysModules) = false ∧ kvs.length ≤ sizeLine ∧ NRs K H μ kvs xs ∧ (xs.map (·.1)).Nodup)
structure SR (K : KW) (μ : Mu) (st : Sto) (H : Hp) : Prop where
  len : μ.l.length = st.length
  nd : μ.l.Nodup
  ban : ∀ a, a ∈ μ.b → a ∉ μ.l ∧ ∃ o, H a = some o
  cell : ∀ (n : Nat) (c : Cell) (a : Addr), st[n]? = some c → μ.l[n]? = some a → CR K H μ a c
theorem KRs.mono {K : PySem.W.Frag} {H H' : Hp} {μ μ' : Mu} (g : Gv μ H μ' H') : ∀ (ps : List (PV × PV)) (kv : List (Key × V)), KRs K H μ ps kv → KRs K H' μ' ps kv
  | [], _, h => h
  | p :: ps, kv, h => by
    obtain ⟨k, v, t, e, hk, h1, h2⟩ := h
    exact ⟨k, v, t, e, hk, VR.monov g _ _ h1, KRs.mono g ps t h2⟩
theorem FRs.mono {K : PySem.W.Frag} {H H' : Hp} {μ μ' : Mu} (g : Gv μ H μ' H') : ∀ (ps : List (String × PV)) (fv : List (Str × V)), FRs K H μ ps fv → FRs K H' μ' ps fv
  | [], _, h => h
  | p :: ps, fv, h => by
    obtain ⟨v, t, e, h1, h2⟩ := h
    exact ⟨v, t, e, VR.monov g _ _ h1, FRs.mono g ps t h2⟩
theorem CR.monov {K : KW} {H H' : Hp} {μ μ' : Mu} (g : Gv μ H μ' H') {a : Addr} (ha : H' a = H a) : ∀ {c : Cell}, CR K H μ a c → CR K H' μ' a c
  | .lst xs, h => by
    obtain ⟨vs, e, r⟩ := h
    exact ⟨vs, by rw [ha]; exact e, VRs.monov g _ _ r⟩
  | .dct kvs, h => by
    obtain ⟨kv, e, r⟩ := h
    exact ⟨kv, by rw [ha]; exact e, KRs.mono g _ _ r⟩
  | .ins c fs, h => by
    obtain ⟨C, dx, fv, hc, e, r⟩ := h
    exact ⟨C, dx, fv, hc, by rw [ha]; exact e, FRs.mono g _ _ r⟩
  | .dcl kvs, h => by
    obtain ⟨xs, e, hs, hz, r, nd⟩ := h
    exact ⟨xs, by rw [ha]; exact e, hs, hz, r.mono g, nd⟩
  | .dcn kvs, h => by
    obtain ⟨xs, e, hs, hz, r, nd⟩ := h
    exact ⟨xs, by rw [ha]; exact e, hs, hz, r.mono g, nd⟩
  | .lck kvs, h => by
    obtain ⟨o, u, e, r⟩ := h
    refine ⟨o, u, by rw [ha]; exact e, ?_⟩
    rcases r with ⟨kv, e', r⟩ | ⟨xs, e', hs, hz, r, nd⟩
    · exact .inl ⟨kv, e', KRs.mono g _ _ r⟩
    · exact .inr ⟨xs, e', hs, hz, r.mono g, nd⟩
theorem CR.mono {K : KW} {H H' : Hp} {μ μ' : Mu} (g : Gr μ H μ' H') {a : Addr} (ha : H' a = H a) {c : Cell} (h : CR K H μ a c) : CR K H' μ' a c := CR.monov g.v ha h
theorem CR.has {K : KW} {H : Hp} {μ : Mu} {a : Addr} : ∀ {c : Cell}, CR K H μ a c → ∃ o, H a = some o
  | .lst xs, ⟨vs, e, _⟩ => ⟨_, e⟩
  | .dct kvs, ⟨kv, e, _⟩ => ⟨_, e⟩
  | .ins c fs, ⟨C, dx, fv, _, e, _⟩ => ⟨_, e⟩
  | .dcl kvs, ⟨xs, e, _⟩ => ⟨_, e⟩
  | .dcn kvs, ⟨xs, e, _⟩ => ⟨_, e⟩
  | .lck kvs, ⟨_, _, e, _⟩ => ⟨_, e⟩
section
variable {K : KW} {H : Hp} {μ : Mu} {st : Sto}
theorem SR.has (s : SR K μ st H) {a : Addr} (h : a ∈ μ.l) : ∃ o, H a = some o := by
  obtain ⟨n, hn, e⟩ := List.getElem_of_mem h
  have h1 : μ.l[n]? = some a := List.getElem?_eq_some_iff.mpr ⟨hn, e⟩
  have h2 : n < st.length := by rw [← s.len]; exact hn
  exact (s.cell n st[n] a (List.getElem?_eq_some_iff.mpr ⟨h2, rfl⟩) h1).has
theorem SR.free (s : SR K μ st H) {p : Addr} (h : H p = none) : p ∉ μ := fun m => by
  rcases m with m | m
  · obtain ⟨o, e⟩ := s.has m
    rw [h] at e; cases e
  · obtain ⟨o, e⟩ := (s.ban p m).2
    rw [h] at e; cases e
theorem gr_new {p : Addr} {o : HO} (h : H p = none) : Gr μ H μ (upd H p o) := ⟨⟨[], by simp⟩, fun _ m => m, fun _ m => .inl m, fun _ m => .inl m, fun a u e _ => by rw [upd_ne (ne_of_none e h)]; exact e, fun a o' u e => by rw [upd_ne (ne_of_none e h)]; exact e⟩
theorem SR.new (s : SR K μ st H) {p : Addr} {o : HO} (h : H p = none) : SR K μ st (upd H p o) :=
  ⟨s.len, s.nd, fun a m => ⟨(s.ban a m).1, let ⟨u, e⟩ := (s.ban a m).2; ⟨u, by rw [upd_ne (ne_of_none e h)]; exact e⟩⟩, fun n c a e1 e2 => (s.cell n c a e1 e2).mono (gr_new h) (upd_ne (fun z => by
    obtain ⟨u, e⟩ := (s.cell n c a e1 e2).has
    rw [z, h] at e; cases e))⟩
theorem gr_alloc {p : Addr} {o : HO} (h : H p = none) : Gr μ H (μ.add p) (upd H p o) := ⟨⟨[p], rfl⟩, fun _ m => m, fun _ m => .inl m, fun a m => by
    rcases List.mem_append.mp m with z | z
    · exact .inl z
    · rw [List.mem_singleton.mp z]; exact .inr h, fun a u e _ => by rw [upd_ne (ne_of_none e h)]; exact e, fun a o' u e => by rw [upd_ne (ne_of_none e h)]; exact e⟩
theorem gv_alloc {p : Addr} {o : HO} (h : ∀ u, H p = some u → seqO u = false) : Gv μ H (μ.add p) (upd H p o) := ⟨⟨[p], rfl⟩, fun a u e hu n => by
  have ne : a ≠ p := fun z => by
    subst z
    rw [h u e] at hu
    cases hu
  refine ⟨by rw [upd_ne ne]; exact e, fun m => ?_⟩
  rcases m with m | m
  · rcases List.mem_append.mp m with z | z
    · exact n (.inl z)
    · exact ne (List.mem_singleton.mp z)
  · exact n (.inr m)⟩
theorem SR.track (s : SR K μ st H) {p : Addr} {o : HO} {c : Cell} (np : p ∉ μ) (h : ∀ u, H p = some u → seqO u = false) (hc : CR K (upd H p o) (μ.add p) p c) : SR K (μ.add p) (st ++ [c]) (upd H p o) := by
  refine ⟨by simp [Mu.add, s.len], ?_, fun a m => ?_, fun n d a e1 e2 => ?_⟩
  · refine List.nodup_append.mpr ⟨s.nd, by simp, fun a ha b hb => ?_⟩
    rw [List.mem_singleton.mp hb]
    rintro rfl
    exact np (.inl ha)
  · have ne : a ≠ p := fun z => np (.inr (by rw [← z]; exact m))
    obtain ⟨n1, u, e⟩ := s.ban a m
    refine ⟨fun z => ?_, u, by rw [upd_ne ne]; exact e⟩
    rcases List.mem_append.mp z with z | z
    · exact n1 z
    · exact ne (List.mem_singleton.mp z)
  · have e2 : (μ.l ++ [p])[n]? = some a := e2
    by_cases hn : n < st.length
    · rw [List.getElem?_append_left hn] at e1
      rw [List.getElem?_append_left (by rw [s.len]; exact hn)] at e2
      exact (s.cell n d a e1 e2).monov (gv_alloc h) (upd_ne (fun z => by
        rw [z] at e2
        exact np (.inl (List.mem_of_getElem? e2))))
    · rw [List.getElem?_append_right (by omega)] at e1
      rw [List.getElem?_append_right (by rw [s.len]; omega), s.len] at e2
      have e0 : n - st.length = 0 := by
        have := (List.getElem?_eq_some_iff.mp e1).1
        simp at this
        omega
      rw [e0] at e1 e2
      simp at e1 e2
      subst e1 e2
      exact hc
theorem SR.alloc (s : SR K μ st H) {p : Addr} {o : HO} {c : Cell} (h : H p = none) (hc : CR K (upd H p o) (μ.add p) p c) : SR K (μ.add p) (st ++ [c]) (upd H p o) :=
  s.track (s.free h) (fun u e => by rw [h] at e; cases e) hc
noncomputable def nofz : HO → Bool
  | .frz _ _ => false
  | _ => true
theorem gr_put {a : Addr} {o : HO} {n : Nat} (h : μ.l[n]? = some a) {u0 : HO} (h0 : H a = some u0) (nf : nofz u0 = true) : Gr μ H μ (upd H a o) := ⟨⟨[], by simp⟩, fun _ m => m, fun _ m => .inl m, fun _ m => .inl m, fun b u e nb => by
  rw [upd_ne (fun z => nb (by rw [z]; exact List.mem_of_getElem? h))]; exact e, fun b o' u e => by
  rw [upd_ne (fun z => by rw [z, h0] at e; cases e; cases nf)]; exact e⟩
theorem gv_put {a : Addr} {o : HO} {n : Nat} (h : μ.l[n]? = some a) : Gv μ H μ (upd H a o) := ⟨⟨[], by simp⟩, fun b u e _ nb => ⟨by
  rw [upd_ne (fun z => nb (.inl (by rw [z]; exact List.mem_of_getElem? h)))]; exact e, nb⟩⟩
theorem SR.put (s : SR K μ st H) {a : Addr} {o : HO} {n : Nat} {c : Cell} (h : μ.l[n]? = some a) (hc : CR K (upd H a o) μ a c) : SR K μ (st.set n c) (upd H a o) := by
  refine ⟨by simp [s.len], s.nd, fun b m => ?_, fun m d b e1 e2 => ?_⟩
  · obtain ⟨n1, u, e⟩ := s.ban b m
    exact ⟨n1, u, by rw [upd_ne (fun z => n1 (by rw [z]; exact List.mem_of_getElem? h))]; exact e⟩
  · by_cases hm : n = m
    · subst hm
      rw [h] at e2
      cases e2
      have hn : n < st.length := by rw [← s.len]; exact (List.getElem?_eq_some_iff.mp h).1
      rw [List.getElem?_set_self hn] at e1
      cases e1
      exact hc
    · rw [List.getElem?_set_ne hm] at e1
      refine (s.cell m d b e1 e2).monov (gv_put h) (upd_ne fun z => hm ?_)
      subst z
      obtain ⟨h1, e1'⟩ := List.getElem?_eq_some_iff.mp h
      obtain ⟨h2, e2'⟩ := List.getElem?_eq_some_iff.mp e2
      exact (List.getElem_inj s.nd).mp (e1'.trans e2'.symm)
end

noncomputable def XR (K : PySem.W.Frag) (H : Hp) (μ : Mu) (x : Exn) (d : Addr) : Prop := ∃ fv, H d = some (.xd fv) ∧ FRs K H μ x.fs fv
noncomputable def PostG {α β : Type} (K : KW) (E : XK) (R : Hp → Mu → α → β → Prop) (Q : β → Hp → Prop) (μ : Mu) (H : Hp) : Res α → Prop
  | .ok a st => ∀ μ' H' b, Gr μ H μ' H' → SR K μ' st H' → R H' μ' a b → Q b H'
  | .err x st => ∀ μ' H' d, Gr μ H μ' H' → SR K μ' st H' → XR K H' μ' x d → ∀ C, ClsIn K x.C C → E (.ref C) (some d) H'
  | .bad => False
section
variable {K : KW} {E : XK} {α β γ δ : Type} {R : Hp → Mu → α → β → Prop} {R' : Hp → Mu → γ → δ → Prop} {Q Q' : β → Hp → Prop} {μ μ' : Mu} {H H' : Hp} {st : Sto}
theorem PostG.mono {r : Res α} (h : PostG K E R Q μ H r) (i : ∀ b H', Q b H' → Q' b H') : PostG K E R Q' μ H r := by
  cases r with
  | ok a st => exact fun μ' H' b g s x => i _ _ (h μ' H' b g s x)
  | err x st => exact h
  | bad => exact h
theorem PostG.grow {r : Res α} (h : PostG K E R Q μ H r) (g : Gr μ H μ' H') : PostG K E R Q μ' H' r := by
  cases r with
  | ok a st => exact fun μ2 H2 b g2 s x => h μ2 H2 b (g.trans g2 fun a m => (s.ban a m).1) s x
  | err x st => exact fun μ2 H2 d g2 s x => h μ2 H2 d (g.trans g2 fun a m => (s.ban a m).1) s x
  | bad => exact h
theorem PostG.bind {m : M γ} {f : γ → M α} (h : PostG K E R Q μ H (M.bind m f st)) :
    PostG K E R' (fun b H' => ∃ μ' st' a, Gr μ H μ' H' ∧ SR K μ' st' H' ∧ R' H' μ' a b ∧ PostG K E R Q μ' H' (f a st')) μ H (m st) := by
  unfold M.bind at h
  cases e : m st with
  | ok a st' =>
    rw [e] at h
    exact fun μ' H' b g s r => ⟨μ', st', a, g, s, r, h.grow g⟩
  | err x st' =>
    rw [e] at h
    exact h
  | bad =>
    rw [e] at h
    exact h.elim
theorem PostG.bindAt {m : M γ} {f : γ → M α} (h : PostG K E R Q μ H (M.bind m f st)) (g0 : Gr μ H μ' H') :
    PostG K E R' (fun b H2 => ∃ μ2 st' a, Gr μ' H' μ2 H2 ∧ SR K μ2 st' H2 ∧ R' H2 μ2 a b ∧ PostG K E R Q μ H (f a st')) μ' H' (m st) := by
  unfold M.bind at h
  cases e : m st with
  | ok a st' =>
    rw [e] at h
    exact fun μ2 H2 b g s r => ⟨μ2, st', a, g, s, r, h⟩
  | err x st' =>
    rw [e] at h
    exact PostG.grow (r := .err x st') h g0
  | bad =>
    rw [e] at h
    exact h.elim
theorem PostG.calm {m : M α} (h : PostG K E R Q μ H (M.calm m st)) {E' : XK} : PostG K E' R Q μ H (m st) := by
  unfold M.calm at h
  cases e : m st with
  | ok a st' => rw [e] at h; exact h
  | err x st' => rw [e] at h; exact h.elim
  | bad => rw [e] at h; exact h.elim
end
structure ER (K : PySem.W.Frag) (H : Hp) (μ : Mu) (ρ : Rho) (σ : St) : Prop where
  len : ρ.length = σ.length
  get : ∀ (i : Nat) (p : PV), ρ[i]? = some (some p) → ∃ v, σ[i]? = some (some v) ∧ VR K H μ p v
theorem ER.mono {K : PySem.W.Frag} {H H' : Hp} {μ μ' : Mu} {ρ : Rho} {σ : St} (g : Gr μ H μ' H') (e : ER K H μ ρ σ) : ER K H' μ' ρ σ :=
  ⟨e.len, fun i p h => let ⟨v, h1, h2⟩ := e.get i p h; ⟨v, h1, VR.mono g p v h2⟩⟩
theorem ER.set {K : PySem.W.Frag} {H : Hp} {μ : Mu} {ρ : Rho} {σ : St} (e : ER K H μ ρ σ) {p : PV} {v : V} (r : VR K H μ p v) (i : Nat) : ER K H μ (ρ.set i (some p)) (σ.set i (some v)) := by
  refine ⟨by simp [e.len], fun j q h => ?_⟩
  by_cases hj : i = j
  · subst hj
    by_cases hi : i < ρ.length
    · rw [List.getElem?_set_self hi] at h
      cases h
      exact ⟨v, List.getElem?_set_self (by rw [← e.len]; exact hi), r⟩
    · rw [List.getElem?_eq_none (by simpa using hi)] at h
      cases h
  · rw [List.getElem?_set_ne hj] at h
    obtain ⟨w, h1, h2⟩ := e.get j q h
    exact ⟨w, by rw [List.getElem?_set_ne hj]; exact h1, h2⟩
theorem ER.unset {K : PySem.W.Frag} {H : Hp} {μ : Mu} {ρ : Rho} {σ : St} (e : ER K H μ ρ σ) (i : Nat) : ER K H μ (ρ.set i none) (σ.set i none) := by
  refine ⟨by simp [e.len], fun j q h => ?_⟩
  by_cases hj : i = j
  · subst hj
    by_cases hi : i < ρ.length
    · rw [List.getElem?_set_self hi] at h
      cases h
    · rw [List.getElem?_eq_none (by simpa using hi)] at h
      cases h
  · rw [List.getElem?_set_ne hj] at h
    obtain ⟨w, h1, h2⟩ := e.get j q h
    exact ⟨w, by rw [List.getElem?_set_ne hj]; exact h1, h2⟩
noncomputable def PostS (K : KW) (W : WX) (D : Ends) (μ : Mu) (H : Hp) : Res Fl → Prop
  | .ok (.next ρ) st => ∀ μ' H' σ', Gr μ H μ' H' → SR K μ' st H' → ER K H' μ' ρ σ' → D.nx σ' H'
  | .ok (.ret p) st => ∀ μ' H' v, Gr μ H μ' H' → SR K μ' st H' → VR K H' μ' p v → D.rt v H'
  | .ok (.brk ρ) st => ∀ μ' H' σ', Gr μ H μ' H' → SR K μ' st H' → ER K H' μ' ρ σ' → D.bk σ' H'
  | .ok (.cont ρ) st => ∀ μ' H' σ', Gr μ H μ' H' → SR K μ' st H' → ER K H' μ' ρ σ' → D.ct σ' H'
  | .ok (.exc x ρ) st => ∀ μ' H' σ' d, Gr μ H μ' H' → SR K μ' st H' → ER K H' μ' ρ σ' → XR K H' μ' x d → ∀ C, ClsIn K x.C C → W (.ref C) (some d) σ' H'
  | .err _ _ => False
  | .bad => False
theorem PostS.grow {K : KW} {W : WX} {D : Ends} {μ μ' : Mu} {H H' : Hp} {r : Res Fl} (h : PostS K W D μ H r) (g : Gr μ H μ' H') : PostS K W D μ' H' r := by
  cases r with
  | ok f st =>
    cases f with
    | next ρ => exact fun μ2 H2 σ g2 s e => h μ2 H2 σ (g.trans g2 fun a m => (s.ban a m).1) s e
    | ret p => exact fun μ2 H2 v g2 s e => h μ2 H2 v (g.trans g2 fun a m => (s.ban a m).1) s e
    | brk ρ => exact fun μ2 H2 σ g2 s e => h μ2 H2 σ (g.trans g2 fun a m => (s.ban a m).1) s e
    | cont ρ => exact fun μ2 H2 σ g2 s e => h μ2 H2 σ (g.trans g2 fun a m => (s.ban a m).1) s e
    | exc x ρ => exact fun μ2 H2 σ d g2 s e z => h μ2 H2 σ d (g.trans g2 fun a m => (s.ban a m).1) s e z
  | err x st => exact h
  | bad => exact h

noncomputable def tM (K : KW) (W : WX) (m : Rho → M PV) : TE := fun σ H Q => ∃ μ st ρ, ER K H μ ρ σ ∧ SR K μ st H ∧ PostG K (fun c d H' => W c d σ H') (VR K) Q μ H (m ρ st)
noncomputable def tMT (K : KW) (W : WX) (m : Rho → M Bool) : TT := fun σ H Q => ∃ μ st ρ, ER K H μ ρ σ ∧ SR K μ st H ∧ PostG K (fun c d H' => W c d σ H') (fun _ _ a b => a = b) Q μ H (m ρ st)
noncomputable def tMA (K : KW) (W : WX) (m : Rho → M (List PV)) : TA := fun σ H Q => ∃ μ st ρ, ER K H μ ρ σ ∧ SR K μ st H ∧ PostG K (fun c d H' => W c d σ H') (VRs K) Q μ H (m ρ st)
noncomputable def tMS (K : KW) (W : WX) (m : Rho → M Fl) : TS := fun D σ H => ∃ μ st ρ, ER K H μ ρ σ ∧ SR K μ st H ∧ PostS K W D μ H (m ρ st)
noncomputable def ME (X : Cx) (W : WX) (e : Expr) (m : Rho → M PV) : Prop := PE X e (tM (kw X) W m)
noncomputable def MT (X : Cx) (W : WX) (e : Expr) (m : Rho → M Bool) : Prop := PT X e (tMT (kw X) W m)
noncomputable def MW (X : Cx) (W : WX) (e : Expr) (m : Rho → M Bool) : Prop := PW X e (tMT (kw X) W m)
noncomputable def MA (X : Cx) (W : WX) (es : List Expr) (m : Rho → M (List PV)) : Prop := PA X es (tMA (kw X) W m)
noncomputable def MS (X : Cx) (W : WX) (s : Stmt) (m : Rho → M Fl) : Prop := PS X s (tMS (kw X) W m)
noncomputable def MSs (X : Cx) (W : WX) (s : List Stmt) (m : Rho → M Fl) : Prop := PSs X s (tMS (kw X) W m)
section
variable {X : Cx}
theorem PE.imp {e : Expr} {t t' : TE} (h : PE X e t) (i : ∀ σ H Q, t' σ H Q → t σ H Q) : PE X e t' := ⟨fun pins s σ H Q I q => h.run pins s σ H Q I (i σ H Q q)⟩
theorem PT.imp {e : Expr} {t t' : TT} (h : PT X e t) (i : ∀ σ H Q, t' σ H Q → t σ H Q) : PT X e t' := ⟨fun pins s σ H Q I q => h.run pins s σ H Q I (i σ H Q q)⟩
theorem PW.imp {e : Expr} {t t' : TT} (h : PW X e t) (i : ∀ σ H Q, t' σ H Q → t σ H Q) : PW X e t' := ⟨fun wh pins s σ H Q I q => h.run wh pins s σ H Q I (i σ H Q q)⟩
theorem PA.imp {es : List Expr} {t t' : TA} (h : PA X es t) (i : ∀ σ H Q, t' σ H Q → t σ H Q) : PA X es t' := ⟨fun pos pins s σ H Q I q => h.run pos pins s σ H Q I (i σ H Q q)⟩
theorem PS.imp {st : Stmt} {t t' : TS} (h : PS X st t) (i : ∀ D σ H, t' D σ H → t D σ H) : PS X st t' := ⟨fun pins s σ H D I q => h.run pins s σ H D I (i D σ H q)⟩
theorem PSs.imp {st : List Stmt} {t t' : TS} (h : PSs X st t) (i : ∀ D σ H, t' D σ H → t D σ H) : PSs X st t' := ⟨fun pins s σ H D I q => h.run pins s σ H D I (i D σ H q)⟩
end
end MP

set_option maxRecDepth 100000
namespace MP
open PySem L2
section
variable {K : KW} {W : WX} {α β : Type}
noncomputable def onErr (ρ : Rho) (m : M α) (k : α → M Fl) : M Fl := fun st => match m st with
  | .ok a st' => k a st'
  | .err x st' => .ok (.exc x ρ) st'
  | .bad => .bad
theorem PostS.onErr {R : Hp → Mu → α → β → Prop} {D : Ends} {μ : Mu} {H : Hp} {ρ : Rho} {σ : St} {m : M α} {k : α → M Fl} {st : Sto} (h : PostS K W D μ H (onErr ρ m k st)) (er : ER K H μ ρ σ) :
    PostG K (fun c d H' => W c d σ H') R (fun b H' => ∃ μ' st' a, Gr μ H μ' H' ∧ SR K μ' st' H' ∧ R H' μ' a b ∧ PostS K W D μ' H' (k a st')) μ H (m st) := by
  unfold MP.onErr at h
  cases e : m st with
  | ok a st' =>
    rw [e] at h
    exact fun μ' H' b g s r => ⟨μ', st', a, g, s, r, h.grow g⟩
  | err x st' =>
    rw [e] at h
    exact fun μ' H' d g s r => h μ' H' σ d g s (er.mono g) r
  | bad =>
    rw [e] at h
    exact h.elim
end

section
variable {X : Cx} {W : WX} {e a b : Expr} {pos : Pos}
theorem gl_of {x : Str} (h : X.env.kindOf x = some .globalImplicit) : Gl X x := h
noncomputable def eVar (i : Nat) : Rho → M PV := fun ρ => match ρ[i]? with
  | some (some p) => M.ret p
  | _ => M.fail
noncomputable def eC (p : PV) : Rho → M PV := fun _ => M.ret p
theorem me_var (i : Nat) {x : Str} (hN : X.N[i]? = some x := by kernel_rfl) (hv : Vis X.env.scope x := by first | exact Or.inl rfl | exact Or.inr (Or.inl rfl) | exact Or.inr (Or.inr rfl)) (hd : (x == ("__debug__" : Str)) = false := by kernel_rfl)
    (hcd : (x == ("__classdict__" : Str)) = false := by kernel_rfl) : ME X W (.Name x pos) (eVar i) := PE.imp (pv (X := X) (pos := pos) i hN hv hd hcd) fun σ H Q ⟨μ, st, ρ, er, sr, h⟩ => by
  unfold eVar at h
  cases e : ρ[i]? with
  | none => rw [e] at h; exact h.elim
  | some o =>
    rw [e] at h
    cases o with
    | none => exact h.elim
    | some p =>
      obtain ⟨v, h1, h2⟩ := er.get i p e
      exact ⟨v, h1, h μ H v (Gr.refl _ _) sr h2⟩
theorem me_c {p : PV} {v : V} (h : PE X e (tC v)) (r : ∀ H μ, VR X.K H μ p v) : ME X W e (eC p) := PE.imp h fun σ H Q ⟨μ, st, ρ, er, sr, q⟩ => q μ H v (Gr.refl _ _) sr (r H μ)
theorem me_int {i : Int} {j : Nat} : ME X W (.Constant (.int i) j pos) (eC (.int i)) := me_c pe_int fun _ _ => rfl
theorem me_bl {b : Bool} {j : Nat} : ME X W (.Constant (.bool b) j pos) (eC (.bl b)) := me_c pe_bl fun _ _ => rfl
theorem me_str {x : Str} {j : Nat} (l : List Nat) (h : x = ⟨l.toArray⟩) : ME X W (.Constant (.str x) j pos) (eC (.str l)) := me_c pe_str fun _ _ => by rw [h]; exact rfl
theorem me_ty {x : Str} {T : String} (hg : Gl X x) (hm : X.mg x = none) (hv : bootBuiltins x = some (.type T)) (hn : x ≠ "__name__" := by decide +kernel) (hd : (x == ("__debug__" : Str)) = false := by kernel_rfl) : ME X W (.Name x pos) (eC (.ty T)) :=
  me_c (pe_bltn (v := .ty T) hg hm hv rfl hn hd) fun _ _ => rfl

noncomputable def T2 (K : KW) (r : R2) (g : PV → PV → M PV) : Prop :=
  ∀ (μ : Mu) (st : Sto) (H : Hp) (x y : PV) (u v : V) (E : XK) (Q : VK), SR K μ st H → VR K H μ x u → VR K H μ y v → PostG K E (VR K) Q μ H (g x y st) → r u v H Q
noncomputable def T1 (K : KW) (r : V → Hp → VK → Prop) (g : PV → M PV) : Prop :=
  ∀ (μ : Mu) (st : Sto) (H : Hp) (x : PV) (u : V) (E : XK) (Q : VK), SR K μ st H → VR K H μ x u → PostG K E (VR K) Q μ H (g x st) → r u H Q
noncomputable def TL (K : KW) (r : List V → Hp → VK → Prop) (g : List PV → M PV) : Prop :=
  ∀ (μ : Mu) (st : Sto) (H : Hp) (xs : List PV) (us : List V) (E : XK) (Q : VK), SR K μ st H → VRs K H μ xs us → PostG K E (VR K) Q μ H (g xs st) → r us H Q
noncomputable def eBin (g : PV → PV → M PV) (ma mb : Rho → M PV) : Rho → M PV := fun ρ => M.bind (ma ρ) fun x => M.bind (mb ρ) fun y => g x y
noncomputable def eUn (g : PV → M PV) (ma : Rho → M PV) : Rho → M PV := fun ρ => M.bind (ma ρ) g
theorem two_imp {ma mb : Rho → M PV} {g : PV → PV → M PV} {r : R2} (t : T2 (kw X) r g) : ∀ σ H Q, tM (kw X) W (eBin g ma mb) σ H Q → tOp r (tM (kw X) W ma) (tM (kw X) W mb) σ H Q := fun σ H Q ⟨μ, st, ρ, er, sr, h⟩ =>
  ⟨μ, st, ρ, er, sr, (PostG.bind h).mono fun u H1 ⟨μ1, st1, x, g1, s1, rx, h1⟩ => ⟨μ1, st1, ρ, er.mono g1, s1, (PostG.bind h1).mono fun v H2 ⟨μ2, st2, y, g2, s2, ry, h2⟩ => t μ2 st2 H2 x y u v _ Q s2 (VR.mono g2 x u rx) ry h2⟩⟩
theorem me_bin {op : Operator} {r : R2} {g : PV → PV → M PV} {ma mb : Rho → M PV} (ho : OpR X (binaryOp op) r) (t : T2 (kw X) r g) (ha : ME X W a ma) (hb : ME X W b mb) : ME X W (.BinOp a op b pos) (eBin g ma mb) :=
  PE.imp (pe_op ho ha hb) (two_imp t)
theorem me_cmp {op : CmpOp} {r : R2} {g : PV → PV → M PV} {ma mb : Rho → M PV} (ho : OpR X (compareOp op) r) (t : T2 (kw X) r g) (ha : ME X W a ma) (hb : ME X W b mb) (hm : behindInMarks op b = false) : ME X W (.Compare a [op] [b] pos) (eBin g ma mb) :=
  PE.imp (pe_cmpR ho ha hb hm) (two_imp t)
theorem me_un {op : UnaryOp} {r : V → Hp → VK → Prop} {g : PV → M PV} {ma : Rho → M PV} (ho : UnR X (unaryOp op) r) (t : T1 (kw X) r g) (ha : ME X W a ma) : ME X W (.UnaryOp op a pos) (eUn g ma) :=
  PE.imp (pe_un ho ha) fun σ H Q ⟨μ, st, ρ, er, sr, h⟩ => ⟨μ, st, ρ, er, sr, (PostG.bind h).mono fun u H1 ⟨μ1, st1, x, g1, s1, rx, h1⟩ => t μ1 st1 H1 x u _ Q s1 rx h1⟩
theorem me_ix {r : R2} {g : PV → PV → M PV} {ma mb : Rho → M PV} (ho : IxR X r) (t : T2 (kw X) r g) (ha : ME X W a ma) (hb : ME X W b mb) (hs : PlainIx b) : ME X W (.Subscript a b pos) (eBin g ma mb) :=
  PE.imp (pe_ix ho ha hb hs) (two_imp t)

noncomputable def asB : PV → M Bool
  | .bl b => M.ret b
  | _ => M.fail
noncomputable def eB (m : Rho → M PV) : Rho → M Bool := fun ρ => M.bind (m ρ) asB
theorem asB_post {K : KW} {E : XK} {Q : Bool → Hp → Prop} {μ : Mu} {H : Hp} {st : Sto} {p : PV} {v : V} (sr : SR K μ st H) (r : VR K H μ p v) (h : PostG K E (fun _ _ (a : Bool) b => a = b) Q μ H (asB p st)) : ∃ k, v = .bl k ∧ Q k H := by
  cases p with
  | bl b => exact ⟨b, r, h μ H b (Gr.refl _ _) sr rfl⟩
  | _ => exact h.elim
theorem test_imp {m : Rho → M PV} : ∀ σ H Q, tMT (kw X) W (eB m) σ H Q → tTest (tM (kw X) W m) σ H Q := fun σ H Q ⟨μ, st, ρ, er, sr, h⟩ =>
  ⟨μ, st, ρ, er, sr, (PostG.bind h).mono fun u H1 ⟨μ1, st1, x, g1, s1, rx, h1⟩ => asB_post s1 rx h1⟩
theorem mt_cmp {op : CmpOp} {r : R2} {g : PV → PV → M PV} {ma mb : Rho → M PV} (ho : OpR X (compareOp op) r) (t : T2 (kw X) r g) (ha : ME X W a ma) (hb : ME X W b mb) (hm : behindInMarks op b = false) : MT X W (.Compare a [op] [b] pos) (eB (eBin g ma mb)) :=
  PT.imp (pt_cmpR ho ha hb hm) fun σ H Q h => by
    have q := test_imp (X := X) (W := W) (m := eBin g ma mb) σ H Q h
    exact two_imp t σ H _ q
theorem mt_val {m : Rho → M PV} (h : ME X W e m) (he : ∀ whole, isTrue e X.env whole = (do let v ← whole; standAt e.pos; holding [v] (truthy v)) := by intro _; rfl) : MT X W e (eB m) :=
  PT.imp (pt_val h he) fun σ H Q h => test_imp (X := X) (W := W) (m := m) σ H Q h
variable {tA tB' : Rho → M Bool} {rest : List Expr}
noncomputable def tAndM (t u : Rho → M Bool) : Rho → M Bool := fun ρ => M.bind (t ρ) fun c => if c = true then u ρ else M.ret false
noncomputable def tOrM (t u : Rho → M Bool) : Rho → M Bool := fun ρ => M.bind (t ρ) fun c => if c = true then M.ret true else u ρ
noncomputable def tNotM (t : Rho → M Bool) : Rho → M Bool := fun ρ => M.bind (t ρ) fun c => M.ret (!c)
theorem mw_and1 (ha : MT X W a tA) : MW X W (.BoolOp .And [a] pos) tA := pw_and1 ha
theorem mw_or1 (ha : MT X W a tA) : MW X W (.BoolOp .Or [a] pos) tA := pw_or1 ha
theorem mw_and (ha : MT X W a tA) (hb : MW X W (.BoolOp .And (b :: rest) pos) tB') : MW X W (.BoolOp .And (a :: b :: rest) pos) (tAndM tA tB') :=
  PW.imp (pw_and ha hb) fun σ H Q ⟨μ, st, ρ, er, sr, h⟩ => ⟨μ, st, ρ, er, sr, (PostG.bind h).mono fun c H1 ⟨μ1, st1, c', g1, s1, ec, h1⟩ => by
    subst ec
    cases c' with
    | true => rw [if_pos rfl] at h1 ⊢; exact ⟨μ1, st1, ρ, er.mono g1, s1, h1⟩
    | false => rw [if_neg Bool.false_ne_true] at h1 ⊢; exact h1 μ1 H1 false (Gr.refl _ _) s1 rfl⟩
theorem mw_or (ha : MT X W a tA) (hb : MW X W (.BoolOp .Or (b :: rest) pos) tB') : MW X W (.BoolOp .Or (a :: b :: rest) pos) (tOrM tA tB') :=
  PW.imp (pw_or ha hb) fun σ H Q ⟨μ, st, ρ, er, sr, h⟩ => ⟨μ, st, ρ, er, sr, (PostG.bind h).mono fun c H1 ⟨μ1, st1, c', g1, s1, ec, h1⟩ => by
    subst ec
    cases c' with
    | true => rw [if_pos rfl] at h1 ⊢; exact h1 μ1 H1 true (Gr.refl _ _) s1 rfl
    | false => rw [if_neg Bool.false_ne_true] at h1 ⊢; exact ⟨μ1, st1, ρ, er.mono g1, s1, h1⟩⟩
theorem mt_of (h : MW X W e tA) : MT X W e tA := PW.pt h
theorem mt_not (ha : MT X W a tA) : MT X W (.UnaryOp .Not a pos) (tNotM tA) :=
  PT.imp (pt_not ha) fun σ H Q ⟨μ, st, ρ, er, sr, h⟩ => ⟨μ, st, ρ, er, sr, (PostG.bind h).mono fun c H1 ⟨μ1, st1, c', g1, s1, ec, h1⟩ => by
    subst ec
    exact h1 μ1 H1 _ (Gr.refl _ _) s1 rfl⟩
noncomputable def eAndV (ma mb : Rho → M PV) : Rho → M PV := fun ρ => M.bind (ma ρ) fun x => M.bind (asB x) fun c => if c = true then mb ρ else M.ret (.bl false)
noncomputable def eOrV (ma mb : Rho → M PV) : Rho → M PV := fun ρ => M.bind (ma ρ) fun x => M.bind (asB x) fun c => if c = true then M.ret (.bl true) else mb ρ
noncomputable def eNotV (ma : Rho → M PV) : Rho → M PV := fun ρ => M.bind (ma ρ) fun x => M.bind (asB x) fun c => M.ret (.bl (!c))
theorem asB_bind {α β : Type} {K : KW} {E : XK} {R : Hp → Mu → α → β → Prop} {Q : β → Hp → Prop} {μ : Mu} {H : Hp} {st : Sto} {p : PV} {v : V} {f : Bool → M α} (r : VR K H μ p v) (h : PostG K E R Q μ H (M.bind (asB p) f st)) :
    ∃ k, v = .bl k ∧ PostG K E R Q μ H (f k st) := by
  cases p with
  | bl b => exact ⟨b, r, h⟩
  | _ => exact h.elim
theorem me_one {op : BoolOp} {m : Rho → M PV} (h : ME X W a m) : ME X W (.BoolOp op [a] pos) m := pe_one h
theorem me_and {ma mb : Rho → M PV} (ha : ME X W a ma) (hb : ME X W (.BoolOp .And (b :: rest) pos) mb) : ME X W (.BoolOp .And (a :: b :: rest) pos) (eAndV ma mb) :=
  PE.imp (pe_and ha hb) fun σ H Q ⟨μ, st, ρ, er, sr, h⟩ => ⟨μ, st, ρ, er, sr, (PostG.bind h).mono fun u H1 ⟨μ1, st1, x, g1, s1, rx, h1⟩ => by
    obtain ⟨k, e, h2⟩ := asB_bind rx h1
    refine ⟨k, e, ?_⟩
    cases k with
    | true => rw [if_pos rfl] at h2 ⊢; exact ⟨μ1, st1, ρ, er.mono g1, s1, h2⟩
    | false => rw [if_neg Bool.false_ne_true] at h2 ⊢; exact h2 μ1 H1 _ (Gr.refl _ _) s1 rfl⟩
noncomputable def eIf (t : Rho → M Bool) (ma mb : Rho → M PV) : Rho → M PV := fun ρ => M.bind (t ρ) fun c => if c = true then ma ρ else mb ρ
noncomputable def aNil : Rho → M (List PV) := fun _ => M.ret []
noncomputable def aCons (m : Rho → M PV) (r : Rho → M (List PV)) : Rho → M (List PV) := fun ρ => M.bind (m ρ) fun x => M.bind (r ρ) fun xs => M.ret (x :: xs)
theorem ma_nil : MA X W [] aNil := PA.imp pa_nil fun σ H Q ⟨μ, st, ρ, er, sr, h⟩ => h μ H [] (Gr.refl _ _) sr rfl
theorem ma_cons {es : List Expr} {m : Rho → M PV} {r : Rho → M (List PV)} (ha : ME X W e m) (hr : MA X W es r) (hs : starEach (e :: es) X.env = (false, eval e X.env) :: starEach es X.env := by kernel_rfl) : MA X W (e :: es) (aCons m r) :=
  PA.imp (pa_cons ha hr hs) fun σ H Q ⟨μ, st, ρ, er, sr, h⟩ => ⟨μ, st, ρ, er, sr, (PostG.bind h).mono fun u H1 ⟨μ1, st1, x, g1, s1, rx, h1⟩ =>
    ⟨μ1, st1, ρ, er.mono g1, s1, (PostG.bind h1).mono fun us H2 ⟨μ2, st2, xs, g2, s2, rxs, h2⟩ => h2 μ2 H2 _ (Gr.refl _ _) s2 (VRs.cons (VR.mono g2 x u rx) rxs)⟩⟩
noncomputable def spM (K : KW) (m : List PV → M PV) (n : Nat) : Sp := fun vs H Q E => ∃ μ st ps, SR K μ st H ∧ VRs K H μ ps vs ∧ ps.length = n ∧ PostG K E (VR K) Q μ H (m ps st)
noncomputable def eCall (f : List PV → M PV) (m : Rho → M (List PV)) : Rho → M PV := fun ρ => M.bind (m ρ) f
noncomputable def aLen (n : Nat) (m : Rho → M (List PV)) : Prop := ∀ ρ st xs st', m ρ st = .ok xs st' → xs.length = n
theorem aLen_nil : aLen 0 aNil := fun ρ st xs st' h => by cases h; rfl
theorem aLen_cons {n : Nat} {m : Rho → M PV} {r : Rho → M (List PV)} (h : aLen n r) : aLen (n + 1) (aCons m r) := fun ρ st xs st' e => by
  unfold aCons M.bind at e
  cases e1 : m ρ st with
  | ok a s1 =>
    rw [e1] at e
    dsimp only at e
    cases e2 : r ρ s1 with
    | ok b s2 =>
      rw [e2] at e
      cases e
      rw [List.length_cons, h ρ s1 b _ e2]
    | err x s2 => rw [e2] at e; cases e
    | bad => rw [e2] at e; cases e
  | err x s1 => rw [e1] at e; cases e
  | bad => rw [e1] at e; cases e
theorem PostG.lens {K : KW} {E : XK} {Q : List V → Hp → Prop} {μ : Mu} {H : Hp} {n : Nat} {m : Rho → M (List PV)} {ρ : Rho} {st : Sto} (hl : aLen n m) (h : PostG K E (fun H μ (ps : List PV) vs => VRs K H μ ps vs ∧ ps.length = n) Q μ H (m ρ st)) :
    PostG K E (VRs K) Q μ H (m ρ st) := by
  cases e : m ρ st with
  | ok a s' => rw [e] at h; exact fun μ' H' b g s r => h μ' H' b g s ⟨r, hl ρ st a s' e⟩
  | err x s' => rw [e] at h; exact h
  | bad => rw [e] at h; exact h
theorem me_call {x : Str} {f : Addr} {fd : FuncData} {ps : List Str} {k n : Nat} {p : Pos} {es : List Expr} {ma : Rho → M (List PV)} {mf : List PV → M PV} (F : FnOk X.prog X.w X.K X.mg X.base (L2.CX X.prog X.w) k f fd ps (spM (kw X) mf n)) (hr : Room k X.A) (hg : Gl X x) (hm : X.mg x = some (.ref f))
    (hk : PySem.W.keepIn X.K (.ref f) = true) (hb : Binds X.K fd ps []) (tk : Takes X W) (ha : MA X W (e :: es) ma) (hl : aLen n ma) (hdb : (x == ("__debug__" : Str)) = false := by kernel_rfl)
    (he : starEach (e :: es) X.env = (false, eval e X.env) :: starEach es X.env := by kernel_rfl) (hpl : (backTo pos (starEach es X.env)).any (·.1) = false := by kernel_rfl) :
    ME X W (.Call (.Name x p) (e :: es) [] pos) (eCall mf ma) :=
  PE.imp (pe_callSD (dvs := []) (ds := []) (E := WE W) F hr hg hm hk hb .nil (fun σ => passAt tk σ) ha hdb he hpl) fun σ H Q ⟨μ, st, ρ, er, sr, h⟩ =>
    ⟨μ, st, ρ, er, sr, PostG.lens hl ((PostG.bind h).mono fun us H1 ⟨μ1, st1, xs, g1, s1, ⟨rxs, hn⟩, h1⟩ => ⟨μ1, st1, xs, s1, by rw [List.append_nil]; exact rxs, hn, h1⟩)⟩
theorem me_callB {x : Str} {id : String} {r : List V → Hp → VK → Prop} {g : List PV → M PV} {p : Pos} {es : List Expr} {ma : Rho → M (List PV)} (hc : CallR X (.builtin id) r) (t : TL (kw X) r g) (hg : Gl X x) (hm : X.mg x = none) (hv : bootBuiltins x = some (.builtin id)) (ha : MA X W (e :: es) ma)
    (hn : x ≠ "__name__" := by decide +kernel) (hdb : (x == ("__debug__" : Str)) = false := by kernel_rfl) (he : starEach (e :: es) X.env = (false, eval e X.env) :: starEach es X.env := by kernel_rfl) (hpl : (backTo pos (starEach es X.env)).any (·.1) = false := by kernel_rfl) :
    ME X W (.Call (.Name x p) (e :: es) [] pos) (eCall g ma) :=
  PE.imp (pe_callB hc hg hm hv ha hn hdb he hpl) fun σ H Q ⟨μ, st, ρ, er, sr, h⟩ =>
    ⟨μ, st, ρ, er, sr, (PostG.bind h).mono fun us H1 ⟨μ1, st1, xs, g1, s1, rxs, h1⟩ => t μ1 st1 H1 xs us _ Q s1 rxs h1⟩
theorem me_callTy {x : Str} {T : String} {r : List V → Hp → VK → Prop} {g : List PV → M PV} {p : Pos} {es : List Expr} {ma : Rho → M (List PV)} (hc : CallR X (.type T) r) (t : TL (kw X) r g) (hg : Gl X x) (hm : X.mg x = none) (hv : bootBuiltins x = some (.type T)) (ha : MA X W (e :: es) ma)
    (hn : x ≠ "__name__" := by decide +kernel) (hdb : (x == ("__debug__" : Str)) = false := by kernel_rfl) (he : starEach (e :: es) X.env = (false, eval e X.env) :: starEach es X.env := by kernel_rfl) (hpl : (backTo pos (starEach es X.env)).any (·.1) = false := by kernel_rfl) :
    ME X W (.Call (.Name x p) (e :: es) [] pos) (eCall g ma) :=
  PE.imp (pe_callTy hc hg hm hv ha hn hdb he hpl) fun σ H Q ⟨μ, st, ρ, er, sr, h⟩ =>
    ⟨μ, st, ρ, er, sr, (PostG.bind h).mono fun us H1 ⟨μ1, st1, xs, g1, s1, rxs, h1⟩ => t μ1 st1 H1 xs us _ Q s1 rxs h1⟩
end

section
variable {X : Cx} {W : WX} {e a b : Expr} {pos : Pos} {s : Stmt} {rest : List Stmt} {m m' : Rho → M Fl} {me : Rho → M PV}
noncomputable def sNext : Rho → M Fl := fun ρ => M.ret (.next ρ)
noncomputable def sSeq (m m' : Rho → M Fl) : Rho → M Fl := fun ρ st => match m ρ st with
  | .ok (.next ρ') st' => m' ρ' st'
  | r => r
theorem mss_nil : MSs X W [] sNext := PSs.imp pss_nil fun D σ H ⟨μ, st, ρ, er, sr, h⟩ => h μ H σ (Gr.refl _ _) sr er
theorem mss_cons (h1 : MS X W s m) (h2 : MSs X W rest m') : MSs X W (s :: rest) (sSeq m m') :=
  PSs.imp (pss_cons h1 h2) fun D σ H ⟨μ, st, ρ, er, sr, h⟩ => ⟨μ, st, ρ, er, sr, by
    unfold sSeq at h
    cases q : m ρ st with
    | ok f st' =>
      rw [q] at h
      cases f with
      | next ρ' => exact fun μ' H' σ' g s' e' => ⟨μ', st', ρ', e', s', PostS.grow h g⟩
      | ret p => exact h
      | brk ρ' => exact h
      | cont ρ' => exact h
      | exc x ρ' => exact h
    | err x st' => rw [q] at h; exact h
    | bad => rw [q] at h; exact h⟩
theorem mss_one (h1 : MS X W s m) : MSs X W [s] m := PSs.imp (pss_one h1) fun _ _ _ h => h
noncomputable def sPass : Rho → M Fl := fun ρ => M.ret (.next ρ)
noncomputable def sBreak : Rho → M Fl := fun ρ => M.ret (.brk ρ)
noncomputable def sCont : Rho → M Fl := fun ρ => M.ret (.cont ρ)
noncomputable def sDrop (me : Rho → M PV) : Rho → M Fl := fun ρ => onErr ρ (me ρ) fun _ => M.ret (.next ρ)
theorem ms_expr (he : ME X W e me) (hs : swapsWith e none pos.line X.env = pure false := by kernel_rfl) : MS X W (.Expr e pos) (sDrop me) :=
  PS.imp (ps_expr he hs) fun D σ H ⟨μ, st, ρ, er, sr, h⟩ => ⟨μ, st, ρ, er, sr, (PostS.onErr h er).mono fun u H1 ⟨μ1, st1, x, g1, s1, rx, h1⟩ => h1 μ1 H1 σ (Gr.refl _ _) s1 (er.mono g1)⟩
noncomputable def sRet (me : Rho → M PV) : Rho → M Fl := fun ρ => onErr ρ (me ρ) fun v => M.ret (.ret v)
theorem ms_ret (he : ME X W e me) : MS X W (.Return (some e) pos) (sRet me) :=
  PS.imp (ps_ret he) fun D σ H ⟨μ, st, ρ, er, sr, h⟩ => ⟨μ, st, ρ, er, sr, (PostS.onErr h er).mono fun u H1 ⟨μ1, st1, x, g1, s1, rx, h1⟩ => h1 μ1 H1 u (Gr.refl _ _) s1 rx⟩
noncomputable def sRetN : Rho → M Fl := fun _ => M.ret (.ret .non)
noncomputable def sIf (t : Rho → M Bool) (m m' : Rho → M Fl) : Rho → M Fl := fun ρ => onErr ρ (t ρ) fun c => if c = true then m ρ else m' ρ
theorem ms_if {c : Expr} {sa sb : List Stmt} {t : Rho → M Bool} (hc : MT X W c t) (ha : MSs X W sa m) (hb : MSs X W sb m') : MS X W (.If c sa sb pos) (sIf t m m') :=
  PS.imp (ps_if hc ha hb) fun D σ H ⟨μ, st, ρ, er, sr, h⟩ => ⟨μ, st, ρ, er, sr, (PostS.onErr h er).mono fun c H1 ⟨μ1, st1, c', g1, s1, ec, h1⟩ => by
    subst ec
    cases c' with
    | true => rw [if_pos rfl] at h1 ⊢; exact ⟨μ1, st1, ρ, er.mono g1, s1, h1⟩
    | false => rw [if_neg Bool.false_ne_true] at h1 ⊢; exact ⟨μ1, st1, ρ, er.mono g1, s1, h1⟩⟩
noncomputable abbrev GM := PV → Rho → M Rho
noncomputable def tMG (K : KW) (W : WX) (g : GM) : TG := fun v σ H Q => ∃ μ st ρ p, ER K H μ ρ σ ∧ SR K μ st H ∧ VR K H μ p v ∧ PostG K (fun c d H' => W c d σ H') (ER K) Q μ H (g p ρ st)
noncomputable def MG (X : Cx) (W : WX) (tg : Expr) (g : GM) : Prop := PG X tg (tMG (kw X) W g)
theorem PG.imp {tg : Expr} {t t' : TG} (h : PG X tg t) (i : ∀ v σ H Q, t' v σ H Q → t v σ H Q) : PG X tg t' := ⟨fun pins s σ H v u Q I r q => h.run pins s σ H v u Q I r (i v σ H Q q)⟩
noncomputable def gN (i : Nat) : GM := fun p ρ => M.ret (ρ.set i (some p))
theorem mg_name {i : Nat} {x : Str} (hN : X.N.Nodup) (hi : X.N[i]? = some x) (hx : Loc X.env.scope x) (hf : X.fn x = true ∨ X.env.scope.names.lookup x = some .local := by first | exact .inl rfl | exact .inr rfl | assumption) : MG X W (.Name x pos) (gN i) :=
  PG.imp (pg_name hN hi hx hf) fun v σ H Q ⟨μ, st, ρ, p, er, sr, rv, h⟩ => h μ H _ (Gr.refl _ _) sr (er.set rv i)
noncomputable abbrev GsM := List PV → Rho → M Rho
noncomputable def tMGs (K : KW) (W : WX) (g : GsM) : TGs := fun vs σ H Q => ∃ μ st ρ ps, ER K H μ ρ σ ∧ SR K μ st H ∧ VRs K H μ ps vs ∧ PostG K (fun c d H' => False) (ER K) Q μ H (g ps ρ st)
noncomputable def MGs (X : Cx) (W : WX) (tgs : List Expr) (g : GsM) : Prop := PGs X tgs (tMGs (kw X) W g)
theorem PGs.imp {tg : List Expr} {t t' : TGs} (h : PGs X tg t) (i : ∀ v σ H Q, t' v σ H Q → t v σ H Q) : PGs X tg t' := ⟨fun pins s σ H v u Q I r q => h.run pins s σ H v u Q I r (i v σ H Q q)⟩
noncomputable def gsNil : GsM := fun ps ρ => match ps with
  | [] => M.ret ρ
  | _ => M.fail
noncomputable def gsCons (g : GM) (r : GsM) : GsM := fun ps ρ => match ps with
  | p :: ps => M.bind (M.calm (g p ρ)) fun ρ1 => r ps ρ1
  | [] => M.fail
theorem mgs_nil : MGs X W [] gsNil := PGs.imp pgs_nil fun vs σ H Q ⟨μ, st, ρ, ps, er, sr, rv, h⟩ => by
  cases ps with
  | nil => exact ⟨rv, h μ H σ (Gr.refl _ _) sr er⟩
  | cons p ps => exact h.elim
theorem mgs_cons {es : List Expr} {g : GM} {r : GsM} (h1 : MG X W e g) (h2 : MGs X W es r) (hs : (assignEach (e :: es) X.env).map (·.2) = assign e X.env :: (assignEach es X.env).map (·.2) := by kernel_rfl) : MGs X W (e :: es) (gsCons g r) :=
  PGs.imp (pgs_cons h1 h2 hs) fun vs σ H Q ⟨μ, st, ρ, ps, er, sr, rv, h⟩ => by
    cases ps with
    | nil => exact h.elim
    | cons p ps =>
      obtain ⟨v, t, ev, rp, rt⟩ := (show ∃ v r, vs = v :: r ∧ VR X.K H μ p v ∧ VRs X.K H μ ps r from rv)
      refine ⟨v, t, ev, μ, st, ρ, p, er, sr, rp, ?_⟩
      have q := PostG.bind (R' := ER X.K) h
      exact (PostG.calm q).mono fun σ1 H1 ⟨μ1, st1, ρ1, g1, s1, e1, h3⟩ => ⟨μ1, st1, ρ1, ps, e1, s1, VRs.mono g1 ps t rt, h3⟩
noncomputable def gT (n : Nat) (r : GsM) : GM := fun p ρ => match p with
  | .tup xs => if xs.length = n then M.calm (r xs ρ) else M.fail
  | _ => M.fail
theorem mg_tup {es : List Expr} {k n : Nat} {r : GsM} (hc : X.calm = true) (h : MGs X W es r) (hn : (assignEach es X.env).length = n := by kernel_rfl) (hst : (assignEach es X.env).findIdx? (·.1) = none := by kernel_rfl) : MG X W (.Tuple es k pos) (gT n r) :=
  PG.imp (pg_tup hc h hn hst) fun v σ H Q ⟨μ, st, ρ, p, er, sr, rv, h⟩ => by
    cases p with
    | tup xs =>
      obtain ⟨a, vs, ev, ta, rs⟩ := (show ∃ a vs, v = .ref a ∧ TupAt X.K H μ a vs ∧ VRs X.K H μ xs vs from rv)
      have h' : PostG (kw X) (fun c d H' => W c d σ H') (ER X.K) Q μ H ((if xs.length = n then M.calm (r xs ρ) else M.fail) st) := h
      by_cases hx : xs.length = n
      · rw [if_pos hx] at h'
        exact ⟨a, vs, ev, ta.sq, by rw [← VRs.length rs]; exact hx, μ, st, ρ, xs, er, sr, rs, PostG.calm h'⟩
      · rw [if_neg hx] at h'
        exact h'.elim
    | _ => exact h.elim
noncomputable def gTL (n : Nat) (r : GsM) : GM := fun p ρ => match p with
  | .tup xs => if xs.length = n then M.calm (r xs ρ) else M.fail
  | .lst xs => if xs.length = n then M.calm (r xs ρ) else M.fail
  | _ => M.fail
theorem PG.or {tg : Expr} {t t' : TG} (h : PG X tg t) (h' : PG X tg t') : PG X tg (fun v σ H Q => t v σ H Q ∨ t' v σ H Q) := ⟨fun pins s σ H v u Q I r q => by
  rcases q with q | q
  · exact h.run pins s σ H v u Q I r q
  · exact h'.run pins s σ H v u Q I r q⟩
noncomputable def sAsg (me : Rho → M PV) (g : GM) : Rho → M Fl := fun ρ => onErr ρ (me ρ) fun v => onErr ρ (g v ρ) fun ρ' => M.ret (.next ρ')
theorem asg_imp {g : GM} {me : Rho → M PV} : ∀ D σ H, tMS (kw X) W (sAsg me g) D σ H → tAsg (tM (kw X) W me) (tMG (kw X) W g) D σ H := fun D σ H ⟨μ, st, ρ, er, sr, h⟩ =>
  ⟨μ, st, ρ, er, sr, (PostS.onErr h er).mono fun u H1 ⟨μ1, st1, x, g1, s1, rx, h1⟩ => ⟨μ1, st1, ρ, x, er.mono g1, s1, rx, (PostS.onErr h1 (er.mono g1)).mono fun σ2 H2 ⟨μ2, st2, ρ2, g2, s2, e2, h2⟩ => h2 μ2 H2 σ2 (Gr.refl _ _) s2 e2⟩⟩
theorem ms_asg {tg : Expr} {g : GM} (he : ME X W e me) (hg : MG X W tg g) (hs : swapsWithSole [tg] e pos.line X.env = pure false := by kernel_rfl) (hw : swappedStores [tg] e X.env = pure none := by kernel_rfl)
    (h1 : (assignEach [tg] X.env).map (·.2) = [assign tg X.env] := by kernel_rfl) : MS X W (.Assign [tg] e pos) (sAsg me g) := PS.imp (ps_asg he hg hs hw h1) asg_imp
noncomputable def sSet (i : Nat) (me : Rho → M PV) : Rho → M Fl := fun ρ => onErr ρ (me ρ) fun v => M.ret (.next (ρ.set i (some v)))
theorem ms_set {i : Nat} {x : Str} {pos' : Pos} (hN : X.N.Nodup) (hi : X.N[i]? = some x) (hx : Loc X.env.scope x) (he : ME X W e me) (hs : swapsWith e (some (.Name x pos')) pos.line X.env = pure false := by kernel_rfl)
    (hf : X.fn x = true ∨ X.env.scope.names.lookup x = some .local := by first | exact .inl rfl | exact .inr rfl | assumption) : MS X W (.Assign [.Name x pos'] e pos) (sSet i me) :=
  PS.imp (ps_set hN hi hx he hs hf) fun D σ H ⟨μ, st, ρ, er, sr, h⟩ => ⟨μ, st, ρ, er, sr, (PostS.onErr h er).mono fun u H1 ⟨μ1, st1, x, g1, s1, rx, h1⟩ => h1 μ1 H1 _ (Gr.refl _ _) s1 ((er.mono g1).set rx i)⟩

noncomputable def turnL (k : Rho → M Fl) (m : M Fl) : M Fl := fun st => match m st with
  | .ok (.next ρ') st' => k ρ' st'
  | .ok (.cont ρ') st' => k ρ' st'
  | .ok (.brk ρ') st' => .ok (.next ρ') st'
  | r => r
noncomputable def forL (g : GM) (b : Rho → M Fl) : List PV → Rho → M Fl
  | [], ρ => M.ret (.next ρ)
  | p :: ps, ρ => onErr ρ (g p ρ) fun ρ1 => turnL (forL g b ps) (b ρ1)
noncomputable def Sup (K : KW) (J : It) (ps : List PV) (μ0 : Mu) (H0 : Hp) : Prop :=
  ∀ μ H st, Gr μ0 H0 μ H → SR K μ st H → (∀ (i : Nat) (p : PV), ps[i]? = some p → J.go i H ∧ ∀ x H', J.yld i H x H' → Gr μ H μ H' ∧ SR K μ st H' ∧ VR K H' μ p x) ∧ J.stop ps.length H
theorem for_imp {K : KW} {W : WX} {D : Ends} {J : It} {ps : List PV} {g : GM} {b : Rho → M Fl} {μ : Mu} {H : Hp} {σ : St} {ρ : Rho} {st : Sto} (su : Sup K J ps μ H) (er : ER K H μ ρ σ) (sr : SR K μ st H) (h : PostS K W D μ H (forL g b ps ρ st)) :
    ∃ V : Nat → Nat → St → Hp → Prop, (∃ m, V 0 m σ H) ∧ ∀ i m σ H, V i m σ H →
      (J.stop i H ∧ D.nx σ H) ∨ (J.go i H ∧ ∃ N : St → Hp → Prop, (∀ σ' H', N σ' H' → ∃ m', m' < m ∧ V (i + 1) m' σ' H') ∧ ∀ x H', J.yld i H x H' → tMG K W g x σ H' fun σ2 H2 => tMS K W b { D with nx := N, ct := N, bk := D.nx } σ2 H2) := by
  refine ⟨fun i m σ' H' => m = ps.length - i ∧ i ≤ ps.length ∧ ∃ μ' st' ρ', Gr μ H μ' H' ∧ ER K H' μ' ρ' σ' ∧ SR K μ' st' H' ∧ PostS K W D μ' H' (forL g b (ps.drop i) ρ' st'), ⟨ps.length, by simp, Nat.zero_le _, μ, st, ρ, Gr.refl _ _, er, sr, by rw [List.drop_zero]; exact h⟩, ?_⟩
  rintro i m σ1 H1 ⟨rfl, hi, μ1, st1, ρ1, g1, e1, s1, h1⟩
  by_cases hlt : i < ps.length
  · have hp : ps[i]? = some ps[i] := by simp [hlt]
    obtain ⟨go, yl⟩ := (su μ1 H1 st1 g1 s1).1 i ps[i] hp
    refine .inr ⟨go, fun σ' H' => ∃ μ' st' ρ', Gr μ H μ' H' ∧ ER K H' μ' ρ' σ' ∧ SR K μ' st' H' ∧ PostS K W D μ' H' (forL g b (ps.drop (i + 1)) ρ' st'), fun σ' H' q => ⟨ps.length - (i + 1), by omega, rfl, hlt, q⟩, fun x H' y => ?_⟩
    obtain ⟨g2, s2, rx⟩ := yl x H' y
    rw [List.drop_eq_getElem_cons hlt] at h1
    unfold forL at h1
    refine ⟨μ1, st1, ρ1, ps[i], e1.mono g2, s2, rx, (PostS.onErr (PostS.grow h1 g2) (e1.mono g2)).mono fun σ3 H3 ⟨μ3, st3, ρ3, g3, s3, e3, h3⟩ => ⟨μ3, st3, ρ3, e3, s3, ?_⟩⟩
    have gg := (g1.trans g2 fun a m => (s2.ban a m).1).trans g3 fun a m => (s3.ban a m).1
    unfold turnL at h3
    cases q : b ρ3 st3 with
    | ok f st' =>
      rw [q] at h3
      cases f with
      | next ρ' => exact fun μ' H' σ' g4 s4 e4 => ⟨μ', st', ρ', gg.trans g4 (fun a m => (s4.ban a m).1), e4, s4, PostS.grow h3 g4⟩
      | cont ρ' => exact fun μ' H' σ' g4 s4 e4 => ⟨μ', st', ρ', gg.trans g4 (fun a m => (s4.ban a m).1), e4, s4, PostS.grow h3 g4⟩
      | brk ρ' => exact h3
      | ret p => exact h3
      | exc x ρ' => exact h3
    | err x st' => rw [q] at h3; exact h3
    | bad => rw [q] at h3; exact h3
  · have e : i = ps.length := by omega
    subst e
    rw [List.drop_length] at h1
    exact .inl ⟨(su μ1 H1 st1 g1 s1).2, h1 μ1 H1 σ1 (Gr.refl _ _) s1 e1⟩
noncomputable def tMI (K : KW) (W : WX) (m : Rho → M (List PV)) : TI := fun σ H R => ∃ μ st ρ, ER K H μ ρ σ ∧ SR K μ st H ∧ PostG K (fun c d H' => W c d σ H') (fun H μ ps (J : It) => Sup K J ps μ H) R μ H (m ρ st)
noncomputable def MI (X : Cx) (W : WX) (tg iter : Expr) (m : Rho → M (List PV)) : Prop := PI X tg iter (tMI (kw X) W m)
theorem PI.imp {tg iter : Expr} {t t' : TI} (h : PI X tg iter t) (i : ∀ σ H R, t' σ H R → t σ H R) : PI X tg iter t' := ⟨fun pins s σ H R I q => h.run pins s σ H R I (i σ H R q)⟩
noncomputable def sFor (mi : Rho → M (List PV)) (g : GM) (b : Rho → M Fl) : Rho → M Fl := fun ρ => onErr ρ (mi ρ) fun ps => forL g b ps ρ
theorem ms_for {tg iter : Expr} {body : List Stmt} {mi : Rho → M (List PV)} {g : GM} (hp : PassesOwn (model X.prog X.w) X.A X.env X.xe) (hc : X.calm = true) (hi : MI X W tg iter mi) (hg : MG X W tg g) (hb : MSs X W body m)
    (hs : ∀ x, foldedSetIterable iter X.env x = pure x := by intro _; kernel_rfl) : MS X W (.For tg iter body [] pos) (sFor mi g m) :=
  PS.imp (ps_for hp hc hi hg hb hs) fun D σ H ⟨μ, st, ρ, er, sr, h⟩ => ⟨μ, st, ρ, er, sr, (PostS.onErr h er).mono fun J H1 ⟨μ1, st1, ps, g1, s1, su, h1⟩ => for_imp su (er.mono g1) s1 h1⟩
end

noncomputable def runB (m : Rho → M Fl) (n : Nat) (ps : List PV) : M PV := fun st => match m (ps.map some ++ List.replicate (n - ps.length) none) st with
  | .ok (.next _) st' => .ok .non st'
  | .ok (.ret p) st' => .ok p st'
  | .ok (.exc x _) st' => .err x st'
  | _ => .bad
theorem er_start {K : PySem.W.Frag} {H : Hp} {μ : Mu} {N : List Str} {ps : List PV} {vs : List V} (r : VRs K H μ ps vs) : ER K H μ (ps.map some ++ List.replicate (N.length - ps.length) none) (L2.start N vs) := by
  have hl := VRs.length r
  refine ⟨by unfold L2.start; simp [hl], fun i p h => ?_⟩
  by_cases hi : i < ps.length
  · rw [List.getElem?_append_left (by simpa using hi), List.getElem?_map] at h
    cases q : ps[i]? with
    | none => rw [q] at h; cases h
    | some p' =>
      rw [q] at h
      cases h
      obtain ⟨v, e1, e2⟩ := VRs.get r q
      refine ⟨v, ?_, e2⟩
      unfold L2.start
      rw [List.getElem?_append_left (by simpa [← hl] using hi), List.getElem?_map, e1]
      rfl
  · rw [List.getElem?_append_right (by simpa using hi), List.getElem?_replicate] at h
    split at h <;> cases h
theorem def_ok {P : Program} {w : World} {K : PySem.W.Frag} {mg : Str → Option Value} {base : Heap} {x qual : Str} {st : Stmt} {f : Addr} {fd : FuncData} {N ps : List Str} {k : Nat} {m : Rho → M Fl} (F : Fun K x qual st f fd) (S : FnScope N ps (defScope st))
    (hb : ∀ (cdv : Value) (A : Around) (outer : List Env) (s : Shared) (H : Hp) (E : XK), Room k (A.deeper (PyProof.Rows.envOfC qual (defScope st) s.heap.objs.size f cdv)) →
      MSs (cxOf (L2.CX P w) P w K mg base N qual (defScope st) f cdv A outer s H E) (fun c d _ H => E c d H) (defBody st) m) :
    FnOk P w K mg base (L2.CX P w) (k + 1) f fd ps (spM ⟨w, K⟩ (runB m N.length) ps.length) := by
  refine F.okX S (fun vs H Q E h => ?_) (fun cdv A outer s H vs Q E hr h => ?_)
  · obtain ⟨μ, st, qs, _, r, hn, _⟩ := h
    rw [← VRs.length r, hn]
  · refine ⟨_, hb cdv A outer s H E hr, ?_⟩
    obtain ⟨μ, st, qs, sr, r, hn, h⟩ := h
    refine ⟨μ, st, _, er_start r, sr, ?_⟩
    unfold runB at h
    cases q : m (qs.map some ++ List.replicate (N.length - qs.length) none) st with
    | ok fl st' =>
      rw [q] at h
      cases fl with
      | next ρ' => exact fun μ' H' σ' g s e => h μ' H' .non g s rfl
      | ret p => exact h
      | brk ρ' => exact h.elim
      | cont ρ' => exact h.elim
      | exc x ρ' => exact fun μ' H' σ' d g s e z => h μ' H' d g s z
    | err x st' => rw [q] at h; exact h.elim
    | bad => rw [q] at h; exact h.elim
end MP

set_option maxRecDepth 100000
set_option maxHeartbeats 4000000
namespace MP
open PySem L2 PySem.Spec PyProof.Rows
theorem tuple_mul1 (l : Addr) (items : Array Value) (n : Nat) (dd : Option Addr) (sl : Array (Option Value)) (u : Tok) :
    Meets (Builtin.«tuple.__mul__» ⟨[.ref l, .int 1 u], []⟩) (fun _ R s => s.heap.get? l = some { cls := .type "tuple", dict := dd, data := .seq items n, slots := sl } ∧ R (.ok (.ret (Value.ref l))) s) :=
  .of_wp fun prog w A R s h => by
    obtain ⟨hp, g, d, tk, os⟩ := s
    obtain ⟨hl, h⟩ := h
    have f1 := AutoSeq1.idx_int
    wp_walk using wpAny_loadPart' hl
    exact ⟨_, rfl, h⟩
theorem tuple_mul0 (l : Addr) (items : Array Value) (n : Nat) (dd : Option Addr) (sl : Array (Option Value)) (x : Int) (u : Tok) (c0 : (decide (x < -(2 ^ 63)) || decide (x ≥ 2 ^ 63)) = false) (c1 : (items.isEmpty || x == 1) = false) (c2 : (decide (x ≤ 0) || items.isEmpty) = true) :
    Meets (Builtin.«tuple.__mul__» ⟨[.ref l, .int x u], []⟩) (fun _ R s => s.heap.get? l = some { cls := .type "tuple", dict := dd, data := .seq items n, slots := sl } ∧
      R (.ok (.ret (Value.ref s.heap.objs.size))) { s with heap := s.heap.push { cls := Value.type "tuple", data := Data.seq #[] }, toks := s.toks }) :=
  .of_wp fun prog w A R s h => by
    obtain ⟨hp, g, d, tk, os⟩ := s
    obtain ⟨hl, h⟩ := h
    have f1 := AutoSeq1.idx_int
    wp_walk using wpAny_loadPart' hl
    repeat (first
      | (refine wpAny_ite_false (decide_eq_false (by rw [c0]; exact Bool.false_ne_true)) ?_; wp_walk using wpAny_loadPart' hl)
      | (refine wpAny_ite_false (decide_eq_false (by rw [c1]; exact Bool.false_ne_true)) ?_; wp_walk using wpAny_loadPart' hl)
      | (refine wpAny_ite_true (decide_eq_true (by rw [c2])) ?_; wp_walk using wpAny_loadPart' hl))
    exact ⟨_, rfl, h⟩
noncomputable def rRepL (K : PySem.W.Frag) : R2 := fun x y H Q => ∃ l k xs, x = .ref l ∧ y = .int k ∧ SqT K H l xs ∧ ((k = 1 ∧ Q (.ref l) H) ∨ (xs ≠ [] ∧ k ≤ 0 ∧ -1000000 ≤ k ∧ ∀ p, H p = none → Q (.ref p) (upd H p (.tup []))))
theorem op_repL {X : Cx} : OpR X (binaryOp .Mult) (rRepL X.K) := by
  intro pins s σ H x y v u Q I rx ry h
  obtain ⟨l, k, xs, rfl, rfl, hT, h⟩ := h
  cases rx
  obtain ⟨t, rfl⟩ := ry
  obtain ⟨its, r, ⟨⟨cls, dd, data, sl⟩, ho, hc, n, hd⟩, hs⟩ := I.tuple hT
  simp only at hc hd
  subst hc hd
  have hle : its.length = xs.length := r.length.symm
  rcases h with ⟨rfl, q⟩ | ⟨hne, h1, h2, q⟩
  · refine wpAny_binaryOp_repeat_ref (T := "tuple") (U := "int") (by decide) ⟨_, ho, rfl⟩ (fun s' => typeIs_int s' 1 t) noFill_tuple_mul F.fills_int_mul F.slot_int_rmul repeat_tuple F.slot_int_index.lookup
      (call_meets F.slot_int_rmul (typeIs_int s 1 t) F.entry_int_rmul (F.args_int_rmul_2 _ _) (int_rmul_tuple 1 t l its.toArray n dd sl)
        ⟨ho, rfl, ⟨_, ho, rfl⟩, call_meets F.slot_tuple_mul ⟨_, ho, rfl⟩ F.entry_tuple_mul (F.args_tuple_mul_2 _ _) (tuple_mul1 l its.toArray n dd sl t) ⟨ho, ?_⟩⟩)
    exact ⟨.ref l, H, I, rfl, q⟩
  · have hn : its ≠ [] := fun e => hne (by
      rw [e] at hle
      exact List.eq_nil_of_length_eq_zero hle.symm)
    have hi : its.toArray.isEmpty = false := by
      cases its with
      | nil => exact absurd rfl hn
      | cons a b => rfl
    have c0 : (decide (k < -(2 ^ 63)) || decide (k ≥ 2 ^ 63)) = false := by
      rw [decide_eq_false (by omega), decide_eq_false (by omega)] <;> rfl
    have c1 : (its.toArray.isEmpty || k == 1) = false := by
      rw [hi, Bool.false_or]
      exact beq_eq_false_iff_ne.mpr (by omega)
    have c2 : (decide (k ≤ 0) || its.toArray.isEmpty) = true := by
      rw [hi, Bool.or_false]
      exact decide_eq_true (by omega)
    refine wpAny_binaryOp_repeat_ref (T := "tuple") (U := "int") (by decide) ⟨_, ho, rfl⟩ (fun s' => typeIs_int s' k t) noFill_tuple_mul F.fills_int_mul F.slot_int_rmul repeat_tuple F.slot_int_index.lookup
      (call_meets F.slot_int_rmul (typeIs_int s k t) F.entry_int_rmul (F.args_int_rmul_2 _ _) (int_rmul_tuple k t l its.toArray n dd sl)
        ⟨ho, rfl, ⟨_, ho, rfl⟩, call_meets F.slot_tuple_mul ⟨_, ho, rfl⟩ F.entry_tuple_mul (F.args_tuple_mul_2 _ _) (tuple_mul0 l its.toArray n dd sl k t c0 c1 c2) ⟨ho, ?_⟩⟩)
    refine ⟨.ref s.heap.objs.size, _, I.laid (t' := s.toks) (o := .tup []) (fun b ob q => Heap.get?_push_of_some _ q) (Nat.le_refl _) ?_, rfl, q _ (I.hok.fresh (Nat.le_refl _))⟩
    exact ⟨by rw [sizeLine_eq]; simp, _, .nil, IsTup.new _ _⟩
end MP

set_option maxRecDepth 100000
set_option maxHeartbeats 1000000
namespace MP
open PySem L2
noncomputable abbrev SZ : Nat := 16777216
theorem sz_eq : sizeLine = SZ := sizeLine_eq
section
variable {K : KW} {H : Hp} {μ : Mu} {st : Sto} {E : XK} {Q : VK} {x y : PV} {u v : V}
theorem post_tup {ps : List PV} {vs : List V} {p : Addr} (sr : SR K μ st H) (r : VRs K H μ ps vs) (hp : H p = none) (h : PostG K E (VR K) Q μ H (.ok (.tup ps) st)) : Q (.ref p) (upd H p (.tup vs)) :=
  h μ _ _ (gr_new hp) (sr.new hp) (show ∃ a ws, V.ref p = .ref a ∧ TupAt K (upd H p (.tup vs)) μ a ws ∧ VRs K (upd H p (.tup vs)) μ ps ws from ⟨p, vs, rfl, .inl ⟨upd_same, sr.free hp⟩, VRs.mono (gr_new hp) ps vs r⟩)
theorem post_lst {ps : List PV} {vs : List V} {p : Addr} (sr : SR K μ st H) (r : VRs K H μ ps vs) (hp : H p = none) (h : PostG K E (VR K) Q μ H (.ok (.lst ps) st)) : Q (.ref p) (upd H p (.lst vs)) :=
  h μ _ _ (gr_new hp) (sr.new hp) (show ∃ a ws, V.ref p = .ref a ∧ LstAt (upd H p (.lst vs)) μ a ws ∧ VRs K (upd H p (.lst vs)) μ ps ws from ⟨p, vs, rfl, ⟨upd_same, sr.free hp⟩, VRs.mono (gr_new hp) ps vs r⟩)
theorem post_cell {c : Cell} {o : HO} {p : Addr} (h : PostG K E (VR K) Q μ H (.ok (.loc st.length) (st ++ [c]))) (sr : SR K μ st H) (hp : H p = none) (hc : CR K (upd H p o) (μ.add p) p c) : Q (.ref p) (upd H p o) :=
  h _ _ _ (gr_alloc hp) (sr.alloc hp hc) (show ∃ a, V.ref p = .ref a ∧ (μ.add p).l[st.length]? = some a from ⟨p, rfl, by rw [← sr.len]; simp [Mu.add]⟩)
theorem post_same {p : PV} (h : PostG K E (VR K) Q μ H (.ok p st)) (sr : SR K μ st H) (r : VR K H μ p v) : Q v H := h μ H v (Gr.refl _ _) sr r
theorem lst_at {K : PySem.W.Frag} {ps : List PV} (r : VR K H μ (.lst ps) v) : ∃ a vs, v = .ref a ∧ LstAt H μ a vs ∧ VRs K H μ ps vs := r
theorem frz_at {K : PySem.W.Frag} {ps : List PV} (r : VR K H μ (.frz ps) v) : ∃ a vs, v = .ref a ∧ FrzAt K H μ a vs ∧ VRs K H μ ps vs := r
theorem tup_at {K : PySem.W.Frag} {ps : List PV} (r : VR K H μ (.tup ps) v) : ∃ a vs, v = .ref a ∧ TupAt K H μ a vs ∧ VRs K H μ ps vs := r
theorem loc_at {K : PySem.W.Frag} {n : Nat} (r : VR K H μ (.loc n) v) : ∃ a, v = .ref a ∧ μ.l[n]? = some a := r
noncomputable def listOf (p : PV) (st : Sto) : Option (List PV) := match p with
  | .lst xs => some xs
  | .loc n => match st[n]? with
    | some (.lst xs) => some xs
    | _ => none
  | _ => none
theorem listOf_at {ps : List PV} (sr : SR K μ st H) (r : VR K H μ x v) (h : listOf x st = some ps) : ∃ a vs, v = .ref a ∧ H a = some (.lst vs) ∧ VRs K H μ ps vs := by
  cases x with
  | lst xs =>
    cases h
    obtain ⟨a, vs, e, l, rs⟩ := lst_at r
    exact ⟨a, vs, e, l.1, rs⟩
  | loc n =>
    obtain ⟨a, e, ha⟩ := loc_at r
    unfold listOf at h
    dsimp only at h
    cases q : st[n]? with
    | none => rw [q] at h; cases h
    | some c =>
      rw [q] at h
      cases c with
      | lst xs =>
        cases h
        obtain ⟨vs, h1, h2⟩ := sr.cell n _ a q ha
        exact ⟨a, vs, e, h1, h2⟩
      | dct kvs => cases h
      | ins C fs => cases h
      | dcl kvs => cases h
      | dcn kvs => cases h
      | lck kvs => cases h
  | _ => cases h
noncomputable def seqOf (p : PV) (st : Sto) : Option (List PV) := match p with
  | .lst xs => some xs
  | .frz xs => some xs
  | .tup xs => some xs
  | .loc n => match st[n]? with
    | some (.lst xs) => some xs
    | _ => none
  | _ => none
theorem seqOf_at {ps : List PV} (sr : SR K μ st H) (r : VR K H μ x v) (h : seqOf x st = some ps) : ∃ a vs, v = .ref a ∧ (SqL K H a vs ∨ SqT K H a vs) ∧ VRs K H μ ps vs := by
  cases x with
  | lst xs =>
    cases h
    obtain ⟨a, vs, e, l, rs⟩ := lst_at r
    exact ⟨a, vs, e, .inl l.sq, rs⟩
  | frz xs =>
    cases h
    obtain ⟨a, vs, e, l, rs⟩ := frz_at r
    exact ⟨a, vs, e, .inl l.sq, rs⟩
  | tup xs =>
    cases h
    obtain ⟨a, vs, e, l, rs⟩ := tup_at r
    exact ⟨a, vs, e, .inr l.sq, rs⟩
  | loc n =>
    obtain ⟨a, vs, e, l, rs⟩ := listOf_at sr r (show listOf (.loc n) st = some ps from h)
    exact ⟨a, vs, e, .inl (SqL.of l), rs⟩
  | _ => cases h
theorem VRs.atI {K : PySem.W.Frag} {ps : List PV} {vs : List V} {i : Int} {p : PV} (r : VRs K H μ ps vs) (h : L2.atI ps i = some p) : ∃ w, L2.atI vs i = some w ∧ VR K H μ p w := by
  unfold L2.atI at h ⊢
  rw [VRs.length r] at h
  cases q : ixN vs.length i with
  | none => rw [q] at h; cases h
  | some j =>
    rw [q] at h
    exact VRs.get r h
end

noncomputable def addV (x y : PV) : M PV := match x, y with
  | .int i, .int j => M.ret (.int (i + j))
  | .str a, .str b => if a.length + b.length ≤ SZ then M.ret (.str (a ++ b)) else M.fail
  | .tup a, .tup b => if a.length + b.length ≤ SZ then M.ret (.tup (a ++ b)) else M.fail
  | x, y => fun st => match listOf x st, listOf y st with
    | some a, some b => if a.length + b.length ≤ SZ then .ok (.lst (a ++ b)) st else .bad
    | _, _ => .bad
noncomputable def rAddM (K : PySem.W.Frag) : R2 := fun x y H Q => (∃ i j, x = .int i ∧ y = .int j ∧ Q (.int (i + j)) H) ∨ (∃ i j, x = .str i ∧ y = .str j ∧ i.length + j.length ≤ sizeLine ∧ Q (.str (i ++ j)) H) ∨ rCatA K x y H Q ∨ rCat x y H Q
theorem op_addM {X : Cx} : OpR X (binaryOp .Add) (rAddM X.K) := op_add.or (op_add_str.or (op_catA.or op_cat))
theorem str_app (a b : List Nat) : (⟨a.toArray⟩ : Str) ++ (⟨b.toArray⟩ : Str) = ⟨(a ++ b).toArray⟩ := by
  show (⟨a.toArray ++ b.toArray⟩ : Str) = ⟨(a ++ b).toArray⟩
  simp
theorem str_len (a : List Nat) : (⟨a.toArray⟩ : Str).length = a.length := by
  show a.toArray.size = a.length
  simp
theorem add_list {K : KW} {μ : Mu} {st : Sto} {H : Hp} {x y : PV} {u v : V} {E : XK} {Q : VK} (sr : SR K μ st H) (rx : VR K H μ x u) (ry : VR K H μ y v)
    (h : PostG K E (VR K) Q μ H (match listOf x st, listOf y st with
    | some a, some b => if a.length + b.length ≤ SZ then .ok (.lst (a ++ b)) st else .bad
    | _, _ => .bad)) : rCat u v H Q := by
  cases q1 : listOf x st with
  | none => rw [q1] at h; exact h.elim
  | some a =>
    cases q2 : listOf y st with
    | none => rw [q1, q2] at h; exact h.elim
    | some b =>
      rw [q1, q2] at h
      dsimp only at h
      by_cases hz : a.length + b.length ≤ SZ
      · rw [if_pos hz] at h
        obtain ⟨p, vs, rfl, h1, r1⟩ := listOf_at sr rx q1
        obtain ⟨p', vs', rfl, h2, r2⟩ := listOf_at sr ry q2
        exact ⟨p, p', vs, vs', rfl, rfl, h1, h2, by rw [← VRs.length r1, ← VRs.length r2, sz_eq]; exact hz, fun q hq => post_lst sr (VRs.append r1 r2) hq h⟩
      · rw [if_neg hz] at h
        exact h.elim
theorem t_add {K : KW} : T2 K (rAddM K) addV := by
  intro μ st H x y u v E Q sr rx ry h
  cases x with
  | int i =>
    cases y with
    | int j =>
      cases (show u = V.int _ from rx); cases (show v = V.int _ from ry)
      exact .inl ⟨_, _, rfl, rfl, post_same h sr rfl⟩
    | _ => exact .inr (.inr (.inr (add_list sr rx ry h)))
  | str a =>
    cases y with
    | str b =>
      cases (show u = V.str ⟨a.toArray⟩ from rx); cases (show v = V.str ⟨b.toArray⟩ from ry)
      unfold addV at h
      dsimp only at h
      by_cases hz : a.length + b.length ≤ SZ
      · rw [if_pos hz] at h
        exact .inr (.inl ⟨_, _, rfl, rfl, by rw [str_len, str_len, sz_eq]; exact hz, by rw [str_app]; exact post_same h sr rfl⟩)
      · rw [if_neg hz] at h
        exact h.elim
    | _ => exact .inr (.inr (.inr (add_list sr rx ry h)))
  | tup a =>
    cases y with
    | tup b =>
      obtain ⟨p, vs, rfl, h1, r1⟩ := tup_at rx
      obtain ⟨p', vs', rfl, h2, r2⟩ := tup_at ry
      unfold addV at h
      dsimp only at h
      by_cases hz : a.length + b.length ≤ SZ
      · rw [if_pos hz] at h
        refine .inr (.inr (.inl ⟨p, p', vs, vs', rfl, rfl, h1.sq, h2.sq, by rw [← VRs.length r1, ← VRs.length r2, sz_eq]; exact hz, fun e => ?_, fun _ e => ?_, fun _ _ q hq => post_tup sr (VRs.append r1 r2) hq h⟩))
        · have ea : a = [] := (VRs.nil_iff r1).mp e
          subst ea
          exact post_same h sr ry
        · have eb : b = [] := (VRs.nil_iff r2).mp e
          subst eb
          rw [List.append_nil] at h
          exact post_same h sr rx
      · rw [if_neg hz] at h
        exact h.elim
    | _ => exact .inr (.inr (.inr (add_list sr rx ry h)))
  | _ => exact .inr (.inr (.inr (add_list sr rx ry h)))
noncomputable def subV (x y : PV) : M PV := match x, y with
  | .int i, .int j => M.ret (.int (i - j))
  | _, _ => M.fail
theorem t_sub {K : KW} : T2 K (rI0 fun i j => .int (i - j)) subV := by
  intro μ st H x y u v E Q sr rx ry h
  unfold subV at h
  split at h
  · cases (show u = V.int _ from rx); cases (show v = V.int _ from ry)
    exact ⟨_, _, rfl, rfl, post_same h sr rfl⟩
  · exact h.elim
noncomputable def mulOk (i j : Int) : Bool := decide (-18446744073709551616 < i ∧ i < 18446744073709551616) || decide (-18446744073709551616 < j ∧ j < 18446744073709551616)
noncomputable def mulV (x y : PV) : M PV := match x, y with
  | .int i, .int j => if mulOk i j = true then M.ret (.int (i * j)) else M.fail
  | .tup a, .int k => if a ≠ [] ∧ -1000000 ≤ k ∧ k ≤ 1000 ∧ a.length ≤ 1000 then M.ret (.tup (List.replicate k.toNat a).flatten) else M.fail
  | _, _ => M.fail
theorem VRs.rep {K : PySem.W.Frag} {H : Hp} {μ : Mu} {ps : List PV} {vs : List V} (r : VRs K H μ ps vs) : ∀ k : Nat, VRs K H μ (List.replicate k ps).flatten (List.replicate k vs).flatten
  | 0 => rfl
  | k + 1 => by
    rw [List.replicate_succ, List.replicate_succ, List.flatten_cons, List.flatten_cons]
    exact VRs.append r (VRs.rep r k)
theorem t_mul {K : KW} : T2 K (fun x y H Q => rI CMul (fun i j => .int (i * j)) x y H Q ∨ (rRepT K x y H Q ∨ rRepL K x y H Q)) mulV := by
  intro μ st H x y u v E Q sr rx ry h
  unfold mulV at h
  split at h
  · rename_i i j
    cases (show u = V.int i from rx); cases (show v = V.int j from ry)
    by_cases hz : mulOk i j = true
    · rw [if_pos hz] at h
      refine .inl ⟨_, _, rfl, rfl, ?_, post_same h sr rfl⟩
      unfold mulOk at hz
      rw [Bool.or_eq_true, decide_eq_true_eq, decide_eq_true_eq] at hz
      exact hz
    · rw [if_neg hz] at h
      exact h.elim
  · rename_i a k
    obtain ⟨p, vs, rfl, h1, r1⟩ := tup_at rx
    cases (show v = V.int k from ry)
    by_cases hz : a ≠ [] ∧ -1000000 ≤ k ∧ k ≤ 1000 ∧ a.length ≤ 1000
    · rw [if_pos hz] at h
      have hn : vs ≠ [] := fun e => hz.1 ((VRs.nil_iff r1).mp e)
      by_cases h2 : 2 ≤ k
      · exact .inr (.inl ⟨p, k, vs, rfl, rfl, h1.sq, hn, h2, hz.2.2.1, by rw [← VRs.length r1]; exact hz.2.2.2, fun q hq => post_tup sr (VRs.rep r1 _) hq h⟩)
      · by_cases h3 : k = 1
        · subst h3
          have e : (List.replicate (1 : Int).toNat a).flatten = a := by simp
          rw [e] at h
          exact .inr (.inr ⟨p, 1, vs, rfl, rfl, h1.sq, .inl ⟨rfl, post_same h sr rx⟩⟩)
        · have e : (List.replicate k.toNat a).flatten = [] := by rw [show k.toNat = 0 by omega]; rfl
          rw [e] at h
          exact .inr (.inr ⟨p, k, vs, rfl, rfl, h1.sq, .inr ⟨hn, by omega, hz.2.1, fun q hq => post_tup (ps := []) sr (show VRs K H μ [] [] from rfl) hq h⟩⟩)
    · rw [if_neg hz] at h
      exact h.elim
  · exact h.elim
noncomputable def fdivV (x y : PV) : M PV := match x, y with
  | .int i, .int j => if (j ≠ 0 ∧ j.natAbs < 1073741824) ∨ (0 < j ∧ j.natAbs.log2 < 9000) then M.ret (.int (i.fdiv j)) else M.fail
  | _, _ => M.fail
theorem t_fdiv {K : KW} : T2 K (fun x y H Q => rI CDivN (fun i j => .int (i.fdiv j)) x y H Q ∨ rI CDivW (fun i j => .int (i / j)) x y H Q) fdivV := by
  intro μ st H x y u v E Q sr rx ry h
  unfold fdivV at h
  split at h
  · rename_i i j
    cases (show u = V.int i from rx); cases (show v = V.int j from ry)
    by_cases hz : (j ≠ 0 ∧ j.natAbs < 1073741824) ∨ (0 < j ∧ j.natAbs.log2 < 9000)
    · rw [if_pos hz] at h
      rcases hz with hz | hz
      · exact .inl ⟨_, _, rfl, rfl, hz, post_same h sr rfl⟩
      · refine .inr ⟨_, _, rfl, rfl, hz, ?_⟩
        have q := post_same (v := V.int (i.fdiv j)) h sr rfl
        rw [Int.fdiv_eq_ediv_of_nonneg i (by omega)] at q
        exact q
    · rw [if_neg hz] at h
      exact h.elim
  · exact h.elim
noncomputable def modV (x y : PV) : M PV := match x, y with
  | .int i, .int j => if j ≠ 0 then M.ret (.int (i.fmod j)) else M.fail
  | _, _ => M.fail
theorem t_mod {K : KW} : T2 K (rI (fun _ j => j ≠ 0) fun i j => .int (i.fmod j)) modV := by
  intro μ st H x y u v E Q sr rx ry h
  unfold modV at h
  split at h
  · rename_i i j
    cases (show u = V.int i from rx); cases (show v = V.int j from ry)
    by_cases hz : j ≠ 0
    · rw [if_pos hz] at h
      exact ⟨_, _, rfl, rfl, hz, post_same h sr rfl⟩
    · rw [if_neg hz] at h
      exact h.elim
  · exact h.elim
noncomputable def powV (x y : PV) : M PV := match x, y with
  | .int i, .int j => if 0 ≤ j ∧ j ≤ 1000000 ∧ i.natAbs < 18446744073709551616 then M.ret (.int (i ^ j.toNat)) else M.fail
  | _, _ => M.fail
noncomputable def negV (x : PV) : M PV := match x with
  | .int i => M.ret (.int (-i))
  | _ => M.fail
theorem t_neg {K : KW} : T1 K (rU fun i => .int (-i)) negV := by
  intro μ st H x u E Q sr rx h
  unfold negV at h
  split at h
  · cases (show u = V.int _ from rx)
    exact ⟨_, rfl, post_same h sr rfl⟩
  · exact h.elim
section
variable {X : Cx} {W : WX} {a b : Expr} {pos : Pos} {ma mb : Rho → M PV}
theorem me_add (ha : ME X W a ma) (hb : ME X W b mb) : ME X W (.BinOp a .Add b pos) (eBin addV ma mb) := me_bin op_addM t_add ha hb
theorem me_sub (ha : ME X W a ma) (hb : ME X W b mb) : ME X W (.BinOp a .Sub b pos) (eBin subV ma mb) := me_bin op_sub t_sub ha hb
theorem me_mul (ha : ME X W a ma) (hb : ME X W b mb) : ME X W (.BinOp a .Mult b pos) (eBin mulV ma mb) := me_bin (op_mul.or (op_repT.or op_repL)) t_mul ha hb
theorem me_fdiv (ha : ME X W a ma) (hb : ME X W b mb) : ME X W (.BinOp a .FloorDiv b pos) (eBin fdivV ma mb) := me_bin (op_fdivN.or op_fdivW) t_fdiv ha hb
theorem me_mod (ha : ME X W a ma) (hb : ME X W b mb) : ME X W (.BinOp a .Mod b pos) (eBin modV ma mb) := me_bin op_modN t_mod ha hb
theorem me_neg (ha : ME X W a ma) : ME X W (.UnaryOp .USub a pos) (eUn negV ma) := me_un un_neg t_neg ha
end
noncomputable def ltV (p : Int → Int → Bool) (x y : PV) : M PV := match x, y with
  | .int i, .int j => M.ret (.bl (p i j))
  | _, _ => M.fail
theorem t_cmpI {K : KW} (p : Int → Int → Bool) : T2 K (rI0 fun i j => .bl (p i j)) (ltV p) := by
  intro μ st H x y u v E Q sr rx ry h
  unfold ltV at h
  split at h
  · cases (show u = V.int _ from rx); cases (show v = V.int _ from ry)
    exact ⟨_, _, rfl, rfl, post_same h sr rfl⟩
  · exact h.elim
noncomputable abbrev ltI : PV → PV → M PV := ltV fun i j => decide (i < j)
noncomputable abbrev gtI : PV → PV → M PV := ltV fun i j => decide (j < i)
mutual
noncomputable def eqb : PV → PV → Bool
  | .non, .non => true
  | .bl a, .bl b => a == b
  | .bl a, .int j => (if a then 1 else 0) == j
  | .int i, .bl b => i == (if b then 1 else 0)
  | .int i, .int j => i == j
  | .str x, .str y => x == y
  | .lst xs, .lst ys => eqbs xs ys
  | .tup xs, .tup ys => eqbs xs ys
  | _, _ => false
noncomputable def eqbs : List PV → List PV → Bool
  | [], [] => true
  | x :: xs, y :: ys => eqb x y && eqbs xs ys
  | _, _ => false
end
mutual
noncomputable def toD : PV → Option PyData
  | .non => some .none
  | .bl b => some (.bool b)
  | .int i => some (.int i)
  | .str x => some (.str ⟨x.toArray⟩)
  | .lst xs => (toDs xs).map .list
  | .tup xs => (toDs xs).map .tuple
  | _ => none
noncomputable def toDs : List PV → Option (List PyData)
  | [] => some []
  | x :: xs => match toD x, toDs xs with
    | some d, some ds => some (d :: ds)
    | _, _ => none
end
end MP

set_option maxRecDepth 100000
set_option maxHeartbeats 1000000
namespace MP
open PySem L2
noncomputable def lookP : List (PV × PV) → PV → Option PV
  | [], _ => none
  | p :: r, k => if p.1 = k then some p.2 else lookP r k
noncomputable def putP (kvs : List (PV × PV)) (k v : PV) : List (PV × PV) :=
  if (kvs.any fun kv => decide (kv.1 = k)) = true then kvs.map (fun kv => if kv.1 = k then (kv.1, v) else kv) else kvs ++ [(k, v)]
section
variable {K : PySem.W.Frag} {H : Hp} {μ : Mu}
theorem valueAt_pos {κ : Type} [DecidableEq κ] {x : κ × Value} {r : List (κ × Value)} {k : κ} (e : x.1 = k) : valueAt (x :: r) k = some x.2 := by simp [valueAt, List.find?_cons, e]
theorem valueAt_neg {κ : Type} [DecidableEq κ] {x : κ × Value} {r : List (κ × Value)} {k : κ} (e : ¬ x.1 = k) : valueAt (x :: r) k = valueAt r k := by simp [valueAt, List.find?_cons, e]
theorem atKey_pos {κ : Type} [DecidableEq κ] {x : κ × Addr × Value} {r : List (κ × Addr × Value)} {k : κ} (e : x.1 = k) : atKey (x :: r) k = some x.2 := by simp [atKey, List.find?_cons, e]
theorem atKey_neg {κ : Type} [DecidableEq κ] {x : κ × Addr × Value} {r : List (κ × Addr × Value)} {k : κ} (e : ¬ x.1 = k) : atKey (x :: r) k = atKey r k := by simp [atKey, List.find?_cons, e]
theorem lf_dec {p k : PV} {x l : Leaf} (h : lfOf p = some x) (hk : lfOf k = some l) : (x = l) = (p = k) := by
  refine propext ⟨fun e => ?_, fun e => ?_⟩
  · rw [← e] at hk; exact lfOf_inj h hk
  · rw [e, hk] at h; exact (Option.some.inj h).symm
theorem nk_dec {p k : PV} {x l : NestedKey} (h : nkT p = some x) (hk : nkT k = some l) : (x = l) = (p = k) := by
  refine propext ⟨fun e => ?_, fun e => ?_⟩
  · rw [← e] at hk; exact nkT_inj h hk
  · rw [e, hk] at h; exact (Option.some.inj h).symm
theorem LRs.look {k : PV} {l : Leaf} (hk : lfOf k = some l) {kvs : List (PV × PV)} {xs : List (Leaf × Value)} (r : LRs K H μ kvs xs) :
    ∃ o : Option V, RelO o (valueAt xs l) ∧ (∀ p, lookP kvs k = some p → ∃ v, o = some v ∧ VR K H μ p v) ∧ (lookP kvs k = none → o = none) := by
  unfold LRs at r
  induction r with
  | nil => exact ⟨none, trivial, fun p h => (by cases h), fun _ => rfl⟩
  | @cons p x ps xs h t ih =>
    obtain ⟨h1, v, h2, h3⟩ := h
    unfold lookP
    by_cases e : p.1 = k
    · have e' : x.1 = l := by rw [lf_dec h1 hk]; exact e
      rw [if_pos e, valueAt_pos e']
      exact ⟨some v, h3, fun q hq => by cases hq; exact ⟨v, rfl, h2⟩, fun h => (by cases h)⟩
    · have e' : ¬ x.1 = l := by rw [lf_dec h1 hk]; exact e
      rw [if_neg e, valueAt_neg e']
      exact ih
theorem NRs.look {k : PV} {l : NestedKey} (hk : nkT k = some l) {kvs : List (PV × PV)} {xs : List (NestedKey × Addr × Value)} (r : NRs K H μ kvs xs) :
    ∃ o : Option V, RelO o ((atKey xs l).map (·.2)) ∧ (∀ p, lookP kvs k = some p → ∃ v, o = some v ∧ VR K H μ p v) ∧ (lookP kvs k = none → o = none) := by
  unfold NRs at r
  induction r with
  | nil => exact ⟨none, trivial, fun p h => (by cases h), fun _ => rfl⟩
  | @cons p x ps xs h t ih =>
    obtain ⟨h1, _, v, h2, h3⟩ := h
    unfold lookP
    by_cases e : p.1 = k
    · have e' : x.1 = l := by rw [nk_dec h1 hk]; exact e
      rw [if_pos e, atKey_pos e']
      exact ⟨some v, h3, fun q hq => by cases hq; exact ⟨v, rfl, h2⟩, fun h => (by cases h)⟩
    · have e' : ¬ x.1 = l := by rw [nk_dec h1 hk]; exact e
      rw [if_neg e, atKey_neg e']
      exact ih
theorem LRs.any {k : PV} {l : Leaf} (hk : lfOf k = some l) {kvs : List (PV × PV)} {xs : List (Leaf × Value)} (r : LRs K H μ kvs xs) : (xs.any fun x => decide (x.1 = l)) = (kvs.any fun x => decide (x.1 = k)) := by
  unfold LRs at r
  induction r with
  | nil => rfl
  | cons h t ih => rw [List.any_cons, List.any_cons, ih]; simp only [lf_dec h.1 hk]
theorem NRs.any {k : PV} {l : NestedKey} (hk : nkT k = some l) {kvs : List (PV × PV)} {xs : List (NestedKey × Addr × Value)} (r : NRs K H μ kvs xs) : (atKey xs l).isSome = (kvs.any fun x => decide (x.1 = k)) := by
  unfold NRs at r
  induction r with
  | nil => rfl
  | @cons p x ps xs h t ih =>
    rw [List.any_cons]
    by_cases e : p.1 = k
    · have e' : x.1 = l := by rw [nk_dec h.1 hk]; exact e
      rw [atKey_pos e', decide_eq_true e]; rfl
    · have e' : ¬ x.1 = l := by rw [nk_dec h.1 hk]; exact e
      rw [atKey_neg e', decide_eq_false e, ih]; rfl
theorem LRs.put {k p : PV} {l : Leaf} {v : V} {r : Value} (hk : lfOf k = some l) (rp : VR K H μ p v) (rv : RelV v r) {kvs : List (PV × PV)} {xs : List (Leaf × Value)} (h : LRs K H μ kvs xs) : LRs K H μ (putP kvs k p) (stored xs l r) := by
  unfold putP stored
  rw [h.any hk]
  split
  · next hsome =>
    clear hsome
    unfold LRs at h ⊢
    induction h with
    | nil => exact .nil
    | @cons q x qs xs h t ih =>
      rw [List.map_cons, List.map_cons]
      refine .cons ?_ ih
      simp only [lf_dec h.1 hk]
      by_cases e : q.1 = k
      · rw [if_pos e, if_pos e]; exact ⟨h.1, v, rp, rv⟩
      · rw [if_neg e, if_neg e]; exact h
  · exact Paired.snoc h ⟨hk, v, rp, rv⟩
theorem NRs.put {k p : PV} {l : NestedKey} {b : Addr} {v : V} {r : Value} (hk : nkT k = some l) (rk : VR K H μ k (.ref b)) (rp : VR K H μ p v) (rv : RelV v r) {kvs : List (PV × PV)} {xs : List (NestedKey × Addr × Value)} (h : NRs K H μ kvs xs) :
    NRs K H μ (putP kvs k p) (storedH xs l b r) := by
  unfold putP storedH
  rw [h.any hk]
  split
  · next hsome =>
    clear hsome
    unfold NRs at h ⊢
    induction h with
    | nil => exact .nil
    | @cons q x qs xs h t ih =>
      rw [List.map_cons, List.map_cons]
      refine .cons ?_ ih
      unfold putAt
      simp only [nk_dec h.1 hk]
      by_cases e : q.1 = k
      · rw [if_pos e, if_pos e]; exact ⟨h.1, h.2.1, v, rp, rv⟩
      · rw [if_neg e, if_neg e]; exact h
  · exact Paired.snoc h ⟨hk, rk, v, rp, rv⟩
theorem putP_len (kvs : List (PV × PV)) (k v : PV) : (putP kvs k v).length ≤ kvs.length + 1 := by
  unfold putP
  split
  · rw [List.length_map]; omega
  · rw [List.length_append]; simp
theorem stored_nodup {κ : Type} [DecidableEq κ] {xs : List (κ × Value)} {l : κ} {r : Value} (h : (xs.map (·.1)).Nodup) : ((stored xs l r).map (·.1)).Nodup := by
  unfold stored
  split
  · have e : (xs.map fun kv => if kv.1 = l then (kv.1, r) else kv).map (·.1) = xs.map (·.1) := by
      rw [List.map_map]; apply List.map_congr_left; intro x _; simp only [Function.comp]; split <;> rfl
    rw [e]; exact h
  · next q =>
    rw [List.map_append, List.nodup_append]
    refine ⟨h, by simp, fun a ha b hb => ?_⟩
    simp at hb
    subst hb
    rintro rfl
    apply q
    obtain ⟨x, hx, rfl⟩ := List.mem_map.mp ha
    exact List.any_eq_true.mpr ⟨x, hx, by simp⟩
theorem storedH_nodup {κ : Type} [DecidableEq κ] {xs : List (κ × Addr × Value)} {l : κ} {b : Addr} {r : Value} (h : (xs.map (·.1)).Nodup) : ((storedH xs l b r).map (·.1)).Nodup := by
  unfold storedH
  split
  · have e : (xs.map (putAt l r)).map (·.1) = xs.map (·.1) := by
      rw [List.map_map]; apply List.map_congr_left; intro x _; simp only [Function.comp, putAt]; split <;> rfl
    rw [e]; exact h
  · next q =>
    rw [List.map_append, List.nodup_append]
    refine ⟨h, by simp, fun a ha c hc => ?_⟩
    simp at hc
    subst hc
    rintro rfl
    apply q
    obtain ⟨x, hx, rfl⟩ := List.mem_map.mp ha
    unfold atKey
    rw [Option.isSome_map]
    exact List.find?_isSome.mpr ⟨x, hx, by simp⟩
end
section
variable {X : Cx} {pins : List (Addr × Obj)} {σ : L2.St} {H : Hp} {s : Shared} {μ : Mu}
mutual
theorem nk_is (I : Inv X pins σ H s) : ∀ (p : PV) (k : NestedKey) (v : V) (u : Value), nkOf p = some k → VR X.K H μ p v → RelV v u → NestedIs s.heap k u
  | .non, k, v, u, h, r, q => by
    cases (show some NestedKey.none = some k by rw [← h]; rfl)
    cases (show v = V.non from r)
    cases (show u = Value.none from q)
    exact .none
  | .int i, k, v, u, h, r, q => by
    cases (show some (NestedKey.num i) = some k by rw [← h]; rfl)
    cases (show v = V.int i from r)
    obtain ⟨t, rfl⟩ := (show ∃ t, u = Value.int i t from q)
    exact .int i t
  | .str x, k, v, u, h, r, q => by
    cases (show some (NestedKey.text ⟨x.toArray⟩) = some k by rw [← h]; rfl)
    cases (show v = V.str ⟨x.toArray⟩ from r)
    obtain ⟨t, rfl⟩ := (show ∃ t, u = Value.str ⟨x.toArray⟩ t from q)
    exact .text _ t
  | .tup xs, k, v, u, h, r, q => by
    obtain ⟨ks, e1, rfl⟩ := nkOf_tup h
    obtain ⟨a, vs, rfl, t, rs⟩ := (show ∃ a vs, v = .ref a ∧ TupAt X.K H μ a vs ∧ VRs X.K H μ xs vs from r)
    cases (show u = Value.ref a from q)
    obtain ⟨its, r', ⟨o, ho, hc, n, hd⟩, _⟩ := I.tuple t.sq
    exact .tup ho hc hd (by simpa using nks_is I xs ks vs its e1 rs r')
  | .bl _, _, _, _, h, _, _ => by cases h
  | .ty _, _, _, _, h, _, _ => by cases h
  | .gl _, _, _, _, h, _, _ => by cases h
  | .lst _, _, _, _, h, _, _ => by cases h
  | .frz _, _, _, _, h, _, _ => by cases h
  | .loc _, _, _, _, h, _, _ => by cases h
theorem nks_is (I : Inv X pins σ H s) : ∀ (ps : List PV) (ks : List NestedKey) (vs : List V) (us : List Value), nksOf ps = some ks → VRs X.K H μ ps vs → Vals vs us → NestedAll s.heap ks us
  | [], ks, vs, us, h, r, q => by
    cases (show some ([] : List NestedKey) = some ks by rw [← h]; rfl)
    cases (show vs = [] from r)
    cases q
    exact .nil
  | p :: ps, ks, vs, us, h, r, q => by
    obtain ⟨k, t, e1, e2, rfl⟩ := nksOf_cons h
    obtain ⟨v, vs', rfl, r1, r2⟩ := (show ∃ v r, vs = v :: r ∧ VR X.K H μ p v ∧ VRs X.K H μ ps r from r)
    cases q with
    | cons q1 q2 => exact .cons (nk_is I p k v _ e1 r1 q1) (nks_is I ps t vs' _ e2 r2 q2)
end
end
noncomputable def NK (K : PySem.W.Frag) (H : Hp) (k : NestedKey) (b : Addr) : Prop := ∃ μ p, nkT p = some k ∧ VR K H μ p (.ref b)
theorem NK.is {X : Cx} {pins : List (Addr × Obj)} {σ : L2.St} {H : Hp} {s : Shared} (I : Inv X pins σ H s) {k : NestedKey} {b : Addr} (h : NK X.K H k b) : (nestedKind X.prog X.w).is s.heap k b := by
  obtain ⟨μ, p, h1, h2⟩ := h
  obtain ⟨h3, h4⟩ := nkT_of h1
  exact ⟨nk_is I p k _ _ h3 h2 rfl, h4⟩
noncomputable def NAt (w : World) (H : Hp) (a : Addr) (xs : List (NestedKey × Addr × Value)) : Prop := H a = some (nestD w a xs) ∨ ∃ od, H a = some (.frz od (nestD w a xs))
noncomputable def GGet (K : KW) (H : Hp) (a : Addr) (y : V) (o : Option V) : Prop :=
  (∃ xs k, H a = some (leafD K.w a xs) ∧ (a == sysModules) = false ∧ (xs.map (·.1)).Nodup ∧ (∀ u, RelV y u → Leaf.isOf k u = true) ∧ RelO o (valueAt xs k)) ∨
  (∃ xs k b, NAt K.w H a xs ∧ (a == sysModules) = false ∧ (xs.map (·.1)).Nodup ∧ (∀ x ∈ xs, NK K H x.1 x.2.1) ∧ y = .ref b ∧ NK K H k b ∧ RelO o ((atKey xs k).map (·.2)))
noncomputable def GPut (K : KW) (H : Hp) (a : Addr) (y v : V) (Q : Hp → Prop) : Prop :=
  (∃ xs k, H a = some (leafD K.w a xs) ∧ (a == sysModules) = false ∧ (xs.map (·.1)).Nodup ∧ xs.length ≤ sizeLine ∧ (∀ u, RelV y u → Leaf.isOf k u = true) ∧ ∀ r, RelV v r → Q (upd H a (leafD K.w a (stored xs k r)))) ∨
  (∃ xs k b, H a = some (nestD K.w a xs) ∧ (a == sysModules) = false ∧ (xs.map (·.1)).Nodup ∧ xs.length ≤ sizeLine ∧ (∀ x ∈ xs, NK K H x.1 x.2.1) ∧ y = .ref b ∧ NK K H k b ∧ ∀ r, RelV v r → Q (upd H a (nestD K.w a (storedH xs k b r))))
section
variable {X : Cx} {pins : List (Addr × Obj)} {σ : L2.St} {H : Hp} {s : Shared} {a : Addr} {A : Around} {E : Value → Shared → Prop} {y v : V} {o : Option V} {u r : Value}
theorem leaf_rd {xs : List (Leaf × Value)} (I : Inv X pins σ H s) (e : H a = some (leafD X.w a xs)) (nd : (xs.map (·.1)).Nodup) : s.heap.DictOf (leafKind X.prog X.w) a xs := by
  obtain ⟨⟨o, es, ep, h1, h2, h3, h4⟩, h5, h6⟩ := (show ObjOk X.prog X.w H s.heap a (leafD X.w a xs) from I.hok a _ e)
  refine ⟨o, es, ep, h1, h2, h3, ?_, ?_, nd⟩
  · intro z hz
    have hz' : z ∈ es.toList := by simpa using hz
    clear h3 nd e h6 h5
    generalize es.toList = l at h4 hz'
    induction h4 with
    | nil => cases hz'
    | @cons e x es' xs' q t ih =>
      rcases List.mem_cons.mp hz' with rfl | hz'
      · exact ⟨x.1, q.1, q.2.1⟩
      · exact ih hz'
  · clear h3 nd e h6 h5
    generalize es.toList = l at h4
    induction h4 with
    | nil => exact .nil
    | cons q t ih => exact .cons q.1 q.2.2 ih
theorem nest_rd {xs : List (NestedKey × Addr × Value)} (I : Inv X pins σ H s) (e : NAt X.w H a xs) (nd : (xs.map (·.1)).Nodup) (hk : ∀ x ∈ xs, NK X.K H x.1 x.2.1) : s.heap.DictOfH (nestedKind X.prog X.w) a xs := by
  have e' : ObjOk X.prog X.w H s.heap a (nestD X.w a xs) := by
    rcases e with e | ⟨od, e⟩
    · exact I.hok a _ e
    · exact (I.hok a _ e).2
  obtain ⟨⟨o, es, ep, h1, h2, h3, h4⟩, _, _⟩ := e'
  exact ⟨o, es, ep, h1, h2, h3, h4, fun x hx => (hk x hx).is I, nd⟩
theorem leafD_stay {w : World} {xs : List (Leaf × Value)} : ∀ h1 h2 : Heap, (∃ o es ep, h1.get? a = some o ∧ o.ExactDict ∧ o.data = .dict es ep ∧ Paired (entL w) es.toList xs) → (∀ o, h1.get? a = some o → h2.get? a = some o) → (∃ o es ep, h2.get? a = some o ∧ o.ExactDict ∧ o.data = .dict es ep ∧ Paired (entL w) es.toList xs) :=
  fun h1 h2 ⟨o, es, ep, q1, q2⟩ k => ⟨o, es, ep, k o q1, q2⟩
theorem nestD_stay {w : World} {xs : List (NestedKey × Addr × Value)} : ∀ h1 h2 : Heap, (∃ o es ep, h1.get? a = some o ∧ o.ExactDict ∧ o.data = .dict es ep ∧ es.toList = xs.map (entN w)) → (∀ o, h1.get? a = some o → h2.get? a = some o) → (∃ o es ep, h2.get? a = some o ∧ o.ExactDict ∧ o.data = .dict es ep ∧ es.toList = xs.map (entN w)) :=
  fun h1 h2 ⟨o, es, ep, q1, q2⟩ k => ⟨o, es, ep, k o q1, q2⟩
theorem leaf_ok {P : Program} {w : World} {H' : Hp} {h' : Heap} {xs : List (Leaf × Value)} (dd : h'.DictOf (leafKind P w) a xs) : ObjOk P w H' h' a (leafD w a xs) := by
  obtain ⟨o, es, ep, h1, h2, h3, h4, h5, nd⟩ := dd
  refine ⟨⟨o, es, ep, h1, h2, h3, ?_⟩, ⟨o, h1⟩, leafD_stay⟩
  have h4' : ∀ e ∈ es.toList, ∃ k, (leafKind P w).is k e.key = true ∧ e.hash = (leafKind P w).hash k := fun e he => h4 e (by simpa using he)
  clear h3 h4 nd
  generalize es.toList = l at h4' h5
  induction h5 with
  | nil => exact .nil
  | @cons e kv es' kvs' q1 q2 t ih =>
    refine .cons ⟨q1, ?_, q2⟩ (ih fun z hz => h4' z (List.mem_cons_of_mem _ hz))
    obtain ⟨k, e1, e2⟩ := h4' e List.mem_cons_self
    rw [e2, (leafKind P w).inj _ _ _ q1 e1]
    rfl
theorem nest_ok {P : Program} {w : World} {H' : Hp} {h' : Heap} {xs : List (NestedKey × Addr × Value)} (dd : h'.DictOfH (nestedKind P w) a xs) : ObjOk P w H' h' a (nestD w a xs) := by
  obtain ⟨o, es, ep, h1, h2, h3, h4, _, _⟩ := dd
  exact ⟨⟨o, es, ep, h1, h2, h3, h4⟩, ⟨o, h1⟩, nestD_stay⟩
theorem room1 (hu : A.units + 64 < cLine) : (nestedKind X.prog X.w).room A.in1 := by
  show A.units + 1 + 8 < cLine
  omega
theorem g_getItem {Q : Value → Shared → Prop} (hu : A.units + 64 < cLine) (I : Inv X pins σ H s) (g : GGet (kw X) H a y (some v)) (ry : RelV y u) (h : ∀ w' s', Inv X pins σ H s' → RelV v w' → Q w' s') :
    wpAny (model X.prog X.w) A (getItem (.ref a) u) Q E s := by
  rcases g with ⟨xs, k, e, hs, nd, hk, ro⟩ | ⟨xs, k, b, e, hs, nd, hks, rfl, hb, ro⟩
  · have dd := leaf_rd I e nd
    obtain ⟨w', hw, rw'⟩ := RelO.some_of (v := v) (o := valueAt xs k) ro
    exact wpAny_getItem_of (hk u ry) dd.mapOf hw (h w' _ (I.tok _) rw')
  · cases (show u = Value.ref b from ry)
    have dd := nest_rd I e nd hks
    obtain ⟨w', hw, rw'⟩ := RelO.some_of (v := v) (o := (atKey xs k).map (·.2)) ro
    obtain ⟨p, hp, hp2⟩ := Option.map_eq_some_iff.mp hw
    refine wpAny_getItem_heap (room1 hu) (hb.is I) dd hp ?_
    rw [hp2]
    exact h w' _ (I.tok _) rw'
theorem g_notIn {Q : Value → Shared → Prop} (hu : A.units + 64 < cLine) (I : Inv X pins σ H s) (g : GGet (kw X) H a y o) (ry : RelV y u) (h : ∀ s', Inv X pins σ H s' → Q (.bool (!o.isSome)) s') :
    wpAny (model X.prog X.w) A (compareOp .NotIn u (.ref a)) Q E s := by
  rcases g with ⟨xs, k, e, hs, nd, hk, ro⟩ | ⟨xs, k, b, e, hs, nd, hks, rfl, hb, ro⟩
  · refine wpAny_notIn_of (hk u ry) hs (leaf_rd I e nd).mapOf ?_
    rw [← ro.isSome_eq]
    exact h _ (I.tok _)
  · cases (show u = Value.ref b from ry)
    refine PyProof.Rows.wpAny_notIn_heap (room1 hu) (hb.is I) hs (nest_rd I e nd hks) ?_
    have q := ro.isSome_eq
    rw [Option.isSome_map] at q
    rw [← q]
    exact h _ (I.tok _)
theorem g_typeIs (I : Inv X pins σ H s) (g : GGet (kw X) H a y o) : s.TypeIs (.ref a) "dict" := by
  rcases g with ⟨xs, k, e, hs, nd, hk, ro⟩ | ⟨xs, k, b, e, hs, nd, hks, rfl, hb, ro⟩
  · exact (leaf_rd I e nd).typeIs
  · exact (nest_rd I e nd hks).typeIs
theorem g_setItem {Q : Unit → Shared → Prop} {QH : Hp → Prop} (hu : A.units + 64 < cLine) (I : Inv X pins σ H s) (g : GPut (kw X) H a y v QH) (ry : RelV y u) (rv : RelV v r) (h : ∀ H' s', Inv X pins σ H' s' → QH H' → Q () s') :
    wpAny (model X.prog X.w) A (setItem (.ref a) u r) Q E s := by
  rcases g with ⟨xs, k, e, hs, nd, hz, hk, q⟩ | ⟨xs, k, b, e, hs, nd, hz, hks, rfl, hb, q⟩
  · refine wpAny_setItem_pairs (hsz := hz) (hk u ry) (leaf_rd I e nd) fun h' dd' sb => h _ _ ?_ (q r rv)
    have he : ∃ q, h'.get? a = some q := let ⟨q, _, _, hq, _⟩ := dd'; ⟨q, hq⟩
    exact d_write I (by rw [e]; exact True.intro) sb he (leaf_ok dd')
  · cases (show u = Value.ref b from ry)
    refine wpAny_setItem_heap (hsz := hz) (room1 hu) (hb.is I) (nest_rd I (.inl e) nd hks) fun h' dd' sb => h _ _ ?_ (q r rv)
    have he : ∃ q, h'.get? a = some q := let ⟨q, _, _, hq, _⟩ := dd'; ⟨q, hq⟩
    exact d_write I (by rw [e]; exact True.intro) sb he (nest_ok dd')
end
section
variable {K : KW} {H : Hp} {μ : Mu} {a : Addr} {kvs : List (PV × PV)} {k p : PV} {y v : V}
theorem lf_V {l : Leaf} (h : lfOf k = some l) (r : VR K H μ k y) : ∀ u, RelV y u → Leaf.isOf l u = true := by
  intro u q
  cases k with
  | non => cases h; cases (show y = V.non from r); cases (show u = Value.none from q); rfl
  | int i =>
    cases h; cases (show y = V.int i from r)
    obtain ⟨t, rfl⟩ := (show ∃ t, u = Value.int i t from q)
    simp [Leaf.isOf]
  | str x =>
    cases h; cases (show y = V.str ⟨x.toArray⟩ from r)
    obtain ⟨t, rfl⟩ := (show ∃ t, u = Value.str ⟨x.toArray⟩ t from q)
    simp [Leaf.isOf, Value.isStrOf]
  | _ => cases h
theorem nk_ref {l : NestedKey} (h : nkT k = some l) (r : VR K H μ k y) : ∃ b, y = .ref b := by
  cases k with
  | tup xs => obtain ⟨b, vs, e, _⟩ := (show ∃ a vs, y = .ref a ∧ TupAt K H μ a vs ∧ VRs K H μ xs vs from r); exact ⟨b, e⟩
  | _ => cases h
theorem NRs.nk {xs : List (NestedKey × Addr × Value)} (r : NRs K H μ kvs xs) : ∀ x ∈ xs, NK K H x.1 x.2.1 := by
  unfold NRs at r
  induction r with
  | nil => intro x h; cases h
  | @cons p x ps xs h t ih =>
    intro z hz
    rcases List.mem_cons.mp hz with rfl | hz
    · exact ⟨μ, p.1, h.1, h.2.1⟩
    · exact ih z hz
theorem CR.getL (c : CR K H μ a (.dcl kvs)) {l : Leaf} (hk : lfOf k = some l) (rk : VR K H μ k y) :
    ∃ o, GGet K H a y o ∧ (∀ p, lookP kvs k = some p → ∃ v, o = some v ∧ VR K H μ p v) ∧ (lookP kvs k = none → o = none) := by
  obtain ⟨xs, e, hs, hz, r, nd⟩ := c
  obtain ⟨o, ro, h1, h2⟩ := r.look hk
  exact ⟨o, .inl ⟨xs, l, e, hs, nd, lf_V hk rk, ro⟩, h1, h2⟩
theorem CR.getN (c : CR K H μ a (.dcn kvs)) {l : NestedKey} (hk : nkT k = some l) (rk : VR K H μ k y) :
    ∃ o, GGet K H a y o ∧ (∀ p, lookP kvs k = some p → ∃ v, o = some v ∧ VR K H μ p v) ∧ (lookP kvs k = none → o = none) := by
  obtain ⟨xs, e, hs, hz, r, nd⟩ := c
  obtain ⟨o, ro, h1, h2⟩ := r.look hk
  obtain ⟨b, rfl⟩ := nk_ref hk rk
  exact ⟨o, .inr ⟨xs, l, b, .inl e, hs, nd, r.nk, rfl, ⟨μ, k, hk, rk⟩, ro⟩, h1, h2⟩
theorem KRs.look_key : ∀ {kvs : List (PV × PV)} {kv : List (Key × V)}, KRs K H μ kvs kv → (lookP kvs k).isSome = true → (keyOf k).isSome = true
  | [], _, _, h => by cases h
  | q :: r, kv, h, hs => by
    obtain ⟨k', v, t, _, hk, _, h2⟩ := h
    unfold lookP at hs
    by_cases e : q.1 = k
    · rw [← e, hk]; rfl
    · rw [if_neg e] at hs
      exact KRs.look_key h2 hs
theorem CR.getK (c : CR K H μ a (.lck kvs)) {l : NestedKey} (hk : nkT k = some l) (rk : VR K H μ k y) (hl : (lookP kvs k).isSome = true) :
    ∃ o, GGet K H a y o ∧ (∀ p, lookP kvs k = some p → ∃ v, o = some v ∧ VR K H μ p v) ∧ (lookP kvs k = none → o = none) := by
  obtain ⟨od, u, e, r⟩ := c
  rcases r with ⟨kv, e', r⟩ | ⟨xs, e', hs, hz, r, nd⟩
  · have := KRs.look_key r hl
    cases k with
    | tup xs => cases this
    | _ => cases hk
  · subst e'
    obtain ⟨o, ro, h1, h2⟩ := r.look hk
    obtain ⟨b, rfl⟩ := nk_ref hk rk
    exact ⟨o, .inr ⟨xs, l, b, .inr ⟨od, e⟩, hs, nd, r.nk, rfl, ⟨μ, k, hk, rk⟩, ro⟩, h1, h2⟩
theorem CR.putL {Q : Hp → Prop} {n : Nat} (c : CR K H μ a (.dcl kvs)) (ha : μ.l[n]? = some a) {l : Leaf} (hk : lfOf k = some l) (hz : kvs.length < sizeLine) (rk : VR K H μ k y) (rv : VR K H μ p v) (h : ∀ o, CR K (upd H a o) μ a (.dcl (putP kvs k p)) → Q (upd H a o)) : GPut K H a y v Q := by
  obtain ⟨xs, e, hs, hz', r, nd⟩ := c
  have hl : xs.length = kvs.length := (Paired.length r).symm
  have hz2 := putP_len kvs k p
  exact .inl ⟨xs, l, e, hs, nd, by omega, lf_V hk rk, fun rr q => h _ ⟨_, upd_same, hs, by omega, (r.put hk rv q).mono (gv_put ha), stored_nodup nd⟩⟩
theorem CR.putN {Q : Hp → Prop} {n : Nat} (c : CR K H μ a (.dcn kvs)) (ha : μ.l[n]? = some a) {l : NestedKey} (hk : nkT k = some l) (hz : kvs.length < sizeLine) (rk : VR K H μ k y) (rv : VR K H μ p v) (h : ∀ o, CR K (upd H a o) μ a (.dcn (putP kvs k p)) → Q (upd H a o)) : GPut K H a y v Q := by
  obtain ⟨xs, e, hs, hz', r, nd⟩ := c
  have hl : xs.length = kvs.length := (Paired.length r).symm
  have hz2 := putP_len kvs k p
  obtain ⟨b, rfl⟩ := nk_ref hk rk
  exact .inr ⟨xs, l, b, e, hs, nd, by omega, r.nk, rfl, ⟨μ, k, hk, rk⟩, fun rr q => h _ ⟨_, upd_same, hs, by omega, (r.put hk rk rv q).mono (gv_put ha), storedH_nodup nd⟩⟩
end
end MP

set_option maxRecDepth 100000
set_option maxHeartbeats 1000000
namespace MP
open PySem L2
mutual
theorem eqb_eqv : ∀ (x y : PV) (d e : PyData), toD x = some d → toD y = some e → PyData.eqv d e = eqb x y
  | .non, y, d, e, h1, h2 => by
    cases h1
    cases y <;> simp [toD] at h2 <;> (try (obtain ⟨z, _, rfl⟩ := h2)) <;> (try subst h2) <;> simp [PyData.eqv, eqb]
  | .bl a, y, d, e, h1, h2 => by
    cases h1
    cases y <;> simp [toD] at h2 <;> (try (obtain ⟨z, _, rfl⟩ := h2)) <;> (try subst h2) <;> simp [PyData.eqv, eqb]
  | .int a, y, d, e, h1, h2 => by
    cases h1
    cases y <;> simp [toD] at h2 <;> (try (obtain ⟨z, _, rfl⟩ := h2)) <;> (try subst h2) <;> simp [PyData.eqv, eqb]
  | .str a, y, d, e, h1, h2 => by
    cases h1
    cases y <;> simp [toD] at h2 <;> (try (obtain ⟨z, _, rfl⟩ := h2)) <;> (try subst h2) <;> simp [PyData.eqv, eqb]
    rw [Bool.eq_iff_iff]
    simp
  | .tup xs, y, d, e, h1, h2 => by
    simp [toD] at h1
    obtain ⟨ds, q, rfl⟩ := h1
    cases y <;> simp [toD] at h2 <;> (try (obtain ⟨z, qz, rfl⟩ := h2)) <;> (try subst h2) <;> simp [PyData.eqv, eqb]
    exact eqbs_eqv xs _ ds z q qz
  | .lst xs, y, d, e, h1, h2 => by
    simp [toD] at h1
    obtain ⟨ds, q, rfl⟩ := h1
    cases y <;> simp [toD] at h2 <;> (try (obtain ⟨z, qz, rfl⟩ := h2)) <;> (try subst h2) <;> simp [PyData.eqv, eqb]
    exact eqbs_eqv xs _ ds z q qz
  | .ty _, _, _, _, h1, _ => by cases h1
  | .gl _, _, _, _, h1, _ => by cases h1
  | .frz _, _, _, _, h1, _ => by cases h1
  | .loc _, _, _, _, h1, _ => by cases h1
theorem eqbs_eqv : ∀ (xs ys : List PV) (ds es : List PyData), toDs xs = some ds → toDs ys = some es → PyData.eqvAll ds es = eqbs xs ys
  | [], ys, ds, es, h1, h2 => by
    cases h1
    cases ys with
    | nil => cases h2; simp [PyData.eqvAll, eqbs]
    | cons y ys =>
      unfold toDs at h2
      cases q1 : toD y with
      | none => rw [q1] at h2; cases h2
      | some d =>
        cases q2 : toDs ys with
        | none => rw [q1, q2] at h2; cases h2
        | some r => rw [q1, q2] at h2; cases h2; simp [PyData.eqvAll, eqbs]
  | x :: xs, ys, ds, es, h1, h2 => by
    unfold toDs at h1
    cases p1 : toD x with
    | none => rw [p1] at h1; cases h1
    | some d =>
      cases p2 : toDs xs with
      | none => rw [p1, p2] at h1; cases h1
      | some r =>
        rw [p1, p2] at h1
        cases h1
        cases ys with
        | nil => cases h2; simp [PyData.eqvAll, eqbs]
        | cons y ys =>
          unfold toDs at h2
          cases q1 : toD y with
          | none => rw [q1] at h2; cases h2
          | some d' =>
            cases q2 : toDs ys with
            | none => rw [q1, q2] at h2; cases h2
            | some r' =>
              rw [q1, q2] at h2
              cases h2
              simp [PyData.eqvAll, eqbs, eqb_eqv x y d d' p1 q1, eqbs_eqv xs ys r r' p2 q2]
end
section
variable {K : PySem.W.Frag} {H : Hp} {μ : Mu}
mutual
theorem dp_of : ∀ (x : PV) (v : V) (d : PyData), VR K H μ x v → toD x = some d → Dp K H v d
  | .non, v, d, r, h => by cases h; cases (show v = .non from r); exact .non
  | .bl b, v, d, r, h => by cases h; cases (show v = .bl b from r); exact .bl b
  | .int b, v, d, r, h => by cases h; cases (show v = .int b from r); exact .int b
  | .str b, v, d, r, h => by cases h; cases (show v = .str ⟨b.toArray⟩ from r); exact .str _
  | .tup xs, v, d, r, h => by
    obtain ⟨a, vs, rfl, t, rs⟩ := tup_at r
    simp [toD] at h
    obtain ⟨ds, q, rfl⟩ := h
    exact .tup t.sq (dps_of xs vs ds rs q)
  | .lst xs, v, d, r, h => by
    obtain ⟨a, vs, rfl, t, rs⟩ := lst_at r
    simp [toD] at h
    obtain ⟨ds, q, rfl⟩ := h
    exact .lst t.sq (dps_of xs vs ds rs q)
  | .ty _, _, _, _, h => by cases h
  | .gl _, _, _, _, h => by cases h
  | .frz _, _, _, _, h => by cases h
  | .loc _, _, _, _, h => by cases h
theorem dps_of : ∀ (xs : List PV) (vs : List V) (ds : List PyData), VRs K H μ xs vs → toDs xs = some ds → DpAll K H vs ds
  | [], vs, ds, r, h => by cases h; cases (show vs = [] from r); exact .nil
  | x :: xs, vs, ds, r, h => by
    obtain ⟨v, t, rfl, r1, r2⟩ := (show ∃ v t, vs = v :: t ∧ VR K H μ x v ∧ VRs K H μ xs t from r)
    unfold toDs at h
    cases p1 : toD x with
    | none => rw [p1] at h; cases h
    | some d =>
      cases p2 : toDs xs with
      | none => rw [p1, p2] at h; cases h
      | some ds' =>
        rw [p1, p2] at h
        cases h
        exact .cons (dp_of x v d r1 p1) (dps_of xs t ds' r2 p2)
end
end
mutual
noncomputable def layP : PV → Bool
  | .non => true
  | .bl _ => true
  | .int _ => true
  | .str x => x.all fun c => decide (c < 1114112)
  | .tup xs => layPs xs
  | .lst xs => layPs xs
  | _ => false
noncomputable def layPs : List PV → Bool
  | [] => true
  | x :: xs => layP x && layPs xs
end
mutual
noncomputable def depP : PV → Nat
  | .tup xs => depPs xs + 1
  | .lst xs => depPs xs + 1
  | _ => 0
noncomputable def depPs : List PV → Nat
  | [] => 0
  | x :: xs => max (depP x) (depPs xs)
end
mutual
theorem lay_toD : ∀ (x : PV), layP x = true → ∃ d, toD x = some d ∧ d.canLay0 = true ∧ d.depth = depP x
  | .non, _ => ⟨_, rfl, by simp [PyData.canLay0], by simp [PyData.depth, depP]⟩
  | .bl b, _ => ⟨_, rfl, by simp [PyData.canLay0], by simp [PyData.depth, depP]⟩
  | .int b, _ => ⟨_, rfl, by simp [PyData.canLay0], by simp [PyData.depth, depP]⟩
  | .str x, h => ⟨_, rfl, by
      simp only [PyData.canLay0, PyData.strOk]
      simp [layP] at h
      simpa using h, by simp [PyData.depth, depP]⟩
  | .tup xs, h => by
    obtain ⟨ds, e, c, p⟩ := lays_toD xs (by simpa [layP] using h)
    exact ⟨.tuple ds, by simp [toD, e], by simpa [PyData.canLay0] using c, by simp [PyData.depth, depP, p]⟩
  | .lst xs, h => by
    obtain ⟨ds, e, c, p⟩ := lays_toD xs (by simpa [layP] using h)
    exact ⟨.list ds, by simp [toD, e], by simpa [PyData.canLay0] using c, by simp [PyData.depth, depP, p]⟩
  | .ty _, h => by simp [layP] at h
  | .gl _, h => by simp [layP] at h
  | .frz _, h => by simp [layP] at h
  | .loc _, h => by simp [layP] at h
theorem lays_toD : ∀ (xs : List PV), layPs xs = true → ∃ ds, toDs xs = some ds ∧ PyData.canLayAll0 ds = true ∧ PyData.depthAll ds = depPs xs
  | [], _ => ⟨[], rfl, by simp [PyData.canLayAll0], by simp [PyData.depthAll, depPs]⟩
  | x :: xs, h => by
    have h' : layP x = true ∧ layPs xs = true := by simpa [layPs] using h
    obtain ⟨d, e, c, p⟩ := lay_toD x h'.1
    obtain ⟨ds, e2, c2, p2⟩ := lays_toD xs h'.2
    exact ⟨d :: ds, by simp [toDs, e, e2], by simp [PyData.canLayAll0, c, c2], by simp [PyData.depthAll, depPs, p, p2]⟩
end
noncomputable def shal (x : PV) (st : Sto) : PV := match x with
  | .frz xs => .lst xs
  | .loc n => match st[n]? with
    | some (.lst xs) => .lst xs
    | _ => .loc n
  | _ => x
noncomputable def scalP : PV → PV → Bool
  | .non, .non => true | .non, .int _ => true | .int _, .non => true | .non, .bl _ => true | .bl _, .non => true | .non, .str _ => true | .str _, .non => true
  | .int _, .int _ => true | .bl _, .bl _ => true | .str _, .str _ => true
  | .int _, .str _ => true | .str _, .int _ => true | .bl _, .str _ => true | .str _, .bl _ => true
  | _, _ => false
noncomputable def cmpOk (x y : PV) (st : Sto) : Bool := scalP x y || (layP (shal x st) && layP (shal y st) && decide (depP (shal x st) ≤ 64) && decide (depP (shal y st) ≤ 64))
noncomputable def lenNe (x y : PV) (st : Sto) : Bool := match shal x st, shal y st with
  | .lst a, .lst b => decide (a.length ≠ b.length)
  | _, _ => false
noncomputable def eqM (x y : PV) : M PV := fun st => if cmpOk x y st = true then .ok (.bl (eqb (shal x st) (shal y st))) st else if lenNe x y st = true then .ok (.bl false) st else .bad
noncomputable def neM (x y : PV) : M PV := fun st => if cmpOk x y st = true then .ok (.bl (!eqb (shal x st) (shal y st))) st else if lenNe x y st = true then .ok (.bl true) st else .bad
theorem shal_lst {K : KW} {H : Hp} {μ : Mu} {st : Sto} {x : PV} {v : V} {xs : List PV} (sr : SR K μ st H) (r : VR K H μ x v) (h : shal x st = .lst xs) : ∃ a vs, v = .ref a ∧ SqL K H a vs ∧ VRs K H μ xs vs := by
  cases x with
  | lst ys =>
    cases h
    obtain ⟨a, vs, e, l, rs⟩ := lst_at r
    exact ⟨a, vs, e, l.sq, rs⟩
  | frz ys =>
    cases h
    obtain ⟨a, vs, e, l, rs⟩ := frz_at r
    exact ⟨a, vs, e, l.sq, rs⟩
  | loc n =>
    obtain ⟨a, e, ha⟩ := loc_at r
    unfold shal at h
    dsimp only at h
    cases q : st[n]? with
    | none => rw [q] at h; cases h
    | some c =>
      rw [q] at h
      cases c with
      | lst ys =>
        cases h
        obtain ⟨vs, h1, h2⟩ := sr.cell n _ a q ha
        exact ⟨a, vs, e, SqL.of h1, h2⟩
      | dct kvs => cases h
      | ins C fs => cases h
      | dcl kvs => cases h
      | dcn kvs => cases h
      | lck kvs => cases h
  | _ => cases h
theorem dp_shal {K : KW} {H : Hp} {μ : Mu} {st : Sto} {x : PV} {v : V} {d : PyData} (sr : SR K μ st H) (r : VR K H μ x v) (h : toD (shal x st) = some d) : Dp K H v d := by
  cases x with
  | frz xs =>
    obtain ⟨a, vs, rfl, t, rs⟩ := frz_at r
    have h' : toD (.lst xs) = some d := h
    simp [toD] at h'
    obtain ⟨ds, q, rfl⟩ := h'
    exact .lst t.sq (dps_of xs vs ds rs q)
  | loc n =>
    obtain ⟨a, rfl, ha⟩ := loc_at r
    unfold shal at h
    dsimp only at h
    cases q : st[n]? with
    | none => rw [q] at h; cases h
    | some c =>
      rw [q] at h
      cases c with
      | lst xs =>
        obtain ⟨vs, h1, h2⟩ := sr.cell n _ a q ha
        have h' : toD (.lst xs) = some d := h
        simp [toD] at h'
        obtain ⟨ds, q, rfl⟩ := h'
        exact .lst (SqL.of h1) (dps_of xs vs ds h2 q)
      | dct kvs => cases h
      | ins C fs => cases h
      | dcl kvs => cases h
      | dcn kvs => cases h
      | lck kvs => cases h
  | non => exact dp_of _ _ _ r h
  | bl b => exact dp_of _ _ _ r h
  | int b => exact dp_of _ _ _ r h
  | str b => exact dp_of _ _ _ r h
  | tup b => exact dp_of _ _ _ r h
  | lst b => exact dp_of _ _ _ r h
  | ty b => cases h
  | gl b => cases h
theorem scal_eq {K : PySem.W.Frag} {H : Hp} {μ : Mu} {st : Sto} {x y : PV} {u v : V} (rx : VR K H μ x u) (ry : VR K H μ y v) (h : scalP x y = true) : scal u v = true ∧ decide (u = v) = eqb (shal x st) (shal y st) := by
  cases x <;> cases y <;> simp [scalP] at h <;> cases rx <;> cases ry <;> simp [scal, eqb, shal] <;> (rw [Bool.eq_iff_iff]; simp)
noncomputable def rEqM0 (K : PySem.W.Frag) (n : Bool) : R2 := fun x y H Q => (scal x y = true ∧ Q (.bl (if n then !decide (x = y) else decide (x = y))) H) ∨ ∃ d e, Dp K H x d ∧ Dp K H y e ∧ (SeqAt.shaped d = true ∧ SeqAt.shaped e = true ∧ Q (.bl (if n then !PyData.eqv d e else PyData.eqv d e)) H)
noncomputable def rEqN (K : PySem.W.Frag) (n : Bool) : R2 := fun x y H Q => ∃ a b xs ys, x = .ref a ∧ y = .ref b ∧ SqL K H a xs ∧ SqL K H b ys ∧ xs.length ≠ ys.length ∧ Q (.bl n) H
noncomputable def rEqM (K : PySem.W.Frag) (n : Bool) : R2 := fun x y H Q => rEqM0 K n x y H Q ∨ rEqN K n x y H Q
theorem op_eqN {X : Cx} (hu : X.A.units + 64 < cLine) : OpR X (compareOp .Eq) (rEqN X.K false) := by
  intro pins s σ H x y v u Q I rx ry h
  obtain ⟨a, b, xs, ys, rfl, rfl, hx, hy, hne, q⟩ := h
  cases rx
  cases ry
  obtain ⟨its, r1, p1, _⟩ := I.list hx
  obtain ⟨its2, r2, p2, _⟩ := I.list hy
  exact SeqAt.RcAt.lists_lengths p1.isList p2.isList (by have e1 := r1.length; have e2 := r2.length; simp; omega) (by omega) X.prog X.w X.xe _ ⟨.bl false, H, I, rfl, q⟩
theorem op_neN {X : Cx} (hu : X.A.units + 64 < cLine) : OpR X (compareOp .NotEq) (rEqN X.K true) := by
  intro pins s σ H x y v u Q I rx ry h
  obtain ⟨a, b, xs, ys, rfl, rfl, hx, hy, hne, q⟩ := h
  cases rx
  cases ry
  obtain ⟨its, r1, p1, _⟩ := I.list hx
  obtain ⟨its2, r2, p2, _⟩ := I.list hy
  exact SeqAt.RcNeAt.lists_lengths p1.isList p2.isList (by have e1 := r1.length; have e2 := r2.length; simp; omega) (by omega) X.prog X.w X.xe _ ⟨.bl true, H, I, rfl, q⟩
theorem op_eqM {X : Cx} (hu : X.A.units + 64 < cLine) : OpR X (compareOp .Eq) (rEqM X.K false) := (op_eq.or (op_eqD hu)).or (op_eqN hu)
theorem op_neM {X : Cx} (hu : X.A.units + 64 < cLine) : OpR X (compareOp .NotEq) (rEqM X.K true) := (op_ne.or (op_neD hu)).or (op_neN hu)
theorem t_eqn {K : KW} {n : Bool} : T2 K (rEqM K n) (fun x y st => if cmpOk x y st = true then .ok (.bl (if n then !eqb (shal x st) (shal y st) else eqb (shal x st) (shal y st))) st else if lenNe x y st = true then .ok (.bl n) st else .bad) := by
  intro μ st H x y u v E Q sr rx ry h
  dsimp only at h
  by_cases hc : cmpOk x y st = true
  · rw [if_pos hc] at h
    have q := post_same (v := .bl (if n then !eqb (shal x st) (shal y st) else eqb (shal x st) (shal y st))) h sr rfl
    unfold cmpOk at hc
    rw [Bool.or_eq_true] at hc
    rcases hc with hc | hc
    · obtain ⟨h1, h2⟩ := scal_eq (st := st) rx ry hc
      exact .inl (.inl ⟨h1, by rw [h2]; exact q⟩)
    · simp only [Bool.and_eq_true, decide_eq_true_eq] at hc
      obtain ⟨⟨⟨l1, l2⟩, d1⟩, d2⟩ := hc
      obtain ⟨d, e1, c1, p1⟩ := lay_toD _ l1
      obtain ⟨e, e2, c2, p2⟩ := lay_toD _ l2
      refine .inl (.inr ⟨d, e, dp_shal sr rx e1, dp_shal sr ry e2, ?_, ?_, ?_⟩)
      · unfold SeqAt.shaped
        rw [c1, p1]
        simpa using d1
      · unfold SeqAt.shaped
        rw [c2, p2]
        simpa using d2
      · rw [eqb_eqv _ _ d e e1 e2]
        exact q
  · rw [if_neg hc] at h
    by_cases hl : lenNe x y st = true
    · rw [if_pos hl] at h
      unfold lenNe at hl
      split at hl
      · rename_i xs ys e1 e2
        obtain ⟨a, vs, rfl, l1, r1⟩ := shal_lst sr rx e1
        obtain ⟨b, ws, rfl, l2, r2⟩ := shal_lst sr ry e2
        refine .inr ⟨a, b, vs, ws, rfl, rfl, l1, l2, ?_, post_same h sr rfl⟩
        rw [← VRs.length r1, ← VRs.length r2]
        exact of_decide_eq_true hl
      · cases hl
    · rw [if_neg hl] at h
      exact h.elim
theorem t_eq {K : KW} : T2 K (rEqM K false) eqM := t_eqn (n := false)
theorem t_ne {K : KW} : T2 K (rEqM K true) neM := t_eqn (n := true)
noncomputable def nonP : PV → Bool
  | .non => true
  | _ => false
noncomputable def isN (x y : PV) : M PV := match y with
  | .non => M.ret (.bl (nonP x))
  | .bl b => match x with
    | .bl a => M.ret (.bl (decide (a = b)))
    | _ => M.fail
  | _ => M.fail
noncomputable def notN (x y : PV) : M PV := match y with
  | .non => M.ret (.bl (!nonP x))
  | .bl b => match x with
    | .bl a => M.ret (.bl (!decide (a = b)))
    | _ => M.fail
  | _ => M.fail
section
variable {K : PySem.W.Frag} {H : Hp} {μ : Mu}
theorem key_dec {p k : PV} {p' k' : Key} (h : keyOf p = some p') (hk : keyOf k = some k') : (p' = k') = (p = k) := by
  refine propext ⟨fun e => ?_, fun e => ?_⟩
  · rw [← e] at hk
    exact keyOf_inj h hk
  · rw [e, hk] at h
    exact (Option.some.inj h).symm
theorem KRs.look {k : PV} {k' : Key} (hk : keyOf k = some k') : ∀ {kvs : List (PV × PV)} {kv : List (Key × V)}, KRs K H μ kvs kv → (∀ p, lookP kvs k = some p → ∃ v, valV kv k' = some v ∧ VR K H μ p v) ∧ (lookP kvs k = none → valV kv k' = none)
  | [], kv, h => by
    have e : kv = [] := h
    subst e
    exact ⟨fun p q => (nomatch q), fun _ => rfl⟩
  | p :: r, kv, h => by
    obtain ⟨k1, v, t, rfl, e1, rv, rt⟩ := h
    unfold lookP
    by_cases e : p.1 = k
    · have e' : k1 = k' := by rw [key_dec e1 hk]; exact e
      rw [if_pos e, valV_pos (p := (k1, v)) e']
      exact ⟨fun q hq => by cases hq; exact ⟨v, rfl, rv⟩, fun hq => (nomatch hq)⟩
    · have e' : ¬ k1 = k' := by rw [key_dec e1 hk]; exact e
      rw [if_neg e, valV_neg (p := (k1, v)) e']
      exact KRs.look hk rt
theorem KRs.any {k : PV} {k' : Key} (hk : keyOf k = some k') : ∀ {kvs : List (PV × PV)} {kv : List (Key × V)}, KRs K H μ kvs kv → (kv.any fun x => decide (x.1 = k')) = (kvs.any fun x => decide (x.1 = k))
  | [], kv, h => by have e : kv = [] := h; subst e; rfl
  | p :: r, kv, h => by
    obtain ⟨k1, v, t, rfl, e1, rv, rt⟩ := h
    rw [List.any_cons, List.any_cons, KRs.any hk rt]
    simp only [key_dec e1 hk]
theorem KRs.length : ∀ {kvs : List (PV × PV)} {kv : List (Key × V)}, KRs K H μ kvs kv → kvs.length = kv.length
  | [], kv, h => by have e : kv = [] := h; subst e; rfl
  | p :: r, kv, h => by
    obtain ⟨k1, v, t, rfl, e1, rv, rt⟩ := h
    rw [List.length_cons, List.length_cons, KRs.length rt]
theorem KRs.mapPut {k p : PV} {k' : Key} {v : V} (hk : keyOf k = some k') (r : VR K H μ p v) : ∀ {kvs : List (PV × PV)} {kv : List (Key × V)}, KRs K H μ kvs kv →
    KRs K H μ (kvs.map fun x => if x.1 = k then (x.1, p) else x) (kv.map fun x => if x.1 = k' then (x.1, v) else x)
  | [], kv, h => by have e : kv = [] := h; subst e; exact rfl
  | q :: t, kv, h => by
    obtain ⟨k1, w, t', rfl, e1, rv, rt⟩ := h
    rw [List.map_cons, List.map_cons]
    simp only [key_dec e1 hk]
    by_cases e : q.1 = k
    · rw [if_pos e, if_pos e]
      exact ⟨k1, v, _, rfl, e1, r, KRs.mapPut hk r rt⟩
    · rw [if_neg e, if_neg e]
      exact ⟨k1, w, _, rfl, e1, rv, KRs.mapPut hk r rt⟩
theorem KRs.snoc {k p : PV} {k' : Key} {v : V} (hk : keyOf k = some k') (r : VR K H μ p v) : ∀ {kvs : List (PV × PV)} {kv : List (Key × V)}, KRs K H μ kvs kv → KRs K H μ (kvs ++ [(k, p)]) (kv ++ [(k', v)])
  | [], kv, h => by have e : kv = [] := h; subst e; exact ⟨k', v, [], rfl, hk, r, rfl⟩
  | q :: t, kv, h => by
    obtain ⟨k1, w, t', rfl, e1, rv, rt⟩ := h
    exact ⟨k1, w, _, rfl, e1, rv, KRs.snoc hk r rt⟩
theorem KRs.put {k p : PV} {k' : Key} {v : V} {kvs : List (PV × PV)} {kv : List (Key × V)} (h : KRs K H μ kvs kv) (hk : keyOf k = some k') (r : VR K H μ p v) : KRs K H μ (putP kvs k p) (putK kv k' v) := by
  unfold putP putK
  rw [KRs.any hk h]
  split
  · exact KRs.mapPut hk r h
  · exact KRs.snoc hk r h
theorem keyOf_kV {k : PV} {k' : Key} {v : V} (hk : keyOf k = some k') (r : VR K H μ k v) : v = kV k' := by
  cases k with
  | int i => cases hk; exact r
  | str x => cases hk; exact r
  | _ => cases hk
end
noncomputable def flatP : PV → Bool
  | .non => true
  | .bl _ => true
  | .int _ => true
  | .str _ => true
  | _ => false
noncomputable def ng (n b : Bool) : Bool := if n then !b else b
noncomputable def inM (n : Bool) (x y : PV) : M PV := fun st => match y with
  | .str z => match x with
    | .str [c] => .ok (.bl (ng n (decide (c ∈ z)))) st
    | _ => .bad
  | y => match seqOf y st with
    | some xs => if (flatP x && xs.all flatP) = true then .ok (.bl (ng n (xs.any fun p => eqb p x))) st else .bad
    | none => match y with
      | .loc m => match st[m]? with
        | some (.dct kvs) => if (keyOf x).isSome = true then .ok (.bl (ng n (lookP kvs x).isSome)) st else .bad
        | some (.dcl kvs) => if (lfOf x).isSome = true then .ok (.bl (ng n (lookP kvs x).isSome)) st else .bad
        | some (.dcn kvs) => if (nkT x).isSome = true then .ok (.bl (ng n (lookP kvs x).isSome)) st else .bad
        | _ => .bad
      | _ => .bad
theorem flat_eq {K : PySem.W.Frag} {H : Hp} {μ : Mu} {x y : PV} {u v : V} (rx : VR K H μ x u) (ry : VR K H μ y v) (fx : flatP x = true) (fy : flatP y = true) : flatV u = true ∧ flatV v = true ∧ L2.eqV u v = eqb x y := by
  cases x <;> simp [flatP] at fx <;> cases y <;> simp [flatP] at fy <;> cases rx <;> cases ry <;> simp [flatV, L2.eqV, eqb]
  rw [Bool.eq_iff_iff]
  simp
theorem flat_any {K : PySem.W.Frag} {H : Hp} {μ : Mu} {x : PV} {u : V} (rx : VR K H μ x u) (fx : flatP x = true) : ∀ {ps : List PV} {vs : List V}, VRs K H μ ps vs → ps.all flatP = true → vs.all flatV = true ∧ L2.inV u vs = ps.any fun p => eqb p x
  | [], vs, h, _ => by have e : vs = [] := h; subst e; exact ⟨rfl, rfl⟩
  | p :: ps, vs, h, hf => by
    obtain ⟨v, t, rfl, r1, r2⟩ := (show ∃ v t, vs = v :: t ∧ VR K H μ p v ∧ VRs K H μ ps t from h)
    rw [List.all_cons, Bool.and_eq_true] at hf
    obtain ⟨f1, f2, f3⟩ := flat_eq r1 rx hf.1 fx
    obtain ⟨g1, g2⟩ := flat_any rx fx r2 hf.2
    refine ⟨by rw [List.all_cons, f1, g1]; rfl, ?_⟩
    show (L2.eqV v u || L2.inV u t) = (eqb p x || ps.any fun q => eqb q x)
    rw [f3, g2]
noncomputable def rInM (K : KW) (n : Bool) : R2 := fun x y H Q => (∃ (c : Nat) (z : Str), x = .str ⟨#[c]⟩ ∧ y = .str z ∧ Q (.bl (ng n (decide (c ∈ z.cps.toList)))) H) ∨ rIn K n x y H Q ∨ (∃ a o, y = .ref a ∧ DGet H a x o ∧ Q (.bl (ng n o.isSome)) H) ∨ ∃ a o, y = .ref a ∧ GGet K H a x o ∧ Q (.bl (ng n o.isSome)) H
theorem op_notInD {X : Cx} (hu : X.A.units + 1 < cLine) : OpR X (compareOp .NotIn) (fun x y H Q => ∃ a o, y = .ref a ∧ DGet H a x o ∧ Q (.bl (ng true o.isSome)) H) := by
  intro pins s σ H x y v u Q I rx ry h
  obtain ⟨a, o, rfl, g, q⟩ := h
  cases (show u = Value.ref a from ry)
  exact d_notIn hu I g rx fun s3 I3 => ⟨.bl (!o.isSome), H, I3, rfl, q⟩
theorem op_notInG {X : Cx} (hu : X.A.units + 64 < cLine) : OpR X (compareOp .NotIn) (fun x y H Q => ∃ a o, y = .ref a ∧ GGet (kw X) H a x o ∧ Q (.bl (ng true o.isSome)) H) := by
  intro pins s σ H x y v u Q I rx ry h
  obtain ⟨a, o, rfl, g, q⟩ := h
  cases (show u = Value.ref a from ry)
  exact g_notIn hu I g rx fun s3 I3 => ⟨.bl (!o.isSome), H, I3, rfl, q⟩
theorem op_notInM {X : Cx} (hu : X.A.units + 64 < cLine) : OpR X (compareOp .NotIn) (rInM (kw X) true) := op_notIn_sign.or (op_notIn_seq.or ((op_notInD (by omega)).or (op_notInG hu)))
theorem t_in {K : KW} {n : Bool} : T2 K (rInM K n) (inM n) := by
  intro μ st H x y u v E Q sr rx ry h
  have seqC : ∀ xs, seqOf y st = some xs → PostG K E (VR K) Q μ H (if (flatP x && xs.all flatP) = true then .ok (.bl (ng n (xs.any fun p => eqb p x))) st else .bad) → rInM K n u v H Q := by
    intro xs hs h
    by_cases hf : (flatP x && xs.all flatP) = true
    · rw [if_pos hf] at h
      rw [Bool.and_eq_true] at hf
      obtain ⟨a, vs, rfl, hq, rs⟩ := seqOf_at sr ry hs
      obtain ⟨g1, g2⟩ := flat_any rx hf.1 rs hf.2
      obtain ⟨f1, _, _⟩ := flat_eq rx rx hf.1 hf.1
      refine .inr (.inl ⟨a, vs, rfl, hq, f1, g1, ?_⟩)
      rw [g2]
      exact post_same h sr rfl
    · rw [if_neg hf] at h
      exact h.elim
  cases y with
  | str z =>
    cases (show v = V.str ⟨z.toArray⟩ from ry)
    cases x with
    | str c =>
      cases c with
      | nil => exact h.elim
      | cons c r =>
        cases r with
        | nil =>
          cases (show u = V.str ⟨[c].toArray⟩ from rx)
          refine .inl ⟨c, ⟨z.toArray⟩, rfl, rfl, ?_⟩
          have q := post_same (v := V.bl (ng n (decide (c ∈ z)))) h sr rfl
          simpa using q
        | cons c' r => exact h.elim
    | _ => exact h.elim
  | lst xs => exact seqC xs rfl h
  | frz xs => exact seqC xs rfl h
  | tup xs => exact seqC xs rfl h
  | loc m =>
    unfold inM at h
    dsimp only at h
    cases hs : seqOf (.loc m) st with
    | some xs => rw [hs] at h; exact seqC xs hs h
    | none =>
      rw [hs] at h
      dsimp only at h
      cases q : st[m]? with
      | none => rw [q] at h; exact h.elim
      | some c =>
        rw [q] at h
        cases c with
        | dct kvs =>
          dsimp only at h
          by_cases hk : (keyOf x).isSome = true
          · rw [if_pos hk] at h
            obtain ⟨k', ek⟩ := Option.isSome_iff_exists.mp hk
            obtain ⟨a, rfl, ha⟩ := loc_at ry
            obtain ⟨kv, h1, h2⟩ := sr.cell m _ a q ha
            refine .inr (.inr (.inl ⟨a, valV kv k', rfl, ?_, ?_⟩))
            · rw [keyOf_kV ek rx]
              exact DGet.k h1
            · obtain ⟨l1, l2⟩ := KRs.look ek h2
              have e : (valV kv k').isSome = (lookP kvs x).isSome := by
                cases hl : lookP kvs x with
                | none => rw [l2 hl]; rfl
                | some p => obtain ⟨w, ew, _⟩ := l1 p hl; rw [ew]; rfl
              rw [e]
              exact post_same h sr rfl
          · rw [if_neg hk] at h
            exact h.elim
        | lst xs => exact h.elim
        | ins C fs => exact h.elim
        | dcl kvs =>
          dsimp only at h
          by_cases hk : (lfOf x).isSome = true
          · rw [if_pos hk] at h
            obtain ⟨k', ek⟩ := Option.isSome_iff_exists.mp hk
            obtain ⟨a, rfl, ha⟩ := loc_at ry
            obtain ⟨o, g, l1, l2⟩ := (sr.cell m _ a q ha).getL ek rx
            refine .inr (.inr (.inr ⟨a, o, rfl, g, ?_⟩))
            have e : o.isSome = (lookP kvs x).isSome := by
              cases hl : lookP kvs x with
              | none => rw [l2 hl]; rfl
              | some p => obtain ⟨w, ew, _⟩ := l1 p hl; rw [ew]; rfl
            rw [e]
            exact post_same h sr rfl
          · rw [if_neg hk] at h
            exact h.elim
        | dcn kvs =>
          dsimp only at h
          by_cases hk : (nkT x).isSome = true
          · rw [if_pos hk] at h
            obtain ⟨k', ek⟩ := Option.isSome_iff_exists.mp hk
            obtain ⟨a, rfl, ha⟩ := loc_at ry
            obtain ⟨o, g, l1, l2⟩ := (sr.cell m _ a q ha).getN ek rx
            refine .inr (.inr (.inr ⟨a, o, rfl, g, ?_⟩))
            have e : o.isSome = (lookP kvs x).isSome := by
              cases hl : lookP kvs x with
              | none => rw [l2 hl]; rfl
              | some p => obtain ⟨w, ew, _⟩ := l1 p hl; rw [ew]; rfl
            rw [e]
            exact post_same h sr rfl
          · rw [if_neg hk] at h
            exact h.elim
        | lck kvs => exact h.elim
  | _ => exact h.elim
section
variable {X : Cx} {W : WX} {a b : Expr} {pos : Pos} {ma mb : Rho → M PV}
theorem mt_lt (ha : ME X W a ma) (hb : ME X W b mb) : MT X W (.Compare a [.Lt] [b] pos) (eB (eBin ltI ma mb)) := mt_cmp op_lt (t_cmpI _) ha hb (nomark _)
theorem mt_gt (ha : ME X W a ma) (hb : ME X W b mb) : MT X W (.Compare a [.Gt] [b] pos) (eB (eBin gtI ma mb)) := mt_cmp op_gt (t_cmpI _) ha hb (nomark _)
theorem mt_eq (hu : X.A.units + 64 < cLine) (ha : ME X W a ma) (hb : ME X W b mb) : MT X W (.Compare a [.Eq] [b] pos) (eB (eBin eqM ma mb)) := mt_cmp (op_eqM hu) t_eq ha hb (nomark _)
theorem mt_ne (hu : X.A.units + 64 < cLine) (ha : ME X W a ma) (hb : ME X W b mb) : MT X W (.Compare a [.NotEq] [b] pos) (eB (eBin neM ma mb)) := mt_cmp (op_neM hu) t_ne ha hb (nomark _)
theorem mt_notin (hu : X.A.units + 64 < cLine) (ha : ME X W a ma) (hb : ME X W b mb) (hm : behindInMarks .NotIn b = false) : MT X W (.Compare a [.NotIn] [b] pos) (eB (eBin (inM true) ma mb)) := mt_cmp (op_notInM hu) t_in ha hb hm
end
end MP

set_option maxRecDepth 100000
set_option maxHeartbeats 1000000
namespace MP
open PySem L2
noncomputable def optM {α : Type} : Option α → M α
  | some a => M.ret a
  | none => M.fail
noncomputable def dctOf (x : PV) (st : Sto) : Option (List (PV × PV)) := match x with
  | .loc n => match st[n]? with
    | some (.dct kvs) => some kvs
    | _ => none
  | _ => none
theorem dctOf_at {K : KW} {H : Hp} {μ : Mu} {st : Sto} {x : PV} {v : V} {kvs : List (PV × PV)} (sr : SR K μ st H) (r : VR K H μ x v) (h : dctOf x st = some kvs) :
    ∃ n a kv, x = .loc n ∧ v = .ref a ∧ μ.l[n]? = some a ∧ st[n]? = some (.dct kvs) ∧ H a = some (.dK kv) ∧ KRs K H μ kvs kv := by
  cases x with
  | loc n =>
    obtain ⟨a, rfl, ha⟩ := loc_at r
    unfold dctOf at h
    dsimp only at h
    cases q : st[n]? with
    | none => rw [q] at h; cases h
    | some c =>
      rw [q] at h
      cases c with
      | dct k =>
        cases h
        obtain ⟨kv, h1, h2⟩ := sr.cell n _ a q ha
        exact ⟨n, a, kv, rfl, rfl, ha, q, h1, h2⟩
      | lst xs => cases h
      | ins C fs => cases h
      | dcl kvs => cases h
      | dcn kvs => cases h
      | lck kvs => cases h
  | _ => cases h
noncomputable def gdOf (x : PV) (y : PV) (st : Sto) : Option (List (PV × PV)) := match x with
  | .loc n => match st[n]? with
    | some (.dcl kvs) => if (lfOf y).isSome = true then some kvs else none
    | some (.dcn kvs) => if (nkT y).isSome = true then some kvs else none
    | some (.lck kvs) => if (nkT y).isSome = true ∧ (lookP kvs y).isSome = true then some kvs else none
    | _ => none
  | _ => none
theorem gdOf_at {K : KW} {H : Hp} {μ : Mu} {st : Sto} {x y : PV} {v u : V} {kvs : List (PV × PV)} (sr : SR K μ st H) (r : VR K H μ x v) (ry : VR K H μ y u) (h : gdOf x y st = some kvs) :
    ∃ a o, v = .ref a ∧ GGet K H a u o ∧ (∀ p, lookP kvs y = some p → ∃ v, o = some v ∧ VR K H μ p v) ∧ (lookP kvs y = none → o = none) := by
  cases x with
  | loc n =>
    obtain ⟨a, rfl, ha⟩ := loc_at r
    unfold gdOf at h
    dsimp only at h
    cases q : st[n]? with
    | none => rw [q] at h; cases h
    | some c =>
      rw [q] at h
      cases c with
      | dct k => cases h
      | lst xs => cases h
      | ins C fs => cases h
      | lck k =>
        dsimp only at h
        by_cases hk : (nkT y).isSome = true ∧ (lookP k y).isSome = true
        · rw [if_pos hk] at h
          cases h
          obtain ⟨k', ek⟩ := Option.isSome_iff_exists.mp hk.1
          obtain ⟨o, g⟩ := (sr.cell n _ a q ha).getK ek ry hk.2
          exact ⟨a, o, rfl, g⟩
        · rw [if_neg hk] at h; cases h
      | dcl k =>
        dsimp only at h
        by_cases hk : (lfOf y).isSome = true
        · rw [if_pos hk] at h
          cases h
          obtain ⟨k', ek⟩ := Option.isSome_iff_exists.mp hk
          obtain ⟨o, g⟩ := (sr.cell n _ a q ha).getL ek ry
          exact ⟨a, o, rfl, g⟩
        · rw [if_neg hk] at h; cases h
      | dcn k =>
        dsimp only at h
        by_cases hk : (nkT y).isSome = true
        · rw [if_pos hk] at h
          cases h
          obtain ⟨k', ek⟩ := Option.isSome_iff_exists.mp hk
          obtain ⟨o, g⟩ := (sr.cell n _ a q ha).getN ek ry
          exact ⟨a, o, rfl, g⟩
        · rw [if_neg hk] at h; cases h
  | _ => cases h
noncomputable def ixM (x y : PV) : M PV := fun st => match seqOf x st with
  | some xs => match y with
    | .int i => optM (L2.atI xs i) st
    | _ => .bad
  | none => match x with
    | .str z => match y with
      | .int i => if z.length ≤ SZ then (match L2.atI z i with | some c => .ok (.str [c]) st | none => .bad) else .bad
      | _ => .bad
    | x => match dctOf x st with
      | some kvs => if (keyOf y).isSome = true then optM (lookP kvs y) st else .bad
      | none => match gdOf x y st with
        | some kvs => optM (lookP kvs y) st
        | none => .bad
noncomputable def rIxM (K : KW) : R2 := fun x y H Q => (rIxL K x y H Q ∨ rIxT K x y H Q ∨ rIxS x y H Q) ∨ (∃ a v, x = .ref a ∧ DGet H a y (some v) ∧ Q v H) ∨ ∃ a v, x = .ref a ∧ GGet K H a y (some v) ∧ Q v H
theorem ix_dictG {X : Cx} (hu : X.A.units + 64 < cLine) : IxR X (fun x y H Q => ∃ a v, x = .ref a ∧ GGet (kw X) H a y (some v) ∧ Q v H) := by
  intro value slice pins s σ H x y v u Q I rx ry h hs
  obtain ⟨a, w, rfl, g, q⟩ := h
  cases (show v = Value.ref a from rx)
  exact PyProof.Rows.tail_any (g_typeIs I g) PySem.F.slot_dict_getitem.lookup (g_getItem hu I g ry fun w' s3 I3 rw' => ⟨w, H, I3, rw', q⟩) hs
theorem ix_dict {X : Cx} (hu : X.A.units + 1 < cLine) : IxR X (fun x y H Q => ∃ a v, x = .ref a ∧ DGet H a y (some v) ∧ Q v H) := by
  intro value slice pins s σ H x y v u Q I rx ry h hs
  obtain ⟨a, w, rfl, g, q⟩ := h
  cases (show v = Value.ref a from rx)
  exact PyProof.Rows.tail_any (dict_typeIs I g) PySem.F.slot_dict_getitem.lookup (d_getItem hu I g ry fun w' s3 I3 rw' => ⟨w, H, I3, rw', q⟩) hs
theorem ix_M {X : Cx} (hu : X.A.units + 64 < cLine) : IxR X (rIxM (kw X)) := ix_seq.or ((ix_dict (by omega)).or (ix_dictG hu))
theorem t_ix {K : KW} : T2 K (rIxM K) ixM := by
  intro μ st H x y u v E Q sr rx ry h
  unfold ixM at h
  cases hs : seqOf x st with
  | some xs =>
    rw [hs] at h
    cases y with
    | int i =>
      cases (show v = V.int i from ry)
      dsimp only at h
      obtain ⟨a, vs, rfl, hq, rs⟩ := seqOf_at sr rx hs
      cases q : L2.atI xs i with
      | none => rw [q] at h; exact h.elim
      | some p =>
        rw [q] at h
        obtain ⟨w, e, rw'⟩ := VRs.atI rs q
        have z := post_same h sr rw'
        rcases hq with hq | hq
        · exact .inl (.inl ⟨a, vs, i, w, rfl, rfl, hq, e, z⟩)
        · exact .inl (.inr (.inl ⟨a, vs, i, w, rfl, rfl, hq, e, z⟩))
    | _ => exact h.elim
  | none =>
    rw [hs] at h
    dsimp only at h
    have dcase : PostG K E (VR K) Q μ H (match dctOf x st with
      | some kvs => if (keyOf y).isSome = true then optM (lookP kvs y) st else .bad
      | none => match gdOf x y st with
        | some kvs => optM (lookP kvs y) st
        | none => .bad) → rIxM K u v H Q := by
      intro h
      cases hd : dctOf x st with
      | none =>
        rw [hd] at h
        dsimp only at h
        cases hg : gdOf x y st with
        | none => rw [hg] at h; exact h.elim
        | some kvs =>
          rw [hg] at h
          dsimp only at h
          obtain ⟨a, o, rfl, g, l1, l2⟩ := gdOf_at sr rx ry hg
          cases q : lookP kvs y with
          | none => rw [q] at h; exact h.elim
          | some p =>
            rw [q] at h
            obtain ⟨w, rfl, rw'⟩ := l1 p q
            exact .inr (.inr ⟨a, w, rfl, g, post_same h sr rw'⟩)
      | some kvs =>
        rw [hd] at h
        dsimp only at h
        by_cases hk : (keyOf y).isSome = true
        · rw [if_pos hk] at h
          obtain ⟨k', ek⟩ := Option.isSome_iff_exists.mp hk
          obtain ⟨n, a, kv, ex, rfl, ha, hc, h1, h2⟩ := dctOf_at sr rx hd
          cases q : lookP kvs y with
          | none => rw [q] at h; exact h.elim
          | some p =>
            rw [q] at h
            obtain ⟨w, e, rw'⟩ := (KRs.look ek h2).1 p q
            refine .inr (.inl ⟨a, w, rfl, ?_, post_same h sr rw'⟩)
            rw [keyOf_kV ek ry, ← e]
            exact DGet.k h1
        · rw [if_neg hk] at h
          exact h.elim
    cases x with
    | str z =>
      cases (show u = V.str ⟨z.toArray⟩ from rx)
      cases y with
      | int i =>
        cases (show v = V.int i from ry)
        dsimp only at h
        by_cases hz : z.length ≤ SZ
        · rw [if_pos hz] at h
          cases q : L2.atI z i with
          | none => rw [q] at h; exact h.elim
          | some c =>
            rw [q] at h
            refine .inl (.inr (.inr ⟨⟨z.toArray⟩, i, c, rfl, rfl, by rw [str_len, sz_eq]; exact hz, ?_, post_same h sr rfl⟩))
            simpa using q
        · rw [if_neg hz] at h
          exact h.elim
      | _ => exact h.elim
    | _ => exact dcase h
section
variable {X : Cx} {W : WX} {a b : Expr} {pos : Pos} {ma mb : Rho → M PV}
theorem me_sub_ix (hu : X.A.units + 64 < cLine) (ha : ME X W a ma) (hb : ME X W b mb) (hs : PlainIx b) : ME X W (.Subscript a b pos) (eBin ixM ma mb) := me_ix (ix_M hu) t_ix ha hb hs
end
noncomputable def cutL {α : Type} (xs : List α) (lo hi : Option Int) : List α := (xs.drop (HT.sIx xs.length 0 lo)).take (HT.sIx xs.length xs.length hi - HT.sIx xs.length 0 lo)
theorem VRs.cut {K : PySem.W.Frag} {H : Hp} {μ : Mu} {ps : List PV} {vs : List V} (r : VRs K H μ ps vs) (lo hi : Option Int) : VRs K H μ (cutL ps lo hi) (cutV vs lo hi) := by
  unfold cutL cutV
  rw [VRs.length r]
  exact VRs.take _ (VRs.drop _ r)
noncomputable def slM (x : PV) (lo hi : Option Int) : M PV := match x with
  | .str z => if z.length ≤ SZ then M.ret (.str (cutL z lo hi)) else M.fail
  | .tup xs => M.ret (.tup (cutL xs lo hi))
  | x => fun st => match seqOf x st with
    | some xs => .ok (.lst (cutL xs lo hi)) st
    | none => .bad
noncomputable def oNone : Rho → M (Option Int) := fun _ => M.ret none
noncomputable def asI : PV → M Int
  | .int i => M.ret i
  | _ => M.fail
noncomputable def oSome (m : Rho → M PV) : Rho → M (Option Int) := fun ρ => M.bind (m ρ) fun x => M.bind (asI x) fun i => M.ret (some i)
noncomputable def tMO (K : KW) (W : WX) (m : Rho → M (Option Int)) : TO := fun σ H Q => ∃ μ st ρ, ER K H μ ρ σ ∧ SR K μ st H ∧ PostG K (fun c d H' => W c d σ H') (fun _ _ (a : Option Int) b => a = b) Q μ H (m ρ st)
noncomputable def MO (X : Cx) (W : WX) (e : Option Expr) (m : Rho → M (Option Int)) : Prop := PO X e (tMO (kw X) W m)
theorem PO.imp {X : Cx} {e : Option Expr} {t t' : TO} (h : PO X e t) (i : ∀ σ H Q, t' σ H Q → t σ H Q) : PO X e t' := ⟨fun pins s σ H Q I q => h.run pins s σ H Q I (i σ H Q q)⟩
noncomputable def eSl (f : PV → Option Int → Option Int → M PV) (me : Rho → M PV) (ml mh : Rho → M (Option Int)) : Rho → M PV := fun ρ => M.bind (me ρ) fun x => M.bind (ml ρ) fun l => M.bind (mh ρ) fun h => f x l h
noncomputable def rSlM (K : PySem.W.Frag) : V → Option Int → Option Int → Hp → VK → Prop := fun x lo hi H Q => rSlS x lo hi H Q ∨ rSlA K x lo hi H Q ∨ rSlL K x lo hi H Q
section
variable {X : Cx} {W : WX} {e : Expr} {lo hi : Option Expr} {pos p2 : Pos} {me : Rho → M PV} {ml mh : Rho → M (Option Int)}
theorem mo_none : MO X W none oNone := PO.imp po_none fun σ H Q ⟨μ, st, ρ, er, sr, h⟩ => h μ H none (Gr.refl _ _) sr rfl
theorem mo_some (he : ME X W e me) : MO X W (some e) (oSome me) := PO.imp (po_some he) fun σ H Q ⟨μ, st, ρ, er, sr, h⟩ => ⟨μ, st, ρ, er, sr, (PostG.bind h).mono fun u H1 ⟨μ1, st1, x, g1, s1, rx, h1⟩ => by
  cases x with
  | int i => exact ⟨i, rx, h1 μ1 H1 _ (Gr.refl _ _) s1 rfl⟩
  | _ => exact h1.elim⟩
noncomputable def TSl (K : KW) (r : V → Option Int → Option Int → Hp → VK → Prop) (f : PV → Option Int → Option Int → M PV) : Prop :=
  ∀ (μ : Mu) (st : Sto) (H : Hp) (x : PV) (lo hi : Option Int) (u : V) (E : XK) (Q : VK), SR K μ st H → VR K H μ x u → PostG K E (VR K) Q μ H (f x lo hi st) → r u lo hi H Q
theorem me_slG {f : PV → Option Int → Option Int → M PV} (t : TSl (kw X) (rSlM X.K) f) (he : ME X W e me) (hl : MO X W lo ml) (hh : MO X W hi mh) : ME X W (.Subscript e (.Slice lo hi none p2) pos) (eSl f me ml mh) :=
  PE.imp (pe_slice (sl_str.or (sl_tupA.or sl_list)) he hl hh) fun σ H Q ⟨μ, st, ρ, er, sr, h⟩ => ⟨μ, st, ρ, er, sr, (PostG.bind h).mono fun u H1 ⟨μ1, st1, x, g1, s1, rx, h1⟩ =>
    ⟨μ1, st1, ρ, er.mono g1, s1, (PostG.bind h1).mono fun l H2 ⟨μ2, st2, l', g2, s2, el, h2⟩ => ⟨μ2, st2, ρ, (er.mono g1).mono g2, s2, (PostG.bind h2).mono fun k H3 ⟨μ3, st3, k', g3, s3, ek, h3⟩ => by
      subst el ek
      exact t μ3 st3 H3 x l' k' u _ Q s3 (VR.mono g3 x u (VR.mono g2 x u rx)) h3⟩⟩⟩
theorem sl_lists {K : KW} {μ : Mu} {st : Sto} {H : Hp} {x : PV} {lo hi : Option Int} {u : V} {E : XK} {Q : VK} (sr : SR K μ st H) (rx : VR K H μ x u) (nt : ∀ xs, x ≠ .tup xs)
    (h : PostG K E (VR K) Q μ H (match seqOf x st with
    | some xs => .ok (.lst (cutL xs lo hi)) st
    | none => .bad)) : rSlM K u lo hi H Q := by
  cases q : seqOf x st with
  | none => rw [q] at h; exact h.elim
  | some xs =>
    rw [q] at h
    obtain ⟨a, vs, rfl, hq, rs⟩ : ∃ a vs, u = .ref a ∧ SqL K H a vs ∧ VRs K H μ xs vs := by
      cases x with
      | lst xs => cases q; obtain ⟨a, vs, e, l, rs⟩ := lst_at rx; exact ⟨a, vs, e, l.sq, rs⟩
      | frz xs => cases q; obtain ⟨a, vs, e, l, rs⟩ := frz_at rx; exact ⟨a, vs, e, l.sq, rs⟩
      | loc n => obtain ⟨a, vs, e, l, rs⟩ := listOf_at sr rx (show listOf (.loc n) st = some xs from q); exact ⟨a, vs, e, SqL.of l, rs⟩
      | tup xs => exact absurd rfl (nt xs)
      | _ => cases q
    exact .inr (.inr ⟨a, vs, rfl, hq, fun p hp => post_lst sr (VRs.cut rs lo hi) hp h⟩)
theorem t_sl {K : KW} : TSl K (rSlM K) slM := by
  intro μ st H x lo hi u E Q sr rx h
  cases x with
  | str z =>
    cases (show u = V.str ⟨z.toArray⟩ from rx)
    unfold slM at h
    dsimp only at h
    by_cases hz : z.length ≤ SZ
    · rw [if_pos hz] at h
      refine .inl ⟨⟨z.toArray⟩, rfl, by rw [str_len, sz_eq]; exact hz, ?_⟩
      have e : cutS ⟨z.toArray⟩ lo hi = ⟨(cutL z lo hi).toArray⟩ := by
        unfold cutS cutL
        rw [str_len]
      rw [e]
      exact post_same h sr rfl
    · rw [if_neg hz] at h
      exact h.elim
  | tup xs =>
    obtain ⟨a, vs, rfl, t, rs⟩ := tup_at rx
    refine .inr (.inl ⟨a, vs, rfl, t.sq, fun hw => ?_, fun _ p hp => post_tup sr (VRs.cut rs lo hi) hp h⟩)
    have h' : PostG K E (VR K) Q μ H (.ok (.tup (cutL xs lo hi)) st) := h
    have e : cutL xs lo hi = xs := by
      unfold cutL
      rw [VRs.length rs, hw.1, hw.2, List.drop_zero, Nat.sub_zero, ← VRs.length rs]
      simp
    rw [e] at h'
    exact post_same h' sr rx
  | lst xs => exact sl_lists sr rx (fun _ z => nomatch z) h
  | frz xs => exact sl_lists sr rx (fun _ z => nomatch z) h
  | loc n => exact sl_lists sr rx (fun _ z => nomatch z) h
  | _ => exact h.elim
theorem me_slice (he : ME X W e me) (hl : MO X W lo ml) (hh : MO X W hi mh) : ME X W (.Subscript e (.Slice lo hi none p2) pos) (eSl slM me ml mh) := me_slG t_sl he hl hh
end
section
variable {X : Cx} {W : WX} {es : List Expr} {pos : Pos} {ma : Rho → M (List PV)}
noncomputable def mkTup (xs : List PV) : M PV := if xs.length ≤ SZ then M.ret (.tup xs) else M.fail
noncomputable def mkLst (xs : List PV) : M PV := if xs.length ≤ SZ then M.ret (.lst xs) else M.fail
noncomputable def mkLstN (xs : List PV) : M PV := fun st => if xs.length ≤ SZ then .ok (.loc st.length) (st ++ [.lst xs]) else .bad
theorem me_tup {k : Nat} (h : MA X W es ma) : ME X W (.Tuple es k pos) (eCall mkTup ma) :=
  PE.imp (pe_tup h) fun σ H Q ⟨μ, st, ρ, er, sr, h⟩ => ⟨μ, st, ρ, er, sr, (PostG.bind h).mono fun us H1 ⟨μ1, st1, xs, g1, s1, rxs, h1⟩ => by
    unfold mkTup at h1
    by_cases hz : xs.length ≤ SZ
    · rw [if_pos hz] at h1
      exact ⟨by rw [← VRs.length rxs, sz_eq]; exact hz, fun p hp => post_tup s1 rxs hp h1⟩
    · rw [if_neg hz] at h1
      exact h1.elim⟩
theorem me_lst (h : MA X W es ma) : ME X W (.List es pos) (eCall mkLst ma) :=
  PE.imp (pe_lst h) fun σ H Q ⟨μ, st, ρ, er, sr, h⟩ => ⟨μ, st, ρ, er, sr, (PostG.bind h).mono fun us H1 ⟨μ1, st1, xs, g1, s1, rxs, h1⟩ => by
    unfold mkLst at h1
    by_cases hz : xs.length ≤ SZ
    · rw [if_pos hz] at h1
      exact ⟨by rw [← VRs.length rxs, sz_eq]; exact hz, fun p hp => post_lst s1 rxs hp h1⟩
    · rw [if_neg hz] at h1
      exact h1.elim⟩
theorem me_lstN (h : MA X W es ma) : ME X W (.List es pos) (eCall mkLstN ma) :=
  PE.imp (pe_lst h) fun σ H Q ⟨μ, st, ρ, er, sr, h⟩ => ⟨μ, st, ρ, er, sr, (PostG.bind h).mono fun us H1 ⟨μ1, st1, xs, g1, s1, rxs, h1⟩ => by
    unfold mkLstN at h1
    by_cases hz : xs.length ≤ SZ
    · rw [if_pos hz] at h1
      exact ⟨by rw [← VRs.length rxs, sz_eq]; exact hz, fun p hp => post_cell h1 s1 hp ⟨_, upd_same, VRs.mono (gr_alloc hp) _ _ rxs⟩⟩
    · rw [if_neg hz] at h1
      exact h1.elim⟩
noncomputable def eDct0 : Rho → M PV := fun _ st => .ok (.loc st.length) (st ++ [.dct []])
theorem me_dictN0 : ME X W (.Dict [] [] pos) (fun _ st => .ok (.loc st.length) (st ++ [.dcn []])) := by
  refine PE.imp (t := fun σ H Q => ∀ p, H p = none → (p == sysModules) = false → Q (.ref p) (upd H p (nestD X.w p []))) ⟨fun pins s σ H Q I h => ?_⟩ fun σ H Q ⟨μ, st, ρ, er, sr, h⟩ p hp hs => post_cell h sr hp ⟨[], upd_same, hs, Nat.zero_le _, .nil, List.nodup_nil⟩
  refine thn (pe_dnewK.run pins s σ H (fun v H' => ∃ p, v = .ref p ∧ H p = none ∧ H' = upd H p (.dK [])) I (fun p hp => ⟨p, rfl, hp, rfl⟩)) fun u s' ⟨v, H', I', rv, p, ev, hp, eH⟩ => ?_
  subst ev eH
  obtain ⟨z, hd, vs, rel, dd⟩ := dk_of I'.hok upd_same
  cases rel
  obtain ⟨o, es, ep, h1, h2, h3, h4, h5, h6⟩ := dd
  have he : es.toList = [] := by
    generalize es.toList = l at h5
    cases h5; rfl
  refine ⟨.ref p, upd H p (nestD X.w p []), ?_, rv, h p hp hd⟩
  have I2 := I'.write (x := p) (e := p) (o := nestD X.w p []) (t' := s'.toks) (h' := s'.heap) (by rw [upd_same]; exact True.intro) (.inl rfl) (fun b q _ z => z) ⟨o, h1⟩ ⟨⟨o, es, ep, h1, h2, h3, by rw [he]; rfl⟩, ⟨o, h1⟩, nestD_stay⟩
  rw [upd_upd] at I2
  exact I2
noncomputable def eDcl0 : Rho → M PV := fun _ st => .ok (.loc st.length) (st ++ [.dcl []])
noncomputable def eDcn0 : Rho → M PV := fun _ st => .ok (.loc st.length) (st ++ [.dcn []])
theorem me_dictN : ME X W (.Dict [] [] pos) eDcn0 := me_dictN0
noncomputable def pairsM : List ((Rho → M PV) × (Rho → M PV)) → Rho → M (List (PV × PV))
  | [], _ => M.ret []
  | m :: r, ρ => M.bind (m.1 ρ) fun k => M.bind (m.2 ρ) fun v => M.bind (pairsM r ρ) fun ps => M.ret ((k, v) :: ps)
noncomputable def PRs (K : PySem.W.Frag) (H : Hp) (μ : Mu) : List (PV × PV) → List (V × V) → Prop
  | [], ps => ps = []
  | p :: r, ps => ∃ k v t, ps = (k, v) :: t ∧ VR K H μ p.1 k ∧ VR K H μ p.2 v ∧ PRs K H μ r t
theorem PRs.mono {K : PySem.W.Frag} {H H' : Hp} {μ μ' : Mu} (g : Gr μ H μ' H') : ∀ (ps : List (PV × PV)) (kv : List (V × V)), PRs K H μ ps kv → PRs K H' μ' ps kv
  | [], _, h => h
  | p :: ps, kv, h => by
    obtain ⟨k, v, t, e, hk, h1, h2⟩ := h
    exact ⟨k, v, t, e, VR.mono g _ _ hk, VR.mono g _ _ h1, PRs.mono g ps t h2⟩
noncomputable def mergeP (kvs more : List (PV × PV)) : List (PV × PV) := more.foldl (fun acc kv => putP acc kv.1 kv.2) kvs
noncomputable def keysOk (kvs : List (PV × PV)) : Bool := kvs.all fun kv => (keyOf kv.1).isSome
noncomputable def eDct (ms : List ((Rho → M PV) × (Rho → M PV))) : Rho → M PV := fun ρ => M.bind (pairsM ms ρ) fun ps st => if keysOk ps = true ∧ ps.length ≤ 15 then .ok (.loc st.length) (st ++ [.dct (mergeP [] ps)]) else .bad
end
end MP

set_option maxRecDepth 100000
set_option maxHeartbeats 1000000
namespace MP
open PySem L2
noncomputable def setM (o i v : PV) : M Unit := fun st => match o with
  | .loc n => match st[n]? with
    | some (.lst xs) => match i with
      | .int k => match ixN xs.length k with
        | some j => .ok () (st.set n (.lst (xs.set j v)))
        | none => .bad
      | _ => .bad
    | some (.dct kvs) => if (keyOf i).isSome = true ∧ kvs.length < SZ then .ok () (st.set n (.dct (putP kvs i v))) else .bad
    | some (.dcl kvs) => if (lfOf i).isSome = true ∧ kvs.length < SZ then .ok () (st.set n (.dcl (putP kvs i v))) else .bad
    | some (.dcn kvs) => if (nkT i).isSome = true ∧ kvs.length < SZ then .ok () (st.set n (.dcn (putP kvs i v))) else .bad
    | _ => .bad
  | _ => .bad
noncomputable def rSetM (K : KW) : V → V → V → Hp → (Hp → Prop) → Prop := fun o i v H Q => rSetL o i v H Q ∨ (∃ a H', o = .ref a ∧ DPut H a i v H' ∧ Q H') ∨ ∃ a, o = .ref a ∧ GPut K H a i v Q
theorem set_M {X : Cx} (hu : X.A.units + 64 < cLine) : PSet X (rSetM (kw X)) := by
  intro pins s σ H o i v ov iv u Q I ro ri rv h
  rcases h with h | ⟨a, H', rfl, g, q⟩ | ⟨a, rfl, g⟩
  · exact set_list pins s σ H o i v ov iv u Q I ro ri rv h
  · cases (show ov = Value.ref a from ro)
    exact d_setItem (by omega) I g ri rv fun s4 I4 => ⟨H', I4, q⟩
  · cases (show ov = Value.ref a from ro)
    exact g_setItem hu I g ri rv fun H' s4 I4 q => ⟨H', I4, q⟩
theorem t_set {K : KW} {μ : Mu} {st : Sto} {H : Hp} {o i v : PV} {a b c : V} {E : XK} {Q : Hp → Prop} (sr : SR K μ st H) (ro : VR K H μ o a) (ri : VR K H μ i b) (rv : VR K H μ v c)
    (h : PostG K E (fun _ _ (_ : Unit) (_ : Unit) => True) (fun _ H' => Q H') μ H (setM o i v st)) : rSetM K a b c H Q := by
  cases o with
  | loc n =>
    obtain ⟨p, rfl, hp⟩ := loc_at ro
    unfold setM at h
    dsimp only at h
    cases q : st[n]? with
    | none => rw [q] at h; exact h.elim
    | some cc =>
      rw [q] at h
      cases cc with
      | lst xs =>
        dsimp only at h
        cases i with
        | int k =>
          dsimp only at h
          cases (show b = V.int k from ri)
          cases qj : ixN xs.length k with
          | none => rw [qj] at h; exact h.elim
          | some j =>
            rw [qj] at h
            obtain ⟨vs, h1, h2⟩ := sr.cell n _ p q hp
            refine .inl ⟨p, vs, k, j, rfl, rfl, h1, by rw [← VRs.length h2]; exact qj, ?_⟩
            exact h μ _ () (gr_put hp h1 rfl) (sr.put hp ⟨_, upd_same, VRs.monov (gv_put hp) _ _ (VRs.set rv j h2)⟩) trivial
        | _ => exact h.elim
      | dct kvs =>
        dsimp only at h
        by_cases hk : (keyOf i).isSome = true ∧ kvs.length < SZ
        · rw [if_pos hk] at h
          obtain ⟨k', ek⟩ := Option.isSome_iff_exists.mp hk.1
          obtain ⟨kv, h1, h2⟩ := sr.cell n _ p q hp
          refine .inr (.inl ⟨p, upd H p (.dK (putK kv k' c)), rfl, ?_, ?_⟩)
          · rw [keyOf_kV ek ri]
            exact DPut.k h1 (by rw [← KRs.length h2, sz_eq]; exact hk.2)
          · exact h μ _ () (gr_put hp h1 rfl) (sr.put hp ⟨_, upd_same, KRs.mono (gv_put hp) _ _ (h2.put ek rv)⟩) trivial
        · rw [if_neg hk] at h
          exact h.elim
      | ins C fs => exact h.elim
      | dcl kvs =>
        dsimp only at h
        by_cases hk : (lfOf i).isSome = true ∧ kvs.length < SZ
        · rw [if_pos hk] at h
          obtain ⟨k', ek⟩ := Option.isSome_iff_exists.mp hk.1
          exact .inr (.inr ⟨p, rfl, (sr.cell n _ p q hp).putL hp ek (by rw [sz_eq]; exact hk.2) ri rv fun o cr => h μ _ () (let ⟨_, h1, _⟩ := sr.cell n _ p q hp; gr_put hp h1 rfl) (sr.put hp cr) trivial⟩)
        · rw [if_neg hk] at h
          exact h.elim
      | dcn kvs =>
        dsimp only at h
        by_cases hk : (nkT i).isSome = true ∧ kvs.length < SZ
        · rw [if_pos hk] at h
          obtain ⟨k', ek⟩ := Option.isSome_iff_exists.mp hk.1
          exact .inr (.inr ⟨p, rfl, (sr.cell n _ p q hp).putN hp ek (by rw [sz_eq]; exact hk.2) ri rv fun o cr => h μ _ () (let ⟨_, h1, _⟩ := sr.cell n _ p q hp; gr_put hp h1 rfl) (sr.put hp cr) trivial⟩)
        · rw [if_neg hk] at h
          exact h.elim
      | lck kvs => exact h.elim
  | _ => exact h.elim
noncomputable def gSubM (mo mi : Rho → M PV) : GM := fun p ρ => M.bind (mo ρ) fun o => M.bind (mi ρ) fun i => M.bind (setM o i p) fun _ => M.ret ρ
section
variable {X : Cx} {W : WX} {o i : Expr} {pos : Pos} {mo mi : Rho → M PV}
theorem mg_sub (hu : X.A.units + 64 < cLine) (ho : ME X W o mo) (hi : ME X W i mi)
    (ha : ∀ v, assign (.Subscript o i pos) X.env v = (do
      let ov ← holding [v] (eval o X.env)
      let iv ← holding [v, ov] (eval i X.env)
      standAt pos
      holding [v, ov, iv] (setItem ov iv v)
      release [v, ov, iv] []) := by intro _; rfl) : MG X W (.Subscript o i pos) (gSubM mo mi) :=
  PG.imp (pg_sub ho hi (set_M hu) ha) fun v σ H Q ⟨μ, st, ρ, p, er, sr, rv, h⟩ => ⟨μ, st, ρ, er, sr, (PostG.bind h).mono fun u H1 ⟨μ1, st1, x, g1, s1, rx, h1⟩ =>
    ⟨μ1, st1, ρ, er.mono g1, s1, (PostG.bind h1).mono fun w H2 ⟨μ2, st2, y, g2, s2, ry, h2⟩ => t_set s2 (VR.mono g2 x u rx) ry (VR.mono g2 p v (VR.mono g1 p v rv))
      ((PostG.bind (R' := fun _ _ (_ : Unit) (_ : Unit) => True) h2).mono fun _ H3 ⟨μ3, st3, _, g3, s3, _, h3⟩ => h3 μ3 H3 σ (Gr.refl _ _) s3 (((er.mono g1).mono g2).mono g3))⟩⟩
end
noncomputable def lenM (xs : List PV) : M PV := fun st => match xs with
  | [x] => match seqOf x st with
    | some ys => .ok (.int ys.length) st
    | none => match x with
      | .str z => if z.length ≤ SZ then .ok (.int z.length) st else .bad
      | x => match dctOf x st with
        | some kvs => .ok (.int kvs.length) st
        | none => .bad
  | _ => .bad
theorem one_of {K : PySem.W.Frag} {H : Hp} {μ : Mu} {x : PV} {us : List V} (r : VRs K H μ [x] us) : ∃ u, us = [u] ∧ VR K H μ x u := by
  obtain ⟨u, t, rfl, h1, h2⟩ := (show ∃ v t, us = v :: t ∧ VR K H μ x v ∧ VRs K H μ [] t from r)
  cases (show t = [] from h2)
  exact ⟨u, rfl, h1⟩
theorem two_of {K : PySem.W.Frag} {H : Hp} {μ : Mu} {x y : PV} {us : List V} (r : VRs K H μ [x, y] us) : ∃ u v, us = [u, v] ∧ VR K H μ x u ∧ VR K H μ y v := by
  obtain ⟨u, t, rfl, h1, h2⟩ := (show ∃ v t, us = v :: t ∧ VR K H μ x v ∧ VRs K H μ [y] t from r)
  obtain ⟨v, rfl, h3⟩ := one_of h2
  exact ⟨u, v, rfl, h1, h3⟩
noncomputable def rLenM (K : PySem.W.Frag) : List V → Hp → VK → Prop := fun xs H Q => (∃ x n, xs = [x] ∧ LenV K x H n ∧ Q (.int n) H) ∨ ∃ a kvs, xs = [V.ref a] ∧ H a = some (.dK kvs) ∧ Q (.int kvs.length) H
theorem cr_lenM {X : Cx} : CallR X (.builtin "len") (rLenM X.K) := call_len.or call_lenD
theorem t_len {K : KW} : TL K (rLenM K) lenM := by
  intro μ st H xs us E Q sr r h
  cases xs with
  | nil => exact h.elim
  | cons x t =>
    cases t with
    | cons y t => exact h.elim
    | nil =>
      obtain ⟨u, rfl, rx⟩ := one_of r
      unfold lenM at h
      dsimp only at h
      cases hs : seqOf x st with
      | some ys =>
        rw [hs] at h
        obtain ⟨a, vs, rfl, hq, rs⟩ := seqOf_at sr rx hs
        refine .inl ⟨.ref a, ys.length, rfl, ?_, post_same h sr rfl⟩
        rcases hq with hq | hq
        · exact .inl ⟨vs, hq, VRs.length rs⟩
        · exact .inr ⟨vs, hq, VRs.length rs⟩
      | none =>
        rw [hs] at h
        dsimp only at h
        have dc : PostG K E (VR K) Q μ H (match dctOf x st with
          | some kvs => .ok (.int kvs.length) st
          | none => .bad) → rLenM K [u] H Q := by
          intro h
          cases hd : dctOf x st with
          | none => rw [hd] at h; exact h.elim
          | some kvs =>
            rw [hd] at h
            obtain ⟨n, a, kv, ex, rfl, ha, hc, h1, h2⟩ := dctOf_at sr rx hd
            refine .inr ⟨a, kv, rfl, h1, ?_⟩
            rw [← KRs.length h2]
            exact post_same h sr rfl
        cases x with
        | str z =>
          cases (show u = V.str ⟨z.toArray⟩ from rx)
          dsimp only at h
          by_cases hz : z.length ≤ SZ
          · rw [if_pos hz] at h
            refine .inl ⟨_, z.length, rfl, ?_, post_same h sr rfl⟩
            exact ⟨by rw [str_len, sz_eq]; exact hz, by rw [str_len]⟩
          · rw [if_neg hz] at h
            exact h.elim
        | _ => exact dc h
noncomputable def listM (xs : List PV) : M PV := fun st => match xs with
  | [x] => match seqOf x st with
    | some ys => .ok (.lst ys) st
    | none => .bad
  | _ => .bad
noncomputable def listN (xs : List PV) : M PV := fun st => match xs with
  | [x] => match seqOf x st with
    | some ys => .ok (.loc st.length) (st ++ [.lst ys])
    | none => .bad
  | _ => .bad
noncomputable def tupleM (xs : List PV) : M PV := fun st => match xs with
  | [x] => match seqOf x st with
    | some ys => .ok (.tup ys) st
    | none => .bad
  | _ => .bad
noncomputable abbrev rTupM (K : PySem.W.Frag) : List V → Hp → VK → Prop := fun xs H Q => ∃ p ys, xs = [.ref p] ∧ ((SqL K H p ys ∧ ∀ l, H l = none → Q (.ref l) (upd H l (.tup ys))) ∨ (SqT K H p ys ∧ Q (.ref p) H))
theorem t_tuple {K : KW} : TL K (rTupM K) tupleM := by
  intro μ st H xs us E Q sr r h
  cases xs with
  | nil => exact h.elim
  | cons x t =>
    cases t with
    | cons y t => exact h.elim
    | nil =>
      obtain ⟨u, rfl, rx⟩ := one_of r
      unfold tupleM at h
      dsimp only at h
      cases hs : seqOf x st with
      | none => rw [hs] at h; exact h.elim
      | some ys =>
        rw [hs] at h
        cases x with
        | tup zs =>
          cases hs
          obtain ⟨a, vs, rfl, t, rs⟩ := tup_at rx
          exact ⟨a, vs, rfl, .inr ⟨t.sq, post_same h sr rx⟩⟩
        | lst zs =>
          cases hs
          obtain ⟨a, vs, rfl, t, rs⟩ := lst_at rx
          exact ⟨a, vs, rfl, .inl ⟨t.sq, fun l hl => post_tup sr rs hl h⟩⟩
        | frz zs =>
          cases hs
          obtain ⟨a, vs, rfl, t, rs⟩ := frz_at rx
          exact ⟨a, vs, rfl, .inl ⟨t.sq, fun l hl => post_tup sr rs hl h⟩⟩
        | loc n =>
          obtain ⟨a, vs, rfl, t, rs⟩ := listOf_at sr rx (show listOf (.loc n) st = some ys from hs)
          exact ⟨a, vs, rfl, .inl ⟨SqL.of t, fun l hl => post_tup sr rs hl h⟩⟩
        | _ => cases hs
noncomputable def tyP (x : PV) (st : Sto) : Option String := match x with
  | .non => some "NoneType"
  | .bl _ => some "bool"
  | .int _ => some "int"
  | .str _ => some "str"
  | .tup _ => some "tuple"
  | .lst _ => some "list"
  | .loc n => match st[n]? with
    | some (.lst _) => some "list"
    | some (.dct _) => some "dict"
    | _ => none
  | _ => none
noncomputable def isiT (t T : String) : Bool := t == T || (t == "bool" && T == "int")
noncomputable def isiOk (T : String) : Bool := T == "int" || T == "bool" || T == "str" || T == "tuple" || T == "list" || T == "dict"
noncomputable def isiM (xs : List PV) : M PV := fun st => match xs with
  | [x, .ty T] => if isiOk T = true then (match tyP x st with
    | some t => .ok (.bl (isiT t T)) st
    | none => .bad) else .bad
  | _ => .bad
theorem kit_tab : ∀ t ∈ ["NoneType", "bool", "int", "str", "tuple", "list", "dict"], ∀ T ∈ ["int", "bool", "str", "tuple", "list", "dict"], kitB t T = some (isiT t T) := by decide +kernel
theorem tyP_at {K : KW} {H : Hp} {μ : Mu} {st : Sto} {x : PV} {v : V} {t : String} (sr : SR K μ st H) (r : VR K H μ x v) (h : tyP x st = some t) : t ∈ ["NoneType", "bool", "int", "str", "tuple", "list", "dict"] ∧ TyX K H v (.type t) := by
  cases x with
  | non => cases h; cases (show v = .non from r); exact ⟨by decide, .base .non⟩
  | bl b => cases h; cases (show v = .bl b from r); exact ⟨by decide, .base (.bl b)⟩
  | int b => cases h; cases (show v = .int b from r); exact ⟨by decide, .base (.int b)⟩
  | str b => cases h; cases (show v = .str ⟨b.toArray⟩ from r); exact ⟨by decide, .base (.str _)⟩
  | tup b =>
    cases h
    obtain ⟨a, vs, rfl, t, rs⟩ := tup_at r
    rcases t with ⟨t, _⟩ | ⟨o, its, n, hk, hc, _⟩
    · exact ⟨by decide, .base (.tup t)⟩
    · exact ⟨by decide, .kTuple hk hc⟩
  | lst b =>
    cases h
    obtain ⟨a, vs, rfl, t, rs⟩ := lst_at r
    exact ⟨by decide, .base (.lst t.1)⟩
  | loc n =>
    obtain ⟨a, rfl, ha⟩ := loc_at r
    unfold tyP at h
    dsimp only at h
    cases q : st[n]? with
    | none => rw [q] at h; cases h
    | some c =>
      rw [q] at h
      cases c with
      | lst xs =>
        cases h
        obtain ⟨vs, h1, _⟩ := sr.cell n _ a q ha
        exact ⟨by decide, .base (.lst h1)⟩
      | dct kvs =>
        cases h
        obtain ⟨vs, h1, _⟩ := sr.cell n _ a q ha
        exact ⟨by decide, .base (.dK h1)⟩
      | ins C fs => cases h
      | dcl kvs => cases h
      | dcn kvs => cases h
      | lck kvs => cases h
  | _ => cases h
theorem t_isi {K : KW} : TL K (rIsi K) isiM := by
  intro μ st H xs us E Q sr r h
  cases xs with
  | nil => exact h.elim
  | cons x t =>
    cases t with
    | nil => exact h.elim
    | cons y t =>
      cases t with
      | cons z t =>
        unfold isiM at h
        cases y <;> exact h.elim
      | nil =>
        obtain ⟨u, v, rfl, rx, ry⟩ := two_of r
        cases y with
        | ty T =>
          cases (show v = V.ty T from ry)
          unfold isiM at h
          dsimp only at h
          by_cases hT : isiOk T = true
          · rw [if_pos hT] at h
            have hT' : T ∈ ["int", "bool", "str", "tuple", "list", "dict"] := by
              unfold isiOk at hT
              simp only [Bool.or_eq_true, beq_iff_eq] at hT
              simp only [List.mem_cons]
              rcases hT with ((((e | e) | e) | e) | e) | e <;> simp [e]
            cases q : tyP x st with
            | none => rw [q] at h; exact h.elim
            | some t =>
              rw [q] at h
              obtain ⟨m, ty⟩ := tyP_at sr rx q
              exact ⟨u, .ty T, .type t, .type T, _, rfl, .ty T, ty, kit_ty (kit_tab t m T hT'), post_same h sr rfl⟩
          · rw [if_neg hT] at h
            exact h.elim
        | _ => exact h.elim
noncomputable def intM (xs : List PV) : M PV := match xs with
  | [.int i] => M.ret (.int i)
  | [.bl b] => M.ret (.int (if b then 1 else 0))
  | [.str x] => if x.length ≤ 640 then (match PySem.intText? ⟨x.toArray⟩ with | some n => M.ret (.int n) | none => M.fail) else M.fail
  | _ => M.fail
noncomputable def maxM (xs : List PV) : M PV := match xs with
  | [.int i, .int j] => M.ret (.int (if j > i then j else i))
  | _ => M.fail
noncomputable def minM (xs : List PV) : M PV := match xs with
  | [.int i, .int j] => M.ret (.int (if j < i then j else i))
  | _ => M.fail
noncomputable def boolsOf : List PV → Option (List Bool)
  | [] => some []
  | .bl b :: r => (boolsOf r).map (b :: ·)
  | _ :: _ => none
theorem boolsOf_at {K : PySem.W.Frag} {H : Hp} {μ : Mu} : ∀ {ps : List PV} {vs : List V} {bs : List Bool}, VRs K H μ ps vs → boolsOf ps = some bs → vs = bs.map V.bl
  | [], vs, bs, r, h => by cases h; exact r
  | p :: ps, vs, bs, r, h => by
    obtain ⟨v, t, rfl, r1, r2⟩ := (show ∃ v t, vs = v :: t ∧ VR K H μ p v ∧ VRs K H μ ps t from r)
    cases p with
    | bl b =>
      unfold boolsOf at h
      cases q : boolsOf ps with
      | none => rw [q] at h; cases h
      | some cs =>
        rw [q] at h
        cases h
        cases (show v = V.bl b from r1)
        rw [boolsOf_at r2 q]
        rfl
    | _ => cases h
noncomputable def allM (n : Bool) (xs : List PV) : M PV := fun st => match xs with
  | [x] => match listOf x st with
    | some ys => match boolsOf ys with
      | some bs => .ok (.bl (if n then bs.any id else bs.all id)) st
      | none => .bad
    | none => .bad
  | _ => .bad
noncomputable abbrev rAllM (K : PySem.W.Frag) (n : Bool) : List V → Hp → VK → Prop := fun vs H Q => ∃ (a : Addr) (bs : List Bool), vs = [V.ref a] ∧ SqL K H a (bs.map V.bl) ∧ Q (.bl (if n then bs.any id else bs.all id)) H
theorem t_all {K : KW} {n : Bool} : TL K (rAllM K n) (allM n) := by
  intro μ st H xs us E Q sr r h
  cases xs with
  | nil => exact h.elim
  | cons x t =>
    cases t with
    | cons y t => exact h.elim
    | nil =>
      obtain ⟨u, rfl, rx⟩ := one_of r
      unfold allM at h
      dsimp only at h
      cases hs : listOf x st with
      | none => rw [hs] at h; exact h.elim
      | some ys =>
        rw [hs] at h
        dsimp only at h
        cases hb : boolsOf ys with
        | none => rw [hb] at h; exact h.elim
        | some bs =>
          rw [hb] at h
          obtain ⟨a, vs, rfl, hq, rs⟩ := listOf_at sr rx hs
          rw [boolsOf_at rs hb] at hq
          exact ⟨a, bs, rfl, SqL.of hq, post_same h sr rfl⟩
section
variable {X : Cx} {W : WX} {e : Expr} {es : List Expr} {p pos : Pos} {ma : Rho → M (List PV)}
theorem me_len (hg : Gl X "len") (hm : X.mg "len" = none) (ha : MA X W [e] ma) (he : starEach [e] X.env = (false, eval e X.env) :: starEach [] X.env := by kernel_rfl) : ME X W (.Call (.Name "len" p) [e] [] pos) (eCall lenM ma) :=
  me_callB cr_lenM t_len hg hm PySem.boot_len ha (by decide) (by decide) he rfl
theorem me_tupleOf (hg : Gl X "tuple") (hm : X.mg "tuple" = none) (ha : MA X W [e] ma) (he : starEach [e] X.env = (false, eval e X.env) :: starEach [] X.env := by kernel_rfl) : ME X W (.Call (.Name "tuple" p) [e] [] pos) (eCall tupleM ma) :=
  me_callTy call_tuple_of t_tuple hg hm (by decide +kernel) ha (by decide) (by decide) he rfl
theorem me_isinst (hg : Gl X "isinstance") (hm : X.mg "isinstance" = none) (ha : MA X W (e :: es) ma) (he : starEach (e :: es) X.env = (false, eval e X.env) :: starEach es X.env := by kernel_rfl) (hpl : (backTo pos (starEach es X.env)).any (·.1) = false := by kernel_rfl) : ME X W (.Call (.Name "isinstance" p) (e :: es) [] pos) (eCall isiM ma) :=
  me_callB call_isi t_isi hg hm (by decide +kernel) ha (by decide) (by decide) he hpl
theorem me_all (hc : X.calm = true) (hg : Gl X "all") (hm : X.mg "all" = none) (ha : MA X W [e] ma) (he : starEach [e] X.env = (false, eval e X.env) :: starEach [] X.env := by kernel_rfl) : ME X W (.Call (.Name "all" p) [e] [] pos) (eCall (allM false) ma) :=
  me_callB (cr_all hc) (t_all (n := false)) hg hm (by decide +kernel) ha (by decide) (by decide) he rfl
end
end MP

set_option maxRecDepth 100000
set_option maxHeartbeats 1000000
namespace MP
open PySem L2
theorem TupAt.grow {K : PySem.W.Frag} {H H' : Hp} {μ μ' : Mu} {a : Addr} {vs : List V} (g : Gr μ H μ' H') (t : TupAt K H μ a vs) : TupAt K H' μ' a vs := by
  rcases t with ⟨t, n⟩ | t
  · exact .inl ⟨g.keep a _ t (fun z => n (.inl z)), g.out t n⟩
  · exact .inr t
theorem LstAt.grow {H H' : Hp} {μ μ' : Mu} {a : Addr} {vs : List V} (g : Gr μ H μ' H') (t : LstAt H μ a vs) : LstAt H' μ' a vs := ⟨g.keep a _ t.1 (fun z => t.2 (.inl z)), g.out t.1 t.2⟩
theorem FrzAt.grow {K : PySem.W.Frag} {H H' : Hp} {μ μ' : Mu} {a : Addr} {vs : List V} (g : Gr μ H μ' H') (t : FrzAt K H μ a vs) : FrzAt K H' μ' a vs := by
  rcases t with ⟨t | ⟨o, t⟩, n⟩ | t
  · exact .inl ⟨.inl (g.keep a _ t (fun z => n (.inl z))), g.out t n⟩
  · exact .inl ⟨.inr ⟨o, g.keep a _ t (fun z => n (.inl z))⟩, g.out t n⟩
  · exact .inr t
theorem sup_tup {K : KW} {H : Hp} {μ : Mu} {a : Addr} {ps : List PV} {vs : List V} (t : TupAt K H μ a vs) (r : VRs K H μ ps vs) : Sup K (Itt K a) ps μ H := fun μ' H' st g sr => by
  have q := (t.grow g).sq
  refine ⟨fun i p hp => ?_, ⟨vs, q, by rw [VRs.length r]; exact Nat.le_refl _⟩⟩
  obtain ⟨v, e1, e2⟩ := VRs.get (VRs.mono g ps vs r) hp
  refine ⟨⟨vs, v, q, e1⟩, fun x H2 ⟨eh, y⟩ => ?_⟩
  subst eh
  have ex : v = x := Option.some.inj (e1.symm.trans (y vs q))
  subst ex
  exact ⟨Gr.refl _ _, sr, e2⟩
theorem sup_lst {K : KW} {H : Hp} {μ : Mu} {a : Addr} {ps : List PV} {vs : List V} (t : ∀ μ' H', Gr μ H μ' H' → SqL K H' a vs) (r : VRs K H μ ps vs) : Sup K (Itl K a) ps μ H := fun μ' H' st g sr => by
  have q := t μ' H' g
  refine ⟨fun i p hp => ?_, ⟨vs, q, by rw [VRs.length r]; exact Nat.le_refl _⟩⟩
  obtain ⟨v, e1, e2⟩ := VRs.get (VRs.mono g ps vs r) hp
  refine ⟨⟨vs, v, q, e1⟩, fun x H2 ⟨eh, y⟩ => ?_⟩
  subst eh
  have ex : v = x := Option.some.inj (e1.symm.trans (y vs q))
  subst ex
  exact ⟨Gr.refl _ _, sr, e2⟩
theorem sup_str {K : KW} {H : Hp} {μ : Mu} {z : List Nat} : Sup K (Its ⟨z.toArray⟩) (z.map fun c => .str [c]) μ H := fun μ' H' st g sr => by
  refine ⟨fun i p hp => ?_, by show z.toArray.size ≤ _; simp⟩
  rw [List.getElem?_map] at hp
  cases q : z[i]? with
  | none => rw [q] at hp; cases hp
  | some c =>
    rw [q] at hp
    cases hp
    refine ⟨by show i < z.toArray.size; have := (List.getElem?_eq_some_iff.mp q).1; simpa using this, fun x H2 ⟨eh, c', ec, ex⟩ => ?_⟩
    subst eh ex
    have e : z.toArray[i]? = some c' := ec
    have e' : c' = c := by
      rw [List.getElem?_toArray, q] at e
      exact (Option.some.inj e).symm
    subst e'
    exact ⟨Gr.refl _ _, sr, rfl⟩
theorem sup_range {K : KW} {H : Hp} {μ : Mu} {lo : Int} {n : Nat} : Sup K (Itr lo n) ((List.range n).map fun (i : Nat) => .int (lo + (i : Int))) μ H := fun μ' H' st g sr => by
  refine ⟨fun i p hp => ?_, by show n ≤ _; simp⟩
  rw [List.getElem?_map] at hp
  cases q : (List.range n)[i]? with
  | none => rw [q] at hp; cases hp
  | some c =>
    rw [q] at hp
    cases hp
    obtain ⟨h1, h2⟩ := List.getElem?_eq_some_iff.mp q
    rw [List.getElem_range] at h2
    subst h2
    refine ⟨by show i < n; simpa using h1, fun x H2 ⟨eh, ex⟩ => ?_⟩
    subst eh ex
    exact ⟨Gr.refl _ _, sr, rfl⟩
noncomputable def itemsM : PV → M (List PV)
  | .tup xs => M.ret xs
  | .lst xs => M.ret xs
  | .frz xs => M.ret xs
  | .str z => M.ret (z.map fun c => .str [c])
  | _ => M.fail
noncomputable def iSeq (m : Rho → M PV) : Rho → M (List PV) := fun ρ => M.bind (m ρ) itemsM
section
variable {X : Cx} {W : WX} {tg e a b : Expr} {p pos : Pos} {me : Rho → M PV} {ma : Rho → M (List PV)}
theorem PI.or {iter : Expr} {t t' : TI} (h : PI X tg iter t) (h' : PI X tg iter t') : PI X tg iter (fun σ H R => t σ H R ∨ t' σ H R) := ⟨fun pins s σ H R I q => by
  rcases q with q | q
  · exact h.run pins s σ H R I q
  · exact h'.run pins s σ H R I q⟩
noncomputable def rangeOk (i : Int) : Prop := -4611686018427387904 ≤ i ∧ i < 4611686018427387904
noncomputable instance (i : Int) : Decidable (rangeOk i) := by unfold rangeOk; exact inferInstance
noncomputable def range1 (xs : List PV) : M (List PV) := match xs with
  | [.int j] => if rangeOk j then M.ret ((List.range j.toNat).map fun (i : Nat) => .int ((0 : Int) + (i : Int))) else M.fail
  | _ => M.fail
noncomputable def range2 (xs : List PV) : M (List PV) := match xs with
  | [.int i, .int j] => if rangeOk i ∧ rangeOk j then M.ret ((List.range (j - i).toNat).map fun (k : Nat) => .int (i + (k : Int))) else M.fail
  | _ => M.fail
noncomputable def iCall (f : List PV → M (List PV)) (m : Rho → M (List PV)) : Rho → M (List PV) := fun ρ => M.bind (m ρ) f
theorem mi_range1 (hg : Gl X "range") (hm : X.mg "range" = none) (ha : MA X W [a] ma) (hs : starEach [a] X.env = [(false, eval a X.env)] := by kernel_rfl) : MI X W tg (.Call (.Name "range" p) [a] [] pos) (iCall range1 ma) :=
  PI.imp (pi_range1 hg hm ha hs) fun σ H R ⟨μ, st, ρ, er, sr, h⟩ => ⟨μ, st, ρ, er, sr, (PostG.bind h).mono fun us H1 ⟨μ1, st1, xs, g1, s1, rxs, h1⟩ => by
    unfold range1 at h1
    split at h1
    · rename_i j
      by_cases hj : rangeOk j
      · rw [if_pos hj] at h1
        obtain ⟨u, rfl, ru⟩ := one_of rxs
        cases (show u = V.int j from ru)
        exact ⟨j, rfl, hj.1, hj.2, h1 μ1 H1 _ (Gr.refl _ _) s1 sup_range⟩
      · rw [if_neg hj] at h1
        exact h1.elim
    · exact h1.elim⟩
noncomputable def enumM (xs : List PV) : M (List PV) := match xs with
  | [.lst ps] => M.ret (ps.mapIdx fun i p => .tup [.int (i : Nat), p])
  | [.frz ps] => M.ret (ps.mapIdx fun i p => .tup [.int (i : Nat), p])
  | _ => M.fail
end
noncomputable def wipeP (ρ : Rho) : List Nat → Rho
  | [] => ρ
  | v :: vs => (wipeP ρ vs).set v none
theorem ER.wipe {K : PySem.W.Frag} {H : Hp} {μ : Mu} {ρ : Rho} {σ : St} (e : ER K H μ ρ σ) : ∀ vs : List Nat, ER K H μ (wipeP ρ vs) (L2.wipe σ vs)
  | [] => e
  | v :: vs => by
    unfold wipeP L2.wipe
    exact (ER.wipe e vs).unset v
theorem wipe_far {σ : St} {j : Nat} {o : Option V} : ∀ {vs : List Nat}, j ∉ vs → L2.wipe (σ.set j o) vs = (L2.wipe σ vs).set j o
  | [], _ => rfl
  | v :: vs, h => by
    have h1 : j ≠ v := fun z => h (by rw [z]; exact List.mem_cons_self)
    have h2 : j ∉ vs := fun z => h (List.mem_cons_of_mem _ z)
    unfold L2.wipe
    rw [wipe_far h2, List.set_comm _ _ h1]
theorem wipe_set {σ : St} {j : Nat} {o : Option V} : ∀ {vs : List Nat}, j ∈ vs → L2.wipe (σ.set j o) vs = L2.wipe σ vs
  | [], h => (nomatch h)
  | v :: vs, h => by
    unfold L2.wipe
    by_cases hj : j ∈ vs
    · rw [wipe_set hj]
    · have e : j = v := by
        rcases List.mem_cons.mp h with z | z
        · exact z
        · exact absurd z hj
      subst e
      rw [wipe_far hj, List.set_set]
theorem wipe_wipe {σ : St} {vs : List Nat} : ∀ {us : List Nat}, (∀ u ∈ us, u ∈ vs) → L2.wipe (L2.wipe σ us) vs = L2.wipe σ vs
  | [], _ => rfl
  | u :: us, h => by
    show L2.wipe ((L2.wipe σ us).set u none) vs = _
    rw [wipe_set (h u List.mem_cons_self), wipe_wipe fun w hw => h w (List.mem_cons_of_mem _ hw)]
noncomputable def TGo (K : KW) (vs : List Nat) (g0 : TG) (g : GM) : Prop := ∀ (v : V) (σ : St) (H : Hp) (Q : St → Hp → Prop) (μ : Mu) (st : Sto) (ρ : Rho) (p : PV), ER K H μ ρ σ → SR K μ st H → VR K H μ p v →
  PostG K (fun _ _ _ => False) (fun H μ ρ' σ' => ER K H μ ρ' σ' ∧ L2.wipe σ' vs = L2.wipe σ vs) Q μ H (g p ρ st) → g0 v σ H Q
theorem tgo_name {K : KW} {vs : List Nat} {j : Nat} (h : j ∈ vs) : TGo K vs (gName j) (gN j) := fun v σ H Q μ st ρ p er sr rv q => q μ H _ (Gr.refl _ _) sr ⟨er.set rv j, wipe_set h⟩
noncomputable def lcL (g : GM) (t : Rho → M Bool) (e : Rho → M PV) (ρ0 : Rho) : List PV → List PV → M (List PV)
  | [], acc => M.ret acc
  | p :: ps, acc => M.bind (M.calm (g p ρ0)) fun ρ1 => M.bind (M.calm (t ρ1)) fun c => if c = true then M.bind (M.calm (e ρ1)) fun y => if acc.length < SZ then lcL g t e ρ0 ps (acc ++ [y]) else M.fail else lcL g t e ρ0 ps acc
noncomputable def Mu.bar (μ : Mu) (D : Addr) : Mu := ⟨μ.l, D :: μ.b⟩
theorem gv_bar {μ : Mu} {H : Hp} {D : Addr} {va : List V} (hb : D ∈ μ.b) : Gv μ H μ (upd H D (.lst va)) := ⟨⟨[], by simp⟩, fun a o e _ n => ⟨by rw [upd_ne (fun z => n (by rw [z]; exact .inr hb))]; exact e, n⟩⟩
theorem sr_bar {K : KW} {μ : Mu} {st : Sto} {H : Hp} {D : Addr} {va : List V} (hb : D ∈ μ.b) (s : SR K μ st H) : SR K μ st (upd H D (.lst va)) := by
  have nD := (s.ban D hb).1
  refine ⟨s.len, s.nd, fun a m => ⟨(s.ban a m).1, ?_⟩, fun n c a e1 e2 => (s.cell n c a e1 e2).monov (gv_bar hb) (upd_ne (fun z => nD (by rw [← z]; exact List.mem_of_getElem? e2)))⟩
  by_cases ha : a = D
  · rw [ha]; exact ⟨_, upd_same⟩
  · rw [upd_ne ha]; exact (s.ban a m).2
theorem M.bind_assoc {α β γ : Type} (m : M α) (f : α → M β) (k : β → M γ) : M.bind (M.bind m f) k = M.bind m fun a => M.bind (f a) k := by
  funext st
  unfold M.bind
  cases m st <;> rfl
noncomputable def Mu.unbar (μ : Mu) (D : Addr) : Mu := ⟨μ.l, μ.b.filter fun a => decide (a ≠ D)⟩
theorem unbar_b {μ : Mu} {D a : Addr} : a ∈ (μ.unbar D).b ↔ a ∈ μ.b ∧ a ≠ D := by
  show a ∈ μ.b.filter _ ↔ _
  rw [List.mem_filter]
  simp
theorem not_unbar {μ : Mu} {D a : Addr} (h : a ∉ μ) : a ∉ μ.unbar D := fun m => by
  rcases m with m | m
  · exact h (.inl m)
  · exact h (.inr (unbar_b.mp m).1)
theorem gv_unbar {μ : Mu} {H : Hp} {D : Addr} : Gv μ H (μ.unbar D) H := ⟨⟨[], by simp [Mu.unbar]⟩, fun a o e _ n => ⟨e, not_unbar n⟩⟩
theorem sr_unbar {K : KW} {μ : Mu} {st : Sto} {H : Hp} {D : Addr} (s : SR K μ st H) : SR K (μ.unbar D) st H :=
  ⟨s.len, s.nd, fun a m => s.ban a (unbar_b.mp m).1, fun n c a e1 e2 => (s.cell n c a e1 e2).monov gv_unbar rfl⟩
theorem gr_unbar {K : KW} {μ0 μ : Mu} {st0 : Sto} {H0 H : Hp} {D : Addr} (s0 : SR K μ0 st0 H0) (hD : H0 D = none) (g : Gr μ0 H0 μ H) : Gr μ0 H0 (μ.unbar D) H := by
  refine ⟨g.pre, fun a m => unbar_b.mpr ⟨g.ban a m, fun z => ?_⟩, fun a m => g.bnew a (unbar_b.mp m).1, g.new, g.keep, g.fz⟩
  subst z
  obtain ⟨o, e⟩ := (s0.ban _ m).2
  rw [hD] at e; cases e
noncomputable def lcV (acc : List PV) : M PV := M.ret (.lst acc)
noncomputable def lcN (acc : List PV) : M PV := fun st => .ok (.loc st.length) (st ++ [.lst acc])
noncomputable def LcEnd (K : KW) (k : List PV → M PV) : Prop := ∀ (μ0 μ : Mu) (st0 st : Sto) (H0 H : Hp) (D : Addr) (acc : List PV) (va : List V) (E : XK) (Q : VK), SR K μ0 st0 H0 → H0 D = none → Gr μ0 H0 μ H → SR K μ st H → D ∈ μ.b → H D = some (.lst va) → VRs K H μ acc va →
  PostG K E (VR K) Q μ0 H0 (k acc st) → Q (.ref D) H
theorem lcV_end {K : KW} : LcEnd K lcV := fun μ0 μ st0 st H0 H D acc va E Q s0 hD g s hb hd r h =>
  h _ H _ (gr_unbar s0 hD g) (sr_unbar s) (show ∃ a vs, V.ref D = .ref a ∧ LstAt H (μ.unbar D) a vs ∧ VRs K H (μ.unbar D) acc vs from ⟨D, va, rfl, ⟨hd, fun m => by
    rcases m with m | m
    · exact (s.ban D hb).1 m
    · exact (unbar_b.mp m).2 rfl⟩, VRs.monov gv_unbar _ _ r⟩)
noncomputable abbrev W0 : WX := fun _ _ _ _ => False
theorem lc_imp {K : KW} {E : XK} {Q : VK} {J : It} {ps : List PV} {g0 : TG} {g : GM} {t : Rho → M Bool} {e : Rho → M PV} {k : List PV → M PV} {vs : List Nat} {μ : Mu} {H : Hp} {σ : St} {ρ : Rho} {st : Sto} {D : Addr} (su : Sup K J ps μ H) (er : ER K H μ ρ σ) (sr : SR K μ st H) (tg : TGo K vs g0 g) (le : LcEnd K k)
    (hD : H D = none) (h : PostG K E (VR K) Q μ H (M.bind (lcL g t e (wipeP ρ vs) ps []) k st)) :
    ∃ V : Nat → Nat → Hp → Prop, (∃ m, V 0 m (upd H D (.lst []))) ∧ ∀ i m H, V i m H →
      (J.stop i H ∧ Q (.ref D) H) ∨ (J.go i H ∧ ∃ Nx : Hp → Prop, (∀ H', Nx H' → ∃ m', m' < m ∧ V (i + 1) m' H') ∧ ∀ x H', J.yld i H x H' → g0 x (L2.wipe σ vs) H' fun σ2 H2 => L2.wipe σ2 vs = L2.wipe σ vs ∧ tMT K W0 t σ2 H2 fun b H3 =>
        if b = true then tM K W0 e σ2 H3 fun y H4 => ∃ acc, H4 D = some (.lst acc) ∧ acc.length < sizeLine ∧ Nx (upd H4 D (.lst (acc ++ [y]))) else Nx H3) := by
  let P : Nat → Hp → Prop := fun i H' => ∃ μ' st' acc va, Gr μ H μ' H' ∧ SR K μ' st' H' ∧ D ∈ μ'.b ∧ H' D = some (.lst va) ∧ VRs K H' μ' acc va ∧ PostG K E (VR K) Q μ H (M.bind (lcL g t e (wipeP ρ vs) (ps.drop i) acc) k st')
  refine ⟨fun i m H' => m = ps.length - i ∧ i ≤ ps.length ∧ P i H', ⟨ps.length, by simp, Nat.zero_le _, ?_⟩, ?_⟩
  · have gb : Gr μ H (μ.bar D) (upd H D (.lst [])) := ⟨⟨[], by simp [Mu.bar]⟩, fun a m => List.mem_cons_of_mem _ m, fun a m => by
      rcases List.mem_cons.mp m with z | z
      · rw [z]; exact .inr hD
      · exact .inl z, fun a m => .inl m, fun a o q _ => by rw [upd_ne (ne_of_none q hD)]; exact q, fun a o u q => by rw [upd_ne (ne_of_none q hD)]; exact q⟩
    refine ⟨μ.bar D, st, [], [], gb, ?_, List.mem_cons_self, upd_same, rfl, by rw [List.drop_zero]; exact h⟩
    refine ⟨sr.len, sr.nd, fun a m => ?_, fun n c a e1 e2 => (sr.cell n c a e1 e2).mono gb (upd_ne fun z => ?_)⟩
    · rcases List.mem_cons.mp m with z | z
      · subst z
        exact ⟨fun q => sr.free hD (.inl q), _, upd_same⟩
      · obtain ⟨n1, o, q⟩ := sr.ban a z
        exact ⟨n1, o, by rw [upd_ne (ne_of_none q hD)]; exact q⟩
    · obtain ⟨u, q⟩ := (sr.cell n c a e1 e2).has
      rw [z, hD] at q; cases q
  · rintro i m H1 ⟨rfl, hi, μ1, st1, acc, va, g1, s1, b1, d1, r1, h1⟩
    by_cases hlt : i < ps.length
    · have hp : ps[i]? = some ps[i] := by simp [hlt]
      obtain ⟨go, yl⟩ := (su μ1 H1 st1 g1 s1).1 i ps[i] hp
      refine .inr ⟨go, P (i + 1), fun H' q => ⟨ps.length - (i + 1), by omega, rfl, hlt, q⟩, fun x H2 y => ?_⟩
      obtain ⟨g2, s2, rx⟩ := yl x H2 y
      have gg2 := g1.trans g2 fun a m => (s2.ban a m).1
      rw [List.drop_eq_getElem_cons hlt] at h1
      unfold lcL at h1
      rw [M.bind_assoc] at h1
      refine tg x _ H2 _ μ1 st1 _ ps[i] ((er.mono gg2).wipe vs) s2 rx ((PostG.calm (PostG.bindAt h1 gg2)).mono fun σ3 H3 ⟨μ3, st3, ρ3, g3, s3, ⟨e3, w3⟩, h3⟩ => ⟨w3.trans (wipe_wipe fun _ z => z), ?_⟩)
      have gg3 := gg2.trans g3 fun a m => (s3.ban a m).1
      rw [M.bind_assoc] at h3
      refine ⟨μ3, st3, ρ3, e3, s3, (PostG.calm (PostG.bindAt h3 gg3)).mono fun c H4 ⟨μ4, st4, c', g4, s4, ec, h4⟩ => ?_⟩
      subst ec
      have gg4 := gg3.trans g4 fun a m => (s4.ban a m).1
      have keepD : ∀ {μa μb : Mu} {Ha Hb : Hp} {sa : Sto} {w : List V}, Gr μa Ha μb Hb → SR K μa sa Ha → D ∈ μa.b → Ha D = some (.lst w) → Hb D = some (.lst w) := fun g s m q => g.keep D _ q (s.ban D m).1
      have d2 := keepD g2 s1 b1 d1
      have b2 := g2.ban D b1
      have d3 := keepD g3 s2 b2 d2
      have b3 := g3.ban D b2
      have d4 := keepD g4 s3 b3 d3
      have b4 := g4.ban D b3
      have r4 : VRs K H4 μ4 acc va := VRs.mono g4 _ _ (VRs.mono g3 _ _ (VRs.mono g2 _ _ r1))
      cases c' with
      | false =>
        rw [if_neg Bool.false_ne_true] at h4 ⊢
        exact ⟨μ4, st4, acc, va, gg4, s4, b4, d4, r4, h4⟩
      | true =>
        rw [if_pos rfl] at h4 ⊢
        rw [M.bind_assoc] at h4
        refine ⟨μ4, st4, ρ3, e3.mono g4, s4, (PostG.calm (PostG.bindAt h4 gg4)).mono fun w H5 ⟨μ5, st5, py, g5, s5, rw5, h5⟩ => ?_⟩
        have gg5 := gg4.trans g5 fun a m => (s5.ban a m).1
        have d5 := keepD g5 s4 b4 d4
        have b5 := g5.ban D b4
        have r5 : VRs K H5 μ5 acc va := VRs.mono g5 _ _ r4
        by_cases hz : acc.length < SZ
        · rw [if_pos hz] at h5
          refine ⟨va, d5, by rw [← VRs.length r5, sz_eq]; exact hz, μ5, st5, acc ++ [py], va ++ [w], ?_, sr_bar b5 s5, b5, upd_same, VRs.monov (gv_bar b5) _ _ (VRs.append r5 (VRs.cons rw5 VRs.nil)), h5⟩
          exact ⟨gg5.pre, gg5.ban, gg5.bnew, gg5.new, fun a o q n => by rw [upd_ne (ne_of_none q hD)]; exact gg5.keep a o q n, fun a o u q => by rw [upd_ne (ne_of_none q hD)]; exact gg5.fz a o u q⟩
        · rw [if_neg hz] at h5
          exact h5.elim
    · have ei : i = ps.length := by omega
      subst ei
      rw [List.drop_length] at h1
      exact .inl ⟨(su μ1 H1 st1 g1 s1).2, le μ μ1 st st1 H H1 D acc va E Q sr hD g1 s1 b1 d1 r1 h1⟩
noncomputable def eLc (k : List PV → M PV) (mi : Rho → M (List PV)) (g : GM) (t : Rho → M Bool) (e : Rho → M PV) (vs : List Nat) : Rho → M PV := fun ρ => M.bind (mi ρ) fun ps => M.bind (lcL g t e (wipeP ρ vs) ps []) k
noncomputable def tYesM : Rho → M Bool := fun _ => M.ret true
noncomputable def MTs (X : Cx) (W : WX) (ifs : List Expr) (m : Rho → M Bool) : Prop := PTs X ifs (tMT (kw X) W m)
section
variable {X : Cx} {W : WX}
theorem PTs.imp {ifs : List Expr} {t t' : TT} (h : PTs X ifs t) (i : ∀ σ H Q, t' σ H Q → t σ H Q) : PTs X ifs t' := ⟨fun pins s σ H Q I q => h.run pins s σ H Q I (i σ H Q q)⟩
theorem mts_nil : MTs X W [] tYesM := PTs.imp pts_nil fun σ H Q ⟨μ, st, ρ, er, sr, h⟩ => h μ H true (Gr.refl _ _) sr rfl
theorem mts_one {c : Expr} {m : Rho → M Bool} (h : MT X W c m) : MTs X W [c] m := pts_one h
theorem lc_tie {mi : Rho → M (List PV)} {g0 : TG} {g : GM} {t : Rho → M Bool} {e : Rho → M PV} {k : List PV → M PV} {vs : List Nat} (tg : TGo (kw X) vs g0 g) (le : LcEnd (kw X) k) : ∀ σ H Q, tM (kw X) W (eLc k mi g t e vs) σ H Q → tLc (tMI (kw X) W mi) g0 (tMT (kw X) W0 t) (tM (kw X) W0 e) vs σ H Q :=
  fun σ H Q ⟨μ, st, ρ, er, sr, h⟩ => ⟨μ, st, ρ, er, sr, (PostG.bind h).mono fun J H1 ⟨μ1, st1, ps, g1, s1, su, h1⟩ D hD => lc_imp su (er.mono g1) s1 tg le hD h1⟩
theorem me_lc {elt tgt iter : Expr} {ifs : List Expr} {scope : Scope} {own : List (Str × Nat)} {pos : Pos} {mi : Rho → M (List PV)} {g0 : TG} {g : GM} {t : Rho → M Bool} {e : Rho → M PV} {k : List PV → M PV} (hc : X.calm = true) (hN : X.N.Nodup) (hi : MI X W tgt iter mi) (ok : BlkOk X.N X.env.scope scope own) (tg : TGo (kw X) (own.map (·.2)) g0 g) (le : LcEnd (kw X) k)
    (hg : ∀ (s : Shared) (H : Hp) (C : Addr) (cl : List (Str × Addr)) (fp : List Addr), PG (X.blk s H scope (compEnvC scope cl C X.env) fp) tgt g0)
    (ht : ∀ (s : Shared) (H : Hp) (C : Addr) (cl : List (Str × Addr)) (fp : List Addr), MTs (X.blk s H scope (compEnvC scope cl C X.env) fp) W0 ifs t)
    (he : ∀ (s : Shared) (H : Hp) (C : Addr) (cl : List (Str × Addr)) (fp : List Addr), ME (X.blk s H scope (compEnvC scope cl C X.env) fp) W0 elt e) (hs : ∀ x, foldedSetIterable iter X.env x = pure x := by intro _; kernel_rfl) :
    ME X W (.ListComp elt [⟨tgt, iter, ifs, 0⟩] scope pos) (eLc k mi g t e (own.map (·.2))) := PE.imp (pe_lc (tt := tMT (kw X) W0 t) (te := tM (kw X) W0 e) hc hN hi ok hg ht he hs) (lc_tie tg le)
end
end MP

set_option maxRecDepth 100000
set_option maxHeartbeats 1000000
namespace MP
open PySem L2
section
variable {X : Cx} {W : WX} {e : Expr} {pos : Pos} {me : Rho → M PV}
theorem ms_s {i : Nat} {x : Str} {pos' : Pos} (hN : X.N.Nodup) (he : ME X W e me) (hi : X.N[i]? = some x := by kernel_rfl) (hx : Loc X.env.scope x := by first | exact Or.inl rfl | exact Or.inr rfl) (hs : swapsWith e (some (.Name x pos')) pos.line X.env = pure false := by kernel_rfl)
    (hf : X.fn x = true ∨ X.env.scope.names.lookup x = some .local := by first | exact .inl rfl | exact .inr rfl) : MS X W (.Assign [.Name x pos'] e pos) (sSet i me) := ms_set hN hi hx he hs hf
theorem mg_n {i : Nat} {x : Str} (hN : X.N.Nodup) (hi : X.N[i]? = some x := by kernel_rfl) (hx : Loc X.env.scope x := by first | exact Or.inl rfl | exact Or.inr rfl) (hf : X.fn x = true ∨ X.env.scope.names.lookup x = some .local := by first | exact .inl rfl | exact .inr rfl) : MG X W (.Name x pos) (gN i) := mg_name hN hi hx hf
theorem pg_n {i : Nat} {x : Str} (hN : X.N.Nodup) (hi : X.N[i]? = some x := by kernel_rfl) (hx : Loc X.env.scope x := by first | exact Or.inl rfl | exact Or.inr rfl) (hf : X.fn x = true ∨ X.env.scope.names.lookup x = some .local := by first | exact .inl rfl | exact .inr rfl) : PG X (.Name x pos) (gName i) := pg_name hN hi hx hf
end
noncomputable def tyC (T : String) (x : PV) : M Unit := fun st => match x with
  | .str _ => if T = "str" then .ok () st else .bad
  | x => match listOf x st with
    | some _ => if T = "list" then .ok () st else .bad
    | none => match dctOf x st with
      | some _ => if T = "dict" then .ok () st else .bad
      | none => .bad
theorem tyC_at {K : KW} {H : Hp} {μ : Mu} {st st' : Sto} {T : String} {x : PV} {v : V} (sr : SR K μ st H) (r : VR K H μ x v) (h : tyC T x st = .ok () st') : tyV K T v H ∧ st' = st := by
  have l : ∀ xs, listOf x st = some xs → (if T = "list" then (Res.ok () st) else Res.bad) = .ok () st' → tyV K T v H ∧ st' = st := by
    intro xs hl h
    obtain ⟨a, vs, rfl, h1, _⟩ := listOf_at sr r hl
    by_cases hT : T = "list"
    · rw [if_pos hT] at h
      cases h
      exact ⟨.inl ⟨hT, vs, SqL.of h1⟩, rfl⟩
    · rw [if_neg hT] at h
      cases h
  have d : ∀ kvs, dctOf x st = some kvs → (if T = "dict" then (Res.ok () st) else Res.bad) = .ok () st' → tyV K T v H ∧ st' = st := by
    intro kvs hl h
    obtain ⟨n, a, kv, _, rfl, _, _, h1, _⟩ := dctOf_at sr r hl
    by_cases hT : T = "dict"
    · rw [if_pos hT] at h
      cases h
      exact ⟨.inr (.inr (.inl ⟨hT, .inl ⟨kv, h1⟩⟩)), rfl⟩
    · rw [if_neg hT] at h
      cases h
  have dflt : (match listOf x st with
    | some _ => if T = "list" then Res.ok () st else Res.bad
    | none => match dctOf x st with
      | some _ => if T = "dict" then Res.ok () st else Res.bad
      | none => Res.bad) = .ok () st' → tyV K T v H ∧ st' = st := by
    intro h
    cases q : listOf x st with
    | some xs => rw [q] at h; exact l xs q h
    | none =>
      rw [q] at h
      dsimp only at h
      cases q2 : dctOf x st with
      | some kvs => rw [q2] at h; exact d kvs q2 h
      | none => rw [q2] at h; cases h
  cases x with
  | str z =>
    cases (show v = V.str ⟨z.toArray⟩ from r)
    unfold tyC at h
    dsimp only at h
    by_cases hT : T = "str"
    · rw [if_pos hT] at h
      cases h
      exact ⟨hT, rfl⟩
    · rw [if_neg hT] at h
      cases h
  | _ => exact dflt h
noncomputable def eMeth (T : String) (f : PV → List PV → M PV) (mo : Rho → M PV) (ma : Rho → M (List PV)) : Rho → M PV := fun ρ => M.bind (mo ρ) fun o => M.bind (tyC T o) fun _ => M.bind (ma ρ) fun xs => f o xs
noncomputable def TMe (K : KW) (r : V → List V → Hp → VK → Prop) (f : PV → List PV → M PV) : Prop := ∀ (μ : Mu) (st : Sto) (H : Hp) (o : PV) (xs : List PV) (u : V) (us : List V) (E : XK) (Q : VK), SR K μ st H → VR K H μ o u → VRs K H μ xs us → PostG K E (VR K) Q μ H (f o xs st) → r u us H Q
section
variable {X : Cx} {W : WX} {o e : Expr} {es : List Expr} {name : Str} {apos cpos : Pos} {T id : String} {r : V → List V → Hp → VK → Prop} {f : PV → List PV → M PV} {mo : Rho → M PV} {ma : Rho → M (List PV)}
theorem meth_ty {μ : Mu} {st : Sto} {H : Hp} {x : PV} {v : V} {α β : Type} {E : XK} {R : Hp → Mu → α → β → Prop} {Q : β → Hp → Prop} {k : Unit → M α} (sr : SR (kw X) μ st H) (rx : VR X.K H μ x v) (h : PostG (kw X) E R Q μ H (M.bind (tyC T x) k st)) : tyV X.K T v H ∧ PostG (kw X) E R Q μ H (k () st) := by
  unfold M.bind at h
  cases q : tyC T x st with
  | ok a st' =>
    rw [q] at h
    obtain ⟨h1, rfl⟩ := tyC_at sr rx q
    exact ⟨h1, h⟩
  | err y st' =>
    exfalso
    unfold tyC at q
    repeat (first | split at q | cases q)
  | bad => rw [q] at h; exact h.elim
theorem me_meth (pa : PySem.PlainAttrs T) (slot : PySem.Slot T name id) (hty : typeOf (.builtin id) = pure (.type "method_descriptor")) (hm : MtR X id r) (t : TMe (kw X) r f) (ho : ME X W o mo) (ha : MA X W (e :: es) ma)
    (hbase : attributeBase o name X.env (eval o X.env) = eval o X.env := by kernel_rfl)
    (hfew : ((backTo cpos (starEach (e :: es) X.env)).all (fun x => !x.1) && (backToKw cpos (keywordEach [] X.env)).all (fun x => x.1.isSome)
      && decide ((e :: es).length + ([] : List Keyword).length + (if ([] : List Keyword).isEmpty then 0 else 1) < 30)) = true := by kernel_rfl)
    (hline : (apos.endLine == cpos.line) = true := by kernel_rfl) (hs : starEach (e :: es) X.env = (false, eval e X.env) :: starEach es X.env := by kernel_rfl) (hplain : (backTo cpos (starEach es X.env)).any (·.1) = false := by kernel_rfl) :
    ME X W (.Call (.Attribute o name apos) (e :: es) [] cpos) (eMeth T f mo ma) :=
  PE.imp (pe_bm pa slot hty hm ho ha hbase hfew hline hs hplain) fun σ H Q ⟨μ, st, ρ, er, sr, h⟩ => ⟨μ, st, ρ, er, sr, (PostG.bind h).mono fun u H1 ⟨μ1, st1, x, g1, s1, rx, h1⟩ => by
    obtain ⟨h2, h3⟩ := meth_ty s1 rx h1
    exact ⟨h2, μ1, st1, ρ, er.mono g1, s1, (PostG.bind h3).mono fun us H2 ⟨μ2, st2, xs, g2, s2, rxs, h4⟩ => t μ2 st2 H2 x xs u us _ Q s2 (VR.mono g2 x u rx) rxs h4⟩⟩
end
noncomputable def lstCell (o : PV) (st : Sto) : Option (Nat × List PV) := match o with
  | .loc n => match st[n]? with
    | some (.lst xs) => some (n, xs)
    | _ => none
  | _ => none
theorem lstCell_at {K : KW} {H : Hp} {μ : Mu} {st : Sto} {x : PV} {v : V} {n : Nat} {xs : List PV} (sr : SR K μ st H) (r : VR K H μ x v) (h : lstCell x st = some (n, xs)) : ∃ a vs, v = .ref a ∧ μ.l[n]? = some a ∧ H a = some (.lst vs) ∧ VRs K H μ xs vs := by
  cases x with
  | loc m =>
    obtain ⟨a, rfl, ha⟩ := loc_at r
    unfold lstCell at h
    dsimp only at h
    cases q : st[m]? with
    | none => rw [q] at h; cases h
    | some c =>
      rw [q] at h
      cases c with
      | lst ys =>
        cases h
        obtain ⟨vs, h1, h2⟩ := sr.cell n _ a q ha
        exact ⟨a, vs, rfl, ha, h1, h2⟩
      | dct kvs => cases h
      | ins C fs => cases h
      | dcl kvs => cases h
      | dcn kvs => cases h
      | lck kvs => cases h
  | _ => cases h
noncomputable def appendM (o : PV) (xs : List PV) : M PV := fun st => match lstCell o st with
  | some (n, ys) => match xs with
    | [x] => if ys.length < SZ then .ok .non (st.set n (.lst (ys ++ [x]))) else .bad
    | _ => .bad
  | none => .bad
theorem t_append {K : KW} : TMe K rAppend appendM := by
  intro μ st H o xs u us E Q sr ro rs h
  unfold appendM at h
  cases q : lstCell o st with
  | none => rw [q] at h; exact h.elim
  | some p =>
    obtain ⟨n, ys⟩ := p
    rw [q] at h
    dsimp only at h
    cases xs with
    | nil => exact h.elim
    | cons x t =>
      cases t with
      | cons y t => exact h.elim
      | nil =>
        dsimp only at h
        by_cases hz : ys.length < SZ
        · rw [if_pos hz] at h
          obtain ⟨a, vs, rfl, ha, h1, h2⟩ := lstCell_at sr ro q
          obtain ⟨w, rfl, rw'⟩ := one_of rs
          refine ⟨a, vs, w, rfl, rfl, h1, by rw [← VRs.length h2, sz_eq]; exact hz, ?_⟩
          exact h μ _ .non (gr_put ha h1 rfl) (sr.put ha ⟨_, upd_same, VRs.monov (gv_put ha) _ _ (VRs.append h2 (VRs.cons rw' VRs.nil))⟩) rfl
        · rw [if_neg hz] at h
          exact h.elim
section
variable {X : Cx} {W : WX} {o e : Expr} {apos cpos : Pos} {mo : Rho → M PV} {ma : Rho → M (List PV)}
theorem me_append (ho : ME X W o mo) (ha : MA X W [e] ma)
    (hbase : attributeBase o "append" X.env (eval o X.env) = eval o X.env := by kernel_rfl)
    (hfew : ((backTo cpos (starEach [e] X.env)).all (fun x => !x.1) && (backToKw cpos (keywordEach [] X.env)).all (fun x => x.1.isSome)
      && decide ([e].length + ([] : List Keyword).length + (if ([] : List Keyword).isEmpty then 0 else 1) < 30)) = true := by kernel_rfl)
    (hline : (apos.endLine == cpos.line) = true := by kernel_rfl) (hs : starEach [e] X.env = (false, eval e X.env) :: starEach [] X.env := by kernel_rfl) :
    ME X W (.Call (.Attribute o "append" apos) [e] [] cpos) (eMeth "list" appendM mo ma) :=
  me_meth PySem.F.plainAttrs_list PySem.F.slot_list_append PySem.F.type_list_append mt_append t_append ho ha hbase hfew hline hs rfl
end
theorem FnOk.ex {P : Program} {w : World} {K : PySem.W.Frag} {mg : Str → Option Value} {base : Heap} {CX : CXT} {k : Nat} {f : Addr} {fd : FuncData} {ps : List Str} {sp : Nat → Sp} (F : ∀ n, FnOk P w K mg base CX k f fd ps (sp n)) : FnOk P w K mg base CX k f fd ps (fun vs H Q E => ∃ n, sp n vs H Q E) :=
  ⟨fun vs H Q E ⟨n, h⟩ => (F n).len vs H Q E h, fun A outer s H args us vs Q E hr he hb hv ⟨n, h⟩ => (F n).run A outer s H args us vs Q E hr he hb hv h⟩
theorem law_sp {K : KW} {m : Nat → List PV → M PV} {ns : List Int} {n : Nat} {st : Sto} {H : Hp} {a : Addr} (hS : SqL K H a (ns.map V.int)) (h : m n [.frz (ns.map .int)] [] = .ok (.bl true) st) :
    ∃ n, spM K (m n) 1 [.ref a] H (fun v _ => v = .bl true) (fun _ _ _ => False) := by
  refine ⟨n, ⟨[], []⟩, [], [.frz (ns.map .int)], ⟨rfl, List.nodup_nil, fun a m => (nomatch m), fun n c a e => by simp at e⟩, VRs.cons ?_ VRs.nil, rfl, ?_⟩
  · refine (show ∃ b vs, V.ref a = .ref b ∧ FrzAt K H ⟨[], []⟩ b vs ∧ VRs K H ⟨[], []⟩ (ns.map .int) vs from ⟨a, _, rfl, ?_, VRs.ints⟩)
    rcases hS with hS | hS
    · exact .inl ⟨hS, fun m => by rcases m with m | m <;> exact (nomatch m)⟩
    · exact .inr hS
  · rw [h]
    exact fun μ' H' b g s r => r
theorem cx_false {P : Program} {w : World} (H : Hp) (s : Shared) (e : Value) (s' : Shared) (h : L2.CX P w [] H s (fun _ _ _ => False) e s') : False := by
  obtain ⟨_, _, _, _, _, _, _, _, _, _, _, _, z⟩ := h
  exact z.elim
end MP

set_option maxRecDepth 100000
set_option maxHeartbeats 1000000
namespace MP
open PySem L2
section
variable {X : Cx} {W : WX} {e a b c : Expr} {pos : Pos} {me : Rho → M PV}
noncomputable def KV1 (K : PySem.W.Frag) (p : PV) (u : Value) : Prop := ∃ v, RelV v u ∧ ∀ H μ, VR K H μ p v
noncomputable def KVs (K : PySem.W.Frag) : List PV → List Value → Prop
  | [], us => us = []
  | p :: ps, us => ∃ u t, us = u :: t ∧ KV1 K p u ∧ KVs K ps t
theorem KVs.vals {K : PySem.W.Frag} : ∀ {ps : List PV} {us : List Value}, KVs K ps us → ∃ vs, Vals vs us ∧ ∀ H μ, VRs K H μ ps vs
  | [], us, h => by have e : us = [] := h; subst e; exact ⟨[], .nil, fun _ _ => rfl⟩
  | p :: ps, us, h => by
    obtain ⟨u, t, rfl, ⟨v, r, hv⟩, ht⟩ := h
    obtain ⟨vs, r2, h2⟩ := KVs.vals ht
    exact ⟨v :: vs, .cons r r2, fun H μ => VRs.cons (hv H μ) (h2 H μ)⟩
noncomputable def TupIn (K : PySem.W.Frag) (a : Addr) (ps : List PV) : Prop := ∃ (o : Obj) (its : List Value) (n : Nat), K.lookup a = some o ∧ o.cls = .type "tuple" ∧ o.data = .seq its.toArray n ∧ its.length ≤ SZ ∧ KVs K ps its
theorem TupIn.kt {K : PySem.W.Frag} {a : Addr} {ps : List PV} (h : TupIn K a ps) : ∃ vs, KT K a vs ∧ ∀ H μ, VRs K H μ ps vs := by
  obtain ⟨o, its, n, h1, h2, h3, h4, h5⟩ := h
  obtain ⟨vs, r, hv⟩ := KVs.vals h5
  exact ⟨vs, ⟨o, its.toArray, n, h1, h2, h3, by rw [List.size_toArray, sz_eq]; exact h4, by simpa using r⟩, hv⟩
theorem TupIn.val {K : PySem.W.Frag} {a : Addr} {ps : List PV} (h : TupIn K a ps) : KV1 K (.tup ps) (.ref a) := by
  obtain ⟨vs, kt, hv⟩ := h.kt
  exact ⟨.ref a, rfl, fun H μ => (show ∃ b ws, V.ref a = .ref b ∧ TupAt K H μ b ws ∧ VRs K H μ ps ws from ⟨a, vs, rfl, .inr kt, hv H μ⟩)⟩
noncomputable def RowsT (K : PySem.W.Frag) : List (List Nat × PV) → List DictEntry → Prop
  | [], es => es = []
  | p :: r, es => ∃ e t, es = e :: t ∧ (∃ tk, e.key = .str ⟨p.1.toArray⟩ tk) ∧ KV1 K p.2 e.val ∧ RowsT K r t
noncomputable def TabIn (w : World) (K : PySem.W.Frag) (a : Addr) (tab : List (List Nat × PV)) : Prop := ∃ (es : List DictEntry) (n : Nat), K.lookup a = some ⟨.type "dict", none, .dict es.toArray n, #[]⟩ ∧ PySem.W.KeysLit w.params es ∧ (a == sysModules) = false ∧ RowsT K tab es
noncomputable def lookT : List (List Nat × PV) → List Nat → Option PV
  | [], _ => none
  | p :: r, k => if p.1 = k then some p.2 else lookT r k
theorem RowsT.find {K : PySem.W.Frag} {z : List Nat} : ∀ {tab : List (List Nat × PV)} {es : List DictEntry}, RowsT K tab es → (lookT tab z = none → (es.find? fun e => Value.isStrOf ⟨z.toArray⟩ e.key) = none) ∧ ∀ p, lookT tab z = some p → ∃ e, (es.find? fun e => Value.isStrOf ⟨z.toArray⟩ e.key) = some e ∧ KV1 K p e.val
  | [], es, h => by have e : es = [] := h; subst e; exact ⟨fun _ => rfl, fun p q => (nomatch q)⟩
  | q :: r, es, h => by
    obtain ⟨e, t, rfl, ⟨tk, ek⟩, hv, hr⟩ := h
    obtain ⟨i1, i2⟩ := RowsT.find (z := z) hr
    have hk : Value.isStrOf ⟨z.toArray⟩ e.key = decide (q.1 = z) := by
      rw [ek]
      show ((⟨q.1.toArray⟩ : Str) == ⟨z.toArray⟩) = decide (q.1 = z)
      rw [Bool.eq_iff_iff]
      simp
    unfold lookT
    rw [List.find?_cons, hk]
    by_cases hq : q.1 = z
    · rw [if_pos hq, decide_eq_true hq]
      exact ⟨fun z => (nomatch z), fun p hp => by cases hp; exact ⟨e, rfl, hv⟩⟩
    · rw [if_neg hq, decide_eq_false hq]
      exact ⟨i1, i2⟩
noncomputable def getTab (tab : List (List Nat × PV)) (x : PV) : M PV := match x with
  | .str z => M.ret ((lookT tab z).getD .non)
  | _ => M.fail
noncomputable def eChain (f g : PV → PV → M PV) (ma mb mc : Rho → M PV) : Rho → M PV := fun ρ => M.bind (ma ρ) fun x => M.bind (mb ρ) fun y => M.bind (f x y) fun z => M.bind (asB z) fun k => if k = true then M.bind (mc ρ) fun w => g y w else M.ret (.bl false)
variable {ma mb mc : Rho → M PV} {f g : PV → PV → M PV} {r r' : R2}
end
end MP

set_option maxRecDepth 100000
set_option maxHeartbeats 1000000
namespace MP
open PySem L2
section
variable {w : World} {K : PySem.W.Frag} {a : Addr}
theorem TabIn.of {es : Array DictEntry} {n : Nat} {tab : List (List Nat × PV)} (hl : K.lookup a = some ⟨.type "dict", none, .dict es n, #[]⟩) (hk : PySem.W.KeysLit w.params es.toList) (low : (a == sysModules) = false) (rows : RowsT K tab es.toList) : TabIn w K a tab := ⟨es.toList, n, by simpa using hl, hk, low, rows⟩
theorem RowsT.nil : RowsT K [] [] := rfl
theorem RowsT.row {s : String} {l : List Nat} {p : PV} {r : List (List Nat × PV)} {h : Int} {tk : Tok} {v : Value} {es : List DictEntry} (e : Str.ofString s = ⟨l.toArray⟩) (hv : KV1 K p v) (hr : RowsT K r es) : RowsT K ((l, p) :: r) (⟨h, .str (Str.ofString s) tk, v⟩ :: es) :=
  ⟨_, _, rfl, ⟨tk, by rw [e]⟩, hv, hr⟩
theorem KV1.non : KV1 K .non Value.none := ⟨.non, rfl, fun _ _ => rfl⟩
theorem KV1.bl {b : Bool} : KV1 K (.bl b) (Value.bool b) := ⟨.bl b, rfl, fun _ _ => rfl⟩
theorem KV1.int {i : Int} {t : Tok} : KV1 K (.int i) (Value.int i t) := ⟨.int i, ⟨t, rfl⟩, fun _ _ => rfl⟩
theorem KV1.str {l : List Nat} {s : String} {t : Tok} (e : Str.ofString s = ⟨l.toArray⟩) : KV1 K (.str l) (Value.str (Str.ofString s) t) := ⟨.str ⟨l.toArray⟩, ⟨t, by rw [e]⟩, fun _ _ => rfl⟩
theorem KVs.nil : KVs K [] [] := rfl
theorem KVs.cons {p : PV} {ps : List PV} {v : Value} {vs : List Value} (h : KV1 K p v) (r : KVs K ps vs) : KVs K (p :: ps) (v :: vs) := ⟨v, vs, rfl, h, r⟩
theorem TupIn.of {its : Array Value} {n : Nat} {dd : Option Addr} {sl : Array (Option Value)} {ps : List PV} (hl : K.lookup a = some ⟨.type "tuple", dd, .seq its n, sl⟩) (hn : its.toList.length ≤ SZ) (hv : KVs K ps its.toList) : TupIn K a ps := ⟨_, its.toList, n, hl, rfl, by simp, hn, hv⟩
end
theorem def_okF {P : Program} {w : World} {K : PySem.W.Frag} {mg : Str → Option Value} {base : Heap} {x qual : Str} {st : Stmt} {f : Addr} {fd : FuncData} (N ps : List Str) {k kk nn : Nat} (m : Rho → M Fl) {g : List PV → M PV} (hg : g = runB m kk) (hN : N.length = kk) (hn : ps.length = nn) (F : Fun K x qual st f fd) (S : FnScope N ps (defScope st))
    (hb : ∀ (cdv : Value) (A : Around) (outer : List Env) (s : Shared) (H : Hp) (E : XK), Room k (A.deeper (PyProof.Rows.envOfC qual (defScope st) s.heap.objs.size f cdv)) →
      MSs (cxOf (L2.CX P w) P w K mg base N qual (defScope st) f cdv A outer s H E) (fun c d _ H => E c d H) (defBody st) m) :
    FnOk P w K mg base (L2.CX P w) (k + 1) f fd ps (spM ⟨w, K⟩ g nn) := by
  subst hg hN hn
  exact def_ok F S hb
end MP

set_option maxRecDepth 100000
set_option maxHeartbeats 1000000
namespace MP
open PySem L2
theorem VRs.strs {K : PySem.W.Frag} {H : Hp} {μ : Mu} : ∀ zs : List (List Nat), VRs K H μ (zs.map .str) ((zs.map SX.S).map V.str)
  | [] => rfl
  | z :: zs => VRs.cons rfl (VRs.strs zs)
section
variable {X : Cx} {W : WX} {o e e2 : Expr} {apos cpos : Pos} {mo : Rho → M PV} {ma : Rho → M (List PV)}
end
end MP

set_option maxRecDepth 100000
set_option maxHeartbeats 1000000
namespace MP
open PySem L2 PySem.Spec PyProof.Rows
noncomputable def inTab (n : Bool) (tab : List (List Nat × PV)) (x : PV) : M PV := match x with
  | .str z => M.ret (.bl (ng n (lookT tab z).isSome))
  | _ => M.fail
theorem TabIn.isSome {w : World} {K : PySem.W.Frag} {tab : List (List Nat × PV)} {es : List DictEntry} (rows : RowsT K tab es) (z : List Nat) : (PySem.findBy Value.isStrOf es.toArray (⟨z.toArray⟩ : Str)).isSome = (lookT tab z).isSome := by
  have q := RowsT.find (z := z) rows
  unfold PySem.findBy
  rw [List.find?_toArray]
  cases hq : lookT tab z with
  | none => rw [q.1 hq]; rfl
  | some p => obtain ⟨e, e1, _⟩ := q.2 p hq; rw [e1]; rfl
section
variable {X : Cx} {W : WX} {e : Expr} {pos : Pos} {me : Rho → M PV} {x : Str} {tab : List (List Nat × PV)} {p : Pos}
end
noncomputable def intS (i : Int) : List Nat := (PySem.Str.ofString (toString i)).cps.toList
noncomputable def strM (xs : List PV) : M PV := match xs with
  | [.int i] => if i.natAbs.log2 < 1920 then M.ret (.str (intS i)) else M.fail
  | [.str a] => M.ret (.str a)
  | _ => M.fail
section
variable {X : Cx}
theorem CallR.or {f : Value} {r r' : List V → Hp → VK → Prop} (h : CallR X f r) (h' : CallR X f r') : CallR X f (fun xs H Q => r xs H Q ∨ r' xs H Q) := by
  intro pins s σ H xs us Q I rs q
  rcases q with q | q
  · exact h pins s σ H xs us Q I rs q
  · exact h' pins s σ H xs us Q I rs q
variable {W : WX} {e : Expr} {p pos : Pos} {ma : Rho → M (List PV)}
end
section
variable {X : Cx} {W : WX} {e : Expr} {p pos : Pos} {ma : Rho → M (List PV)}
end
section
variable {X : Cx} {W : WX} {o e : Expr} {apos cpos : Pos} {mo : Rho → M PV} {ma : Rho → M (List PV)}
end
end MP

set_option maxRecDepth 100000
set_option maxHeartbeats 1000000
namespace MP
open PySem L2 PySem.Spec PyProof.Rows
inductive Sk where
  | l (a : Addr)
  | t (a : Addr)
  | s (x : Str)
noncomputable def Sk.val : Sk → V
  | .l a => .ref a
  | .t a => .ref a
  | .s x => .str x
noncomputable def Sk.ty : Sk → String
  | .l _ => "list_iterator"
  | .t _ => "tuple_iterator"
  | .s x => strIterType x
noncomputable def Sk.at (K : PySem.W.Frag) (H : Hp) : Sk → List V → Prop
  | .l a, xs => SqL K H a xs
  | .t a, xs => SqT K H a xs
  | .s x, xs => xs = x.cps.toList.map fun c => V.str ⟨#[c]⟩
noncomputable def ItS (T : String) (u : Value) (it : Addr) (i : Nat) (h : Heap) : Prop := ∃ o, h.get? it = some o ∧ o.cls = .type T ∧ o.data = .fields #[u, .int i 0]
theorem ItS.at {T : String} {u : Value} {it : Addr} {i : Nat} {h h' : Heap} (st : ItS T u it i h) (k : ∀ o, h.get? it = some o → h'.get? it = some o) : ItS T u it i h' :=
  let ⟨o, e, r⟩ := st
  ⟨o, k o e, r⟩
noncomputable def IterOf (u : Value) (T : String) (h : Heap) : Prop :=
  (∃ l items, u = .ref l ∧ T = "list_iterator" ∧ h.IsList l items) ∨ (∃ l items, u = .ref l ∧ T = "tuple_iterator" ∧ h.IsTuple l items) ∨ ∃ x t, u = .str x t ∧ T = strIterType x
theorem IterOf.push {u : Value} {T : String} {h : Heap} (k : IterOf u T h) (o : Obj) : IterOf u T (h.push o) := by
  rcases k with ⟨l, is, e, e', k⟩ | ⟨l, is, e, e', k⟩ | k
  · exact .inl ⟨l, is, e, e', k.push _⟩
  · exact .inr (.inl ⟨l, is, e, e', k.push _⟩)
  · exact .inr (.inr k)
section
variable {prog : Program} {w : World} {A : Around} {E : Value → Shared → Prop} {s : Shared}
end
section
variable {prog : Program} {w : World} {A : Around} {E : Value → Shared → Prop} {s : Shared}
end
noncomputable def zipP : List PV → List PV → List PV
  | x :: xs, y :: ys => .tup [x, y] :: zipP xs ys
  | _, _ => []
section
variable {K : KW} {H : Hp} {μ : Mu} {ps qs : List PV} {vs ws : List V}
end
noncomputable def skOf : PV → Option (List PV)
  | .tup ps => some ps
  | .lst ps => some ps
  | .frz ps => some ps
  | .str x => some (x.map fun c => .str [c])
  | _ => none
noncomputable def zipM (xs : List PV) : M (List PV) := match xs with
  | [p, q] => match skOf p, skOf q with
    | some ps, some qs => M.ret (zipP ps qs)
    | _, _ => M.fail
  | _ => M.fail
section
variable {X : Cx} {W : WX} {e e2 : Expr} {p pos : Pos} {ma : Rho → M (List PV)}
end
theorem fnOk_no {P : Program} {w : World} {K : PySem.W.Frag} {mg : Str → Option Value} {base : Heap} {k : Nat} {f : Addr} {fd : FuncData} {ps : List Str} {nn : Nat} : FnOk P w K mg base (L2.CX P w) k f fd ps (spM ⟨w, K⟩ (fun _ => M.fail) nn) :=
  ⟨fun vs H Q E h => let ⟨_, _, _, _, _, _, h⟩ := h; h.elim, fun _ _ _ _ _ _ _ _ _ _ _ _ _ h => let ⟨_, _, _, _, _, _, h⟩ := h; h.elim⟩
section
variable {X : Cx} {W : WX} {pos : Pos}
end
end MP

set_option maxRecDepth 100000
set_option maxHeartbeats 1000000
namespace MP
open PySem L2
noncomputable def forG (G : Sto → Bool) (g : GM) (b : Rho → M Fl) : List PV → Rho → M Fl
  | [], ρ => fun st => if G st = true then .ok (.next ρ) st else .bad
  | p :: ps, ρ => fun st => if G st = true then onErr ρ (g p ρ) (fun ρ1 => turnL (forG G g b ps) (b ρ1)) st else .bad
noncomputable def SupG (K : KW) (J : It) (ps : List PV) (G : Sto → Bool) (μ0 : Mu) (H0 : Hp) : Prop :=
  ∀ μ H st, Gr μ0 H0 μ H → SR K μ st H → G st = true → (∀ (i : Nat) (p : PV), ps[i]? = some p → J.go i H ∧ ∀ x H', J.yld i H x H' → Gr μ H μ H' ∧ SR K μ st H' ∧ VR K H' μ p x) ∧ J.stop ps.length H
theorem PostS.ifG {K : KW} {W : WX} {D : Ends} {μ : Mu} {H : Hp} {c : Bool} {r : Res Fl} (h : PostS K W D μ H (if c = true then r else .bad)) : c = true ∧ PostS K W D μ H r := by
  cases c with
  | true => exact ⟨rfl, h⟩
  | false => exact h.elim
theorem PostG.ifG {α β : Type} {K : KW} {E : XK} {R : Hp → Mu → α → β → Prop} {Q : β → Hp → Prop} {μ : Mu} {H : Hp} {c : Bool} {r : Res α} (h : PostG K E R Q μ H (if c = true then r else .bad)) : c = true ∧ PostG K E R Q μ H r := by
  cases c with
  | true => exact ⟨rfl, h⟩
  | false => exact h.elim
theorem for_impG {K : KW} {W : WX} {D : Ends} {J : It} {ps : List PV} {G : Sto → Bool} {g : GM} {b : Rho → M Fl} {μ : Mu} {H : Hp} {σ : St} {ρ : Rho} {st : Sto} (su : SupG K J ps G μ H) (er : ER K H μ ρ σ) (sr : SR K μ st H) (h : PostS K W D μ H (forG G g b ps ρ st)) :
    ∃ V : Nat → Nat → St → Hp → Prop, (∃ m, V 0 m σ H) ∧ ∀ i m σ H, V i m σ H →
      (J.stop i H ∧ D.nx σ H) ∨ (J.go i H ∧ ∃ N : St → Hp → Prop, (∀ σ' H', N σ' H' → ∃ m', m' < m ∧ V (i + 1) m' σ' H') ∧ ∀ x H', J.yld i H x H' → tMG K W g x σ H' fun σ2 H2 => tMS K W b { D with nx := N, ct := N, bk := D.nx } σ2 H2) := by
  refine ⟨fun i m σ' H' => m = ps.length - i ∧ i ≤ ps.length ∧ ∃ μ' st' ρ', Gr μ H μ' H' ∧ ER K H' μ' ρ' σ' ∧ SR K μ' st' H' ∧ PostS K W D μ' H' (forG G g b (ps.drop i) ρ' st'), ⟨ps.length, by simp, Nat.zero_le _, μ, st, ρ, Gr.refl _ _, er, sr, by rw [List.drop_zero]; exact h⟩, ?_⟩
  rintro i m σ1 H1 ⟨rfl, hi, μ1, st1, ρ1, g1, e1, s1, h1⟩
  by_cases hlt : i < ps.length
  · have hp : ps[i]? = some ps[i] := by simp [hlt]
    rw [List.drop_eq_getElem_cons hlt] at h1
    unfold forG at h1
    obtain ⟨hG, h1⟩ := PostS.ifG h1
    obtain ⟨go, yl⟩ := (su μ1 H1 st1 g1 s1 hG).1 i ps[i] hp
    refine .inr ⟨go, fun σ' H' => ∃ μ' st' ρ', Gr μ H μ' H' ∧ ER K H' μ' ρ' σ' ∧ SR K μ' st' H' ∧ PostS K W D μ' H' (forG G g b (ps.drop (i + 1)) ρ' st'), fun σ' H' q => ⟨ps.length - (i + 1), by omega, rfl, hlt, q⟩, fun x H' y => ?_⟩
    obtain ⟨g2, s2, rx⟩ := yl x H' y
    refine ⟨μ1, st1, ρ1, ps[i], e1.mono g2, s2, rx, (PostS.onErr (PostS.grow h1 g2) (e1.mono g2)).mono fun σ3 H3 ⟨μ3, st3, ρ3, g3, s3, e3, h3⟩ => ⟨μ3, st3, ρ3, e3, s3, ?_⟩⟩
    have gg := (g1.trans g2 fun a m => (s2.ban a m).1).trans g3 fun a m => (s3.ban a m).1
    unfold turnL at h3
    cases q : b ρ3 st3 with
    | ok f st' =>
      rw [q] at h3
      cases f with
      | next ρ' => exact fun μ' H' σ' g4 s4 e4 => ⟨μ', st', ρ', gg.trans g4 (fun a m => (s4.ban a m).1), e4, s4, PostS.grow h3 g4⟩
      | cont ρ' => exact fun μ' H' σ' g4 s4 e4 => ⟨μ', st', ρ', gg.trans g4 (fun a m => (s4.ban a m).1), e4, s4, PostS.grow h3 g4⟩
      | brk ρ' => exact h3
      | ret p => exact h3
      | exc x ρ' => exact h3
    | err x st' => rw [q] at h3; exact h3
    | bad => rw [q] at h3; exact h3
  · have e : i = ps.length := by omega
    subst e
    rw [List.drop_length] at h1
    unfold forG at h1
    obtain ⟨hG, h1⟩ := PostS.ifG h1
    exact .inl ⟨(su μ1 H1 st1 g1 s1 hG).2, h1 μ1 H1 σ1 (Gr.refl _ _) s1 e1⟩
noncomputable def gd (n : Nat) (xs : List PV) (st : Sto) : Bool := match st[n]? with
  | some (.lst ys) => decide (ys = xs)
  | _ => false
noncomputable def atCell (v : PV) : M (Nat × List PV) := fun st => match v with
  | .loc n => match st[n]? with
    | some (.lst xs) => .ok (n, xs) st
    | _ => .bad
  | _ => .bad
noncomputable def iCell (m : Rho → M PV) : Rho → M (Nat × List PV) := fun ρ => M.bind (m ρ) atCell
noncomputable def enumP (xs : List PV) : List PV := xs.mapIdx fun i p => .tup [.int (i : Nat), p]
theorem gd_at {n : Nat} {xs : List PV} {st : Sto} (h : gd n xs st = true) : st[n]? = some (.lst xs) := by
  unfold gd at h
  split at h
  · rename_i ys e
    rw [e, of_decide_eq_true h]
  · cases h
theorem sup_cell {K : KW} {H : Hp} {μ : Mu} {a : Addr} {n : Nat} {xs : List PV} (ha : μ.l[n]? = some a) : SupG K (Itl K a) xs (gd n xs) μ H := fun μ' H' st g sr hG => by
  obtain ⟨vs, q0, r⟩ := sr.cell n _ a (gd_at hG) (g.get ha)
  have q : SqL K H' a vs := SqL.of q0
  refine ⟨fun i p hp => ?_, ⟨vs, q, by rw [VRs.length r]; exact Nat.le_refl _⟩⟩
  obtain ⟨v, e1, e2⟩ := VRs.get r hp
  refine ⟨⟨vs, v, q, e1⟩, fun x H2 ⟨eh, y⟩ => ?_⟩
  subst eh
  have ex : v = x := Option.some.inj (e1.symm.trans (y vs q))
  subst ex
  exact ⟨Gr.refl _ _, sr, e2⟩
section
variable {X : Cx} {W : WX} {tg e : Expr} {me : Rho → M PV}
variable {pos : Pos} {m : Rho → M Fl}
noncomputable def sForC (f : List PV → List PV) (mi : Rho → M (Nat × List PV)) (g : GM) (b : Rho → M Fl) : Rho → M Fl := fun ρ => onErr ρ (mi ρ) fun nx => forG (gd nx.1 nx.2) g b (f nx.2) ρ
end
noncomputable def lcG (G : Sto → Bool) (g : GM) (t : Rho → M Bool) (e : Rho → M PV) (ρ0 : Rho) : List PV → List PV → M (List PV)
  | [], acc => fun st => if G st = true then .ok acc st else .bad
  | p :: ps, acc => fun st => if G st = true then (M.bind (M.calm (g p ρ0)) fun ρ1 => M.bind (M.calm (t ρ1)) fun c => if c = true then M.bind (M.calm (e ρ1)) fun y => if acc.length < SZ then lcG G g t e ρ0 ps (acc ++ [y]) else M.fail else lcG G g t e ρ0 ps acc) st else .bad
theorem bind_ifG {α β : Type} {G : Sto → Bool} {m : M α} {k : α → M β} : M.bind (fun st => if G st = true then m st else .bad) k = fun st => if G st = true then M.bind m k st else .bad := by
  funext st
  unfold M.bind
  dsimp only
  cases G st <;> rfl
theorem lc_impG {K : KW} {E : XK} {Q : VK} {J : It} {ps : List PV} {G : Sto → Bool} {g0 : TG} {g : GM} {t : Rho → M Bool} {e : Rho → M PV} {k : List PV → M PV} {vs : List Nat} {μ : Mu} {H : Hp} {σ : St} {ρ : Rho} {st : Sto} {D : Addr} (su : SupG K J ps G μ H) (er : ER K H μ ρ σ) (sr : SR K μ st H) (tg : TGo K vs g0 g) (le : LcEnd K k)
    (hD : H D = none) (h : PostG K E (VR K) Q μ H (M.bind (lcG G g t e (wipeP ρ vs) ps []) k st)) :
    ∃ V : Nat → Nat → Hp → Prop, (∃ m, V 0 m (upd H D (.lst []))) ∧ ∀ i m H, V i m H →
      (J.stop i H ∧ Q (.ref D) H) ∨ (J.go i H ∧ ∃ Nx : Hp → Prop, (∀ H', Nx H' → ∃ m', m' < m ∧ V (i + 1) m' H') ∧ ∀ x H', J.yld i H x H' → g0 x (L2.wipe σ vs) H' fun σ2 H2 => L2.wipe σ2 vs = L2.wipe σ vs ∧ tMT K W0 t σ2 H2 fun b H3 =>
        if b = true then tM K W0 e σ2 H3 fun y H4 => ∃ acc, H4 D = some (.lst acc) ∧ acc.length < sizeLine ∧ Nx (upd H4 D (.lst (acc ++ [y]))) else Nx H3) := by
  let P : Nat → Hp → Prop := fun i H' => ∃ μ' st' acc va, Gr μ H μ' H' ∧ SR K μ' st' H' ∧ D ∈ μ'.b ∧ H' D = some (.lst va) ∧ VRs K H' μ' acc va ∧ PostG K E (VR K) Q μ H (M.bind (lcG G g t e (wipeP ρ vs) (ps.drop i) acc) k st')
  refine ⟨fun i m H' => m = ps.length - i ∧ i ≤ ps.length ∧ P i H', ⟨ps.length, by simp, Nat.zero_le _, ?_⟩, ?_⟩
  · have gb : Gr μ H (μ.bar D) (upd H D (.lst [])) := ⟨⟨[], by simp [Mu.bar]⟩, fun a m => List.mem_cons_of_mem _ m, fun a m => by
      rcases List.mem_cons.mp m with z | z
      · rw [z]; exact .inr hD
      · exact .inl z, fun a m => .inl m, fun a o q _ => by rw [upd_ne (ne_of_none q hD)]; exact q, fun a o u q => by rw [upd_ne (ne_of_none q hD)]; exact q⟩
    refine ⟨μ.bar D, st, [], [], gb, ?_, List.mem_cons_self, upd_same, rfl, by rw [List.drop_zero]; exact h⟩
    refine ⟨sr.len, sr.nd, fun a m => ?_, fun n c a e1 e2 => (sr.cell n c a e1 e2).mono gb (upd_ne fun z => ?_)⟩
    · rcases List.mem_cons.mp m with z | z
      · subst z
        exact ⟨fun q => sr.free hD (.inl q), _, upd_same⟩
      · obtain ⟨n1, o, q⟩ := sr.ban a z
        exact ⟨n1, o, by rw [upd_ne (ne_of_none q hD)]; exact q⟩
    · obtain ⟨u, q⟩ := (sr.cell n c a e1 e2).has
      rw [z, hD] at q; cases q
  · rintro i m H1 ⟨rfl, hi, μ1, st1, acc, va, g1, s1, b1, d1, r1, h1⟩
    by_cases hlt : i < ps.length
    · have hp : ps[i]? = some ps[i] := by simp [hlt]
      rw [List.drop_eq_getElem_cons hlt] at h1
      unfold lcG at h1
      rw [bind_ifG] at h1
      obtain ⟨hG, h1⟩ := PostG.ifG h1
      obtain ⟨go, yl⟩ := (su μ1 H1 st1 g1 s1 hG).1 i ps[i] hp
      refine .inr ⟨go, P (i + 1), fun H' q => ⟨ps.length - (i + 1), by omega, rfl, hlt, q⟩, fun x H2 y => ?_⟩
      obtain ⟨g2, s2, rx⟩ := yl x H2 y
      have gg2 := g1.trans g2 fun a m => (s2.ban a m).1
      rw [M.bind_assoc] at h1
      refine tg x _ H2 _ μ1 st1 _ ps[i] ((er.mono gg2).wipe vs) s2 rx ((PostG.calm (PostG.bindAt h1 gg2)).mono fun σ3 H3 ⟨μ3, st3, ρ3, g3, s3, ⟨e3, w3⟩, h3⟩ => ⟨w3.trans (wipe_wipe fun _ z => z), ?_⟩)
      have gg3 := gg2.trans g3 fun a m => (s3.ban a m).1
      rw [M.bind_assoc] at h3
      refine ⟨μ3, st3, ρ3, e3, s3, (PostG.calm (PostG.bindAt h3 gg3)).mono fun c H4 ⟨μ4, st4, c', g4, s4, ec, h4⟩ => ?_⟩
      subst ec
      have gg4 := gg3.trans g4 fun a m => (s4.ban a m).1
      have keepD : ∀ {μa μb : Mu} {Ha Hb : Hp} {sa : Sto} {w : List V}, Gr μa Ha μb Hb → SR K μa sa Ha → D ∈ μa.b → Ha D = some (.lst w) → Hb D = some (.lst w) := fun g s m q => g.keep D _ q (s.ban D m).1
      have d2 := keepD g2 s1 b1 d1
      have b2 := g2.ban D b1
      have d3 := keepD g3 s2 b2 d2
      have b3 := g3.ban D b2
      have d4 := keepD g4 s3 b3 d3
      have b4 := g4.ban D b3
      have r4 : VRs K H4 μ4 acc va := VRs.mono g4 _ _ (VRs.mono g3 _ _ (VRs.mono g2 _ _ r1))
      cases c' with
      | false =>
        rw [if_neg Bool.false_ne_true] at h4 ⊢
        exact ⟨μ4, st4, acc, va, gg4, s4, b4, d4, r4, h4⟩
      | true =>
        rw [if_pos rfl] at h4 ⊢
        rw [M.bind_assoc] at h4
        refine ⟨μ4, st4, ρ3, e3.mono g4, s4, (PostG.calm (PostG.bindAt h4 gg4)).mono fun w H5 ⟨μ5, st5, py, g5, s5, rw5, h5⟩ => ?_⟩
        have gg5 := gg4.trans g5 fun a m => (s5.ban a m).1
        have d5 := keepD g5 s4 b4 d4
        have b5 := g5.ban D b4
        have r5 : VRs K H5 μ5 acc va := VRs.mono g5 _ _ r4
        by_cases hz : acc.length < SZ
        · rw [if_pos hz] at h5
          refine ⟨va, d5, by rw [← VRs.length r5, sz_eq]; exact hz, μ5, st5, acc ++ [py], va ++ [w], ?_, sr_bar b5 s5, b5, upd_same, VRs.monov (gv_bar b5) _ _ (VRs.append r5 (VRs.cons rw5 VRs.nil)), h5⟩
          exact ⟨gg5.pre, gg5.ban, gg5.bnew, gg5.new, fun a o q n => by rw [upd_ne (ne_of_none q hD)]; exact gg5.keep a o q n, fun a o u q => by rw [upd_ne (ne_of_none q hD)]; exact gg5.fz a o u q⟩
        · rw [if_neg hz] at h5
          exact h5.elim
    · have ei : i = ps.length := by omega
      subst ei
      rw [List.drop_length] at h1
      unfold lcG at h1
      rw [show (fun st => if G st = true then Res.ok acc st else Res.bad) = (fun st => if G st = true then M.ret acc st else .bad) from rfl, bind_ifG] at h1
      obtain ⟨hG, h1⟩ := PostG.ifG h1
      exact .inl ⟨(su μ1 H1 st1 g1 s1 hG).2, le μ μ1 st st1 H H1 D acc va E Q sr hD g1 s1 b1 d1 r1 h1⟩
noncomputable def eLcC (f : List PV → List PV) (k : List PV → M PV) (mi : Rho → M (Nat × List PV)) (g : GM) (t : Rho → M Bool) (e : Rho → M PV) (vs : List Nat) : Rho → M PV := fun ρ => M.bind (mi ρ) fun nx => M.bind (lcG (gd nx.1 nx.2) g t e (wipeP ρ vs) (f nx.2) []) k
section
variable {X : Cx} {W : WX}
end
end MP

set_option maxRecDepth 100000
set_option maxHeartbeats 3200000
namespace MP
open PySem L2 PySem.Spec PyProof.Rows
noncomputable def ddS {κ : Type} [DecidableEq κ] (acc : List κ) (k : κ) : List κ := if k ∈ acc then acc else acc ++ [k]
noncomputable def dd {κ : Type} [DecidableEq κ] (l : List κ) : List κ := l.foldl ddS []
section
variable {κ : Type} [DecidableEq κ]
theorem dd_snoc (l : List κ) (k : κ) : dd (l ++ [k]) = ddS (dd l) k := by simp [dd]
theorem ddS_len (l : List κ) (k : κ) : (ddS l k).length ≤ l.length + 1 := by unfold ddS; split <;> simp
theorem dd_len (l : List κ) : (dd l).length ≤ l.length := by
  have : ∀ (l acc : List κ), (l.foldl ddS acc).length ≤ acc.length + l.length := by
    intro l; induction l with
    | nil => intro acc; simp
    | cons k l ih => intro acc; have := ih (ddS acc k); have := ddS_len acc k; simp; omega
  have q := this l []
  simp only [List.length_nil, Nat.zero_add] at q
  exact q
end
section
variable {prog : Program} {w : World} {A : Around} {R : Result → Shared → Prop} {it : Addr} {fp wr : List Addr} {G : Array GenState → Array GenState → Prop} {n : Nat} {P : Nat → Value → Prop} {St : Nat → Shared → Prop} {κ : Type} [DecidableEq κ] {knd : KeyKind prog w κ}
end
section
variable {prog : Program} {w : World} {A : Around} {E : Value → Shared → Prop} {sh : Shared} {κ : Type} [DecidableEq κ] {knd : KeyKind prog w κ}
end
noncomputable def keysOf : List PV → Option (List Key)
  | [] => some []
  | p :: r => match keyOf p, keysOf r with
    | some k, some ks => some (k :: ks)
    | _, _ => none
section
variable {X : Cx} {W : WX} {a : Expr} {ma : Rho → M PV} {p p2 q pos : Pos}
end
end MP

set_option maxRecDepth 100000
set_option maxHeartbeats 1000000
namespace MP
open PySem L2 PySem.Spec PyProof.Rows
theorem ofString_inj {a b : String} (h : Str.ofString a = Str.ofString b) : a = b := by
  have e : (Str.ofString a).cps.toList = (Str.ofString b).cps.toList := by rw [h]
  rw [signs_ofString, signs_ofString] at e
  have inj : ∀ (x y : List Char), x.map Char.toNat = y.map Char.toNat → x = y := by
    intro x
    induction x with
    | nil => intro y h; cases y with
      | nil => rfl
      | cons c y => cases h
    | cons c x ih => intro y h; cases y with
      | nil => cases h
      | cons d y =>
        rw [List.map_cons, List.map_cons] at h
        injection h with h1 h2
        rw [ih y h2, Char.ext (UInt32.toNat_inj.mp h1)]
  exact String.toList_inj.mp (inj _ _ e)
noncomputable def lookA : List (String × PV) → String → Option PV
  | [], _ => none
  | p :: r, f => if p.1 = f then some p.2 else lookA r f
noncomputable def putA (f : String) (v : PV) : List (String × PV) → List (String × PV)
  | [] => [(f, v)]
  | p :: r => if p.1 = f then (p.1, v) :: r else p :: putA f v r
section
variable {K : PySem.W.Frag} {H : Hp} {μ : Mu}
theorem FRs.look {f : String} : ∀ {fs : List (String × PV)} {fv : List (Str × V)}, FRs K H μ fs fv → (∀ p, lookA fs f = some p → ∃ v, fv.lookup (Str.ofString f) = some v ∧ VR K H μ p v) ∧ (lookA fs f = none → fv.lookup (Str.ofString f) = none)
  | [], fv, h => by
    have e : fv = [] := h
    subst e
    exact ⟨fun p q => (nomatch q), fun _ => rfl⟩
  | p :: r, fv, h => by
    obtain ⟨v, t, rfl, rv, rt⟩ := h
    unfold lookA
    rw [List.lookup_cons]
    by_cases e : p.1 = f
    · subst e
      rw [if_pos rfl, beq_self_eq_true]
      exact ⟨fun q hq => by cases hq; exact ⟨v, rfl, rv⟩, fun hq => (nomatch hq)⟩
    · have e' : (Str.ofString f == Str.ofString p.1) = false := beq_eq_false_iff_ne.mpr fun q => e (ofString_inj q).symm
      rw [if_neg e, e']
      exact FRs.look rt
theorem FRs.put {f : String} {p : PV} {v : V} (rv : VR K H μ p v) : ∀ {fs : List (String × PV)} {fv : List (Str × V)}, FRs K H μ fs fv → FRs K H μ (putA f p fs) (putF (Str.ofString f) v fv)
  | [], fv, h => by
    have e : fv = [] := h
    subst e
    exact ⟨v, [], rfl, rv, rfl⟩
  | q :: r, fv, h => by
    obtain ⟨w, t, rfl, rw', rt⟩ := h
    unfold putA putF
    by_cases e : q.1 = f
    · subst e
      rw [if_pos rfl, if_pos rfl]
      exact ⟨v, t, rfl, rv, rt⟩
    · have e' : ¬ Str.ofString q.1 = Str.ofString f := fun z => e (ofString_inj z)
      rw [if_neg e, if_neg e']
      exact ⟨w, _, rfl, rw', FRs.put rv rt⟩
theorem FRs.length : ∀ {fs : List (String × PV)} {fv : List (Str × V)}, FRs K H μ fs fv → fs.length = fv.length
  | [], fv, h => by have e : fv = [] := h; subst e; rfl
  | q :: r, fv, h => by obtain ⟨w, t, rfl, _, rt⟩ := h; rw [List.length_cons, List.length_cons, FRs.length rt]
end
noncomputable def attrM (cs : List String) (f : String) (x : PV) : M PV := fun st => match x with
  | .loc n => match st[n]? with
    | some (.ins c fs) => if c ∈ cs then (match lookA fs f with
      | some v => .ok v st
      | none => .bad) else .bad
    | _ => .bad
  | _ => .bad
section
variable {X : Cx} {W : WX} {e o value : Expr} {pos p' : Pos} {me mo mv : Rho → M PV} {cs : List String} {f : String}
noncomputable def setA (cs : List String) (f : String) (y x : PV) : M Unit := fun st => match x with
  | .loc n => match st[n]? with
    | some (.ins c fs) => if c ∈ cs ∧ fs.length < 1000 then .ok () (st.set n (.ins c (putA f y fs))) else .bad
    | _ => .bad
  | _ => .bad
noncomputable def sAttr (cs : List String) (f : String) (mo mv : Rho → M PV) : Rho → M Fl := fun ρ => onErr ρ (mv ρ) fun y => onErr ρ (mo ρ) fun x => onErr ρ (setA cs f y x) fun _ => M.ret (.next ρ)
end
noncomputable def insC (c m : String) (o : PV) : M Unit := fun st => match o with
  | .loc n => match st[n]? with
    | some (.ins c' fs) => if c' = c ∧ lookA fs m = none then .ok () st else .bad
    | _ => .bad
  | _ => .bad
noncomputable def eMth (c m : String) (mf : List PV → M PV) (mo : Rho → M PV) (ma : Rho → M (List PV)) : Rho → M PV := fun ρ => M.bind (mo ρ) fun o => M.bind (insC c m o) fun _ => M.bind (ma ρ) fun xs => mf (o :: xs)
section
variable {X : Cx} {W : WX} {e o : Expr} {es : List Expr} {pos apos : Pos} {mo : Rho → M PV} {ma : Rho → M (List PV)} {c m : String} {C f : Addr} {fd : FuncData} {ps : List Str} {k n : Nat} {mf : List PV → M PV}
noncomputable def mkIns (c : String) (mf : List PV → M PV) (xs : List PV) : M PV := fun st => match mf (.loc st.length :: xs) (st ++ [.ins c []]) with
  | .ok .non st' => .ok (.loc st.length) st'
  | _ => .bad
end
end MP

set_option maxRecDepth 100000
set_option maxHeartbeats 1000000
namespace MP
open PySem L2 PySem.Spec PyProof.Rows
noncomputable def isDct (x : PV) : M Unit := fun st => match dctOf x st with
  | some _ => .ok () st
  | none => .bad
noncomputable def dgetM (x y z : PV) : M PV := fun st => match dctOf x st with
  | some kvs => if (keyOf y).isSome = true then .ok ((lookP kvs y).getD z) st else .bad
  | none => .bad
noncomputable def eGet1 (mo me : Rho → M PV) : Rho → M PV := fun ρ => M.bind (mo ρ) fun x => M.bind (isDct x) fun _ => M.bind (me ρ) fun y => dgetM x y .non
noncomputable def eGet2 (mo me mz : Rho → M PV) : Rho → M PV := fun ρ => M.bind (mo ρ) fun x => M.bind (isDct x) fun _ => M.bind (me ρ) fun y => M.bind (mz ρ) fun z => dgetM x y z
section
variable {X : Cx} {W : WX} {o e f : Expr} {apos cpos : Pos} {mo me mz : Rho → M PV}
end
theorem VRs.back {K : PySem.W.Frag} {H : Hp} {μ : Mu} {i : Nat} {v : V} : ∀ {ps : List PV} {vs : List V} {i : Nat}, VRs K H μ ps vs → vs[i]? = some v → ∃ p, ps[i]? = some p ∧ VR K H μ p v
  | [], vs, i, h, e => by have z : vs = [] := h; rw [z] at e; simp at e
  | p :: ps, vs, i, h, e => by
    obtain ⟨w, r, rfl, h1, h2⟩ := (show ∃ v r, vs = v :: r ∧ VR K H μ p v ∧ VRs K H μ ps r from h)
    cases i with
    | zero => simp at e; subst e; exact ⟨p, rfl, h1⟩
    | succ i =>
      obtain ⟨q, e1, e2⟩ := VRs.back (i := i) h2 (by simpa using e)
      exact ⟨q, by simpa using e1, e2⟩
section
variable {X : Cx} {W : WX} {o e : Expr} {apos cpos : Pos} {mo : Rho → M PV} {ma : Rho → M (List PV)}
end
noncomputable def mulL (x y : PV) : M PV := match x, y with
  | .lst a, .int k => if -1000000 ≤ k ∧ k ≤ 1000 ∧ a.length ≤ 1000 then M.ret (.lst (List.replicate k.toNat a).flatten) else M.fail
  | _, _ => M.fail
section
variable {X : Cx} {W : WX} {a b : Expr} {pos : Pos} {ma mb : Rho → M PV}
end
section
variable {X : Cx} {W : WX} {a b : Expr} {pos : Pos} {ma mb : Rho → M PV}
end
end MP

set_option maxRecDepth 100000
namespace MP
open PySem L2 PySem.Spec PyProof.Rows
section
variable {X : Cx} {W : WX} {e : Expr} {p pos : Pos} {ma : Rho → M (List PV)}
end
section
variable {X : Cx} {W : WX} {e : Expr} {p pos : Pos} {ma : Rho → M (List PV)}
end
end MP

set_option maxRecDepth 100000
set_option maxHeartbeats 1000000
namespace MP
open PySem L2
noncomputable def isGd (x : PV) : M Unit := fun st => match x with
  | .loc n => match st[n]? with
    | some (.dcl _) => .ok () st
    | some (.dcn _) => .ok () st
    | _ => .bad
  | _ => .bad
noncomputable def ggetM (x y : PV) : M PV := fun st => match gdOf x y st with
  | some kvs => .ok ((lookP kvs y).getD .non) st
  | none => .bad
noncomputable def eGetG (mo me : Rho → M PV) : Rho → M PV := fun ρ => M.bind (mo ρ) fun x => M.bind (isGd x) fun _ => M.bind (me ρ) fun y => ggetM x y
end MP

set_option maxRecDepth 100000
set_option maxHeartbeats 1000000
namespace MP
open PySem L2
theorem ER.monov {K : PySem.W.Frag} {H H' : Hp} {μ μ' : Mu} {ρ : Rho} {σ : St} (g : Gv μ H μ' H') (e : ER K H μ ρ σ) : ER K H' μ' ρ σ :=
  ⟨e.len, fun i p h => let ⟨v, h1, h2⟩ := e.get i p h; ⟨v, h1, VR.monov g p v h2⟩⟩
section
variable {K : KW} {H H1 : Hp} {μ : Mu} {a : Addr} {n : Nat} {kvs : List (PV × PV)} {kv : List (Key × V)} {od : Obj}
theorem KRs.at : ∀ {kvs : List (PV × PV)} {kv : List (Key × V)} {i : Nat} {p : PV}, KRs K H μ kvs kv → (kvs.map Prod.fst)[i]? = some p → ∃ k v, kv[i]? = some (k, v) ∧ VR K H μ p (kV k)
  | [], _, _, _, _, e => by simp at e
  | q :: r, kv, 0, p, h, e => by
    obtain ⟨k, v, t, rfl, hk, _, _⟩ := h
    simp at e
    subst e
    refine ⟨k, v, rfl, ?_⟩
    cases hq : q.1 with
    | int i => rw [hq] at hk; cases hk; rfl
    | str x => rw [hq] at hk; cases hk; rfl
    | _ => rw [hq] at hk; cases hk
  | q :: r, kv, i + 1, p, h, e => by
    obtain ⟨k, v, t, rfl, hk, _, h2⟩ := h
    obtain ⟨k', v', e1, e2⟩ := KRs.at (i := i) (p := p) h2 (by simpa using e)
    exact ⟨k', v', by simpa using e1, e2⟩
end
end MP

set_option maxRecDepth 100000
set_option maxHeartbeats 1000000
namespace MP
open PySem L2 PySem.Spec PyProof.Rows
section
variable {prog : Program} {w : World} {A : Around} {E : Value → Shared → Prop} {s : Shared}
end
noncomputable def enumG (xs : List PV) : M (List PV) := match xs with
  | [p] => match skOf p with
    | some ps => M.ret (enumP ps)
    | none => M.fail
  | _ => M.fail
end MP

set_option maxRecDepth 100000
set_option maxHeartbeats 1000000
namespace MP
open PySem L2
noncomputable def mulS (x y : PV) : M PV := match x, y with
  | .str a, .int k => if -1000000 ≤ k ∧ k ≤ 1000 ∧ a.length ≤ 1000 then M.ret (.str (List.replicate k.toNat a).flatten) else M.fail
  | _, _ => M.fail
end MP

set_option maxRecDepth 100000
set_option maxHeartbeats 1000000
namespace MP
open PySem L2
section
variable {X : Cx} {W : WX} {a b : Expr} {pos : Pos} {ma mb : Rho → M PV}
end
end MP

set_option maxRecDepth 100000
set_option maxHeartbeats 1000000
namespace MP
open PySem L2
noncomputable abbrev GI := (Sto → Bool) × List PV
noncomputable def yesG : Sto → Bool := fun _ => true
theorem Sup.g {K : KW} {J : It} {ps : List PV} {μ : Mu} {H : Hp} (h : Sup K J ps μ H) : SupG K J ps yesG μ H := fun μ' H' st g s _ => h μ' H' st g s
noncomputable def tMIG (K : KW) (W : WX) (m : Rho → M GI) : TI := fun σ H R => ∃ μ st ρ, ER K H μ ρ σ ∧ SR K μ st H ∧ PostG K (fun c d H' => W c d σ H') (fun H μ gx (J : It) => SupG K J gx.2 gx.1 μ H) R μ H (m ρ st)
noncomputable def MIG (X : Cx) (W : WX) (tg iter : Expr) (m : Rho → M GI) : Prop := PI X tg iter (tMIG (kw X) W m)
noncomputable def anyM (v : PV) : M GI := fun st => match v with
  | .tup xs => .ok (yesG, xs) st
  | .lst xs => .ok (yesG, xs) st
  | .frz xs => .ok (yesG, xs) st
  | .str z => .ok (yesG, z.map fun c => .str [c]) st
  | .loc n => match st[n]? with
    | some (.lst xs) => .ok (gd n xs, xs) st
    | _ => .bad
  | _ => .bad
noncomputable def iAny (m : Rho → M PV) : Rho → M GI := fun ρ => M.bind (m ρ) anyM
noncomputable def enumA (v : PV) : M GI := fun st => match v with
  | .tup xs => .ok (yesG, enumP xs) st
  | .lst xs => .ok (yesG, enumP xs) st
  | .frz xs => .ok (yesG, enumP xs) st
  | .str z => .ok (yesG, enumP (z.map fun c => .str [c])) st
  | .loc n => match st[n]? with
    | some (.lst xs) => .ok (gd n xs, enumP xs) st
    | _ => .bad
  | _ => .bad
noncomputable def iEnumA (m : Rho → M PV) : Rho → M GI := fun ρ => M.bind (m ρ) enumA
section
variable {X : Cx} {W : WX} {tg e : Expr} {me : Rho → M PV}
theorem mig_any (he : ME X W e me) : MIG X W tg e (iAny me) :=
  PI.imp (PI.or (pi_tup he) (PI.or (pi_list he) (pi_str he))) fun σ H R ⟨μ, st, ρ, er, sr, h⟩ => by
    unfold iAny M.bind at h
    cases q : me ρ st with
    | bad => rw [q] at h; exact h.elim
    | err x st' =>
      rw [q] at h
      refine .inl ⟨μ, st, ρ, er, sr, ?_⟩
      rw [q]
      exact h
    | ok v st' =>
      rw [q] at h
      dsimp only at h
      unfold anyM at h
      cases v with
      | tup xs =>
        refine .inl ⟨μ, st, ρ, er, sr, ?_⟩
        rw [q]
        intro μ1 H1 u g1 s1 ru
        obtain ⟨a, vs, rfl, t, rs⟩ := tup_at ru
        exact ⟨a, rfl, ⟨vs, t.sq⟩, h μ1 H1 _ g1 s1 (sup_tup t rs).g⟩
      | lst xs =>
        refine .inr (.inl ⟨μ, st, ρ, er, sr, ?_⟩)
        rw [q]
        intro μ1 H1 u g1 s1 ru
        obtain ⟨a, vs, rfl, t, rs⟩ := lst_at ru
        exact ⟨a, rfl, ⟨vs, t.sq⟩, h μ1 H1 _ g1 s1 (sup_lst (fun _ _ g => (t.grow g).sq) rs).g⟩
      | frz xs =>
        refine .inr (.inl ⟨μ, st, ρ, er, sr, ?_⟩)
        rw [q]
        intro μ1 H1 u g1 s1 ru
        obtain ⟨a, vs, rfl, t, rs⟩ := frz_at ru
        exact ⟨a, rfl, ⟨vs, t.sq⟩, h μ1 H1 _ g1 s1 (sup_lst (fun _ _ g => (t.grow g).sq) rs).g⟩
      | str z =>
        refine .inr (.inr ⟨μ, st, ρ, er, sr, ?_⟩)
        rw [q]
        intro μ1 H1 u g1 s1 ru
        cases (show u = V.str ⟨z.toArray⟩ from ru)
        exact ⟨_, rfl, h μ1 H1 _ g1 s1 sup_str.g⟩
      | loc n =>
        dsimp only at h
        cases qc : st'[n]? with
        | none => rw [qc] at h; exact h.elim
        | some c =>
          rw [qc] at h
          cases c with
          | lst xs =>
            refine .inr (.inl ⟨μ, st, ρ, er, sr, ?_⟩)
            rw [q]
            intro μ1 H1 u g1 s1 ru
            obtain ⟨a, rfl, ha⟩ := loc_at ru
            obtain ⟨vs, q0, r⟩ := s1.cell n _ a qc ha
            exact ⟨a, rfl, ⟨vs, SqL.of q0⟩, h μ1 H1 _ g1 s1 (sup_cell ha)⟩
          | _ => exact h.elim
      | _ => exact h.elim
variable {pos : Pos} {m : Rho → M Fl}
noncomputable def sForA (mi : Rho → M GI) (g : GM) (b : Rho → M Fl) : Rho → M Fl := fun ρ => onErr ρ (mi ρ) fun gx => forG gx.1 g b gx.2 ρ
theorem ms_forA {iter : Expr} {body : List Stmt} {mi : Rho → M GI} {g : GM} (hp : PassesOwn (model X.prog X.w) X.A X.env X.xe) (hc : X.calm = true) (hi : MIG X W tg iter mi) (hg : MG X W tg g) (hb : MSs X W body m)
    (hs : ∀ x, foldedSetIterable iter X.env x = pure x := by intro _; kernel_rfl) : MS X W (.For tg iter body [] pos) (sForA mi g m) :=
  PS.imp (ps_for hp hc hi hg hb hs) fun D σ H ⟨μ, st, ρ, er, sr, h⟩ => ⟨μ, st, ρ, er, sr, (PostS.onErr h er).mono fun J H1 ⟨μ1, st1, gx, g1, s1, su, h1⟩ => for_impG su (er.mono g1) s1 h1⟩
noncomputable def eLcA (k : List PV → M PV) (mi : Rho → M GI) (g : GM) (t : Rho → M Bool) (e : Rho → M PV) (vs : List Nat) : Rho → M PV := fun ρ => M.bind (mi ρ) fun gx => M.bind (lcG gx.1 g t e (wipeP ρ vs) gx.2 []) k
theorem lc_tieA {mi : Rho → M GI} {g0 : TG} {g : GM} {t : Rho → M Bool} {e : Rho → M PV} {k : List PV → M PV} {vs : List Nat} (tg : TGo (kw X) vs g0 g) (le : LcEnd (kw X) k) : ∀ σ H Q, tM (kw X) W (eLcA k mi g t e vs) σ H Q → tLc (tMIG (kw X) W mi) g0 (tMT (kw X) W0 t) (tM (kw X) W0 e) vs σ H Q :=
  fun σ H Q ⟨μ, st, ρ, er, sr, h⟩ => ⟨μ, st, ρ, er, sr, (PostG.bind h).mono fun J H1 ⟨μ1, st1, gx, g1, s1, su, h1⟩ D hD => lc_impG su (er.mono g1) s1 tg le hD h1⟩
theorem me_lcA {elt tgt iter : Expr} {ifs : List Expr} {scope : Scope} {own : List (Str × Nat)} {pos : Pos} {mi : Rho → M GI} {g0 : TG} {g : GM} {t : Rho → M Bool} {e : Rho → M PV} {k : List PV → M PV} (hc : X.calm = true) (hN : X.N.Nodup) (hi : MIG X W tgt iter mi) (ok : BlkOk X.N X.env.scope scope own) (tg : TGo (kw X) (own.map (·.2)) g0 g) (le : LcEnd (kw X) k)
    (hg : ∀ (s : Shared) (H : Hp) (C : Addr) (cl : List (Str × Addr)) (fp : List Addr), PG (X.blk s H scope (compEnvC scope cl C X.env) fp) tgt g0)
    (ht : ∀ (s : Shared) (H : Hp) (C : Addr) (cl : List (Str × Addr)) (fp : List Addr), MTs (X.blk s H scope (compEnvC scope cl C X.env) fp) W0 ifs t)
    (he : ∀ (s : Shared) (H : Hp) (C : Addr) (cl : List (Str × Addr)) (fp : List Addr), ME (X.blk s H scope (compEnvC scope cl C X.env) fp) W0 elt e) (hs : ∀ x, foldedSetIterable iter X.env x = pure x := by intro _; kernel_rfl) :
    ME X W (.ListComp elt [⟨tgt, iter, ifs, 0⟩] scope pos) (eLcA k mi g t e (own.map (·.2))) := PE.imp (pe_lc (tt := tMT (kw X) W0 t) (te := tM (kw X) W0 e) hc hN hi ok hg ht he hs) (lc_tieA tg le)
end
end MP

set_option maxRecDepth 100000
namespace MP
open PySem L2 PySem.Spec PyProof.Rows
section
variable {X : Cx} {W : WX} {e : Expr} {p pos : Pos} {ma : Rho → M (List PV)}
end
section
variable {prog : Program} {w : World} {A : Around} {E : Value → Shared → Prop} {s : Shared} {x : Str} {t : Tok}
end
noncomputable def itemsA (x : PV) (st : Sto) : Option (List PV) := match x with
  | .str a => if a.length ≤ SZ then some (a.map fun c => .str [c]) else none
  | x => match dctOf x st with
    | some kvs => some (kvs.map Prod.fst)
    | none => seqOf x st
section
variable {X : Cx} {W : WX} {e : Expr} {p pos : Pos} {ma : Rho → M (List PV)}
end
noncomputable def gAttr (cs : List String) (f : String) (mo : Rho → M PV) : GM := fun p ρ => M.bind (mo ρ) fun o => M.bind (setA cs f p o) fun _ => M.ret ρ
section
variable {X : Cx} {W : WX} {o : Expr} {f : String} {cs : List String} {pos : Pos} {mo : Rho → M PV} {ta : TE}
end
end MP

set_option maxRecDepth 100000
set_option maxHeartbeats 1000000
namespace MP
open PySem L2 PySem.Spec PyProof.Rows PySem.W
section
variable {prog : Program} {w : World} {A : Around} {E : Value → Shared → Prop} {s : Shared} {e it T : Addr} {fp : List Addr} {n i : Nat} {P : Nat → Value → Prop} {St : Nat → Heap → Prop} {old : Value} {f : Bool} {oT : Obj}
end
section
variable {prog : Program} {w : World} {e it : Addr} {fp : List Addr} {n : Nat} {P : Nat → Value → Prop} {St : Nat → Heap → Prop}
end
section
variable {X : Cx} {W : WX} {a : Expr} {ma : Rho → M PV} {p p2 q pos : Pos}
end
noncomputable def extendM (o : PV) (xs : List PV) : M PV := fun st => match lstCell o st with
  | some (n, ys) => match xs with
    | [x] => match listOf x st with
      | some zs => if ys.length + zs.length ≤ SZ then .ok .non (st.set n (.lst (ys ++ zs))) else .bad
      | none => .bad
    | _ => .bad
  | none => .bad
section
variable {X : Cx} {W : WX} {o e : Expr} {apos cpos : Pos} {mo : Rho → M PV} {ma : Rho → M (List PV)}
end
end MP

set_option maxRecDepth 100000
set_option maxHeartbeats 3200000
namespace MP
open PySem L2 PySem.Spec PyProof.Rows
noncomputable def kS (e : Int × Value) : Str := match e.2 with
  | .str k _ => k
  | _ => Str.empty
noncomputable def GoodS (P : Program) (w : World) (e : Int × Value) : Prop := ∃ k t, e.2 = Value.str k t ∧ e.1 = (strKind P w).hash k
noncomputable def SetS (P : Program) (w : World) (h : Heap) (a : Addr) (ks : List Str) : Prop :=
  ∃ o es ep t, h.get? a = some o ∧ o.ExactSet ∧ o.data = .set es ep t ∧ (∀ e ∈ es.toList, GoodS P w e) ∧ (es.toList.map kS).Perm ks ∧ ks.Nodup ∧
    es.size < scanBound ∧ t.fits es.size = true ∧ Ris t.place.toList ∧ (w.params.followText "set-order" = true ∨ t.led = true)
section
variable {P : Program} {w : World} {A : Around} {E : Value → Shared → Prop} {sh : Shared} {a : Addr} {ks : List Str} {h h' : Heap}
theorem SetS.stay (R : SetS P w h a ks) (k : ∀ o, h.get? a = some o → h'.get? a = some o) : SetS P w h' a ks := by
  obtain ⟨o, es, ep, t, ho, r⟩ := R
  exact ⟨o, es, ep, t, k o ho, r⟩
theorem goodS_elems {l : List (Int × Value)} (g : ∀ e ∈ l, GoodS P w e) : ElemsOf (strKind P w) l := by
  intro e he
  obtain ⟨k, t, h1, h2⟩ := g e he
  rw [h1]
  exact ⟨⟨k, strKind_is P w k t, h2⟩, rfl⟩
theorem goodS_is {e : Int × Value} (g : GoodS P w e) (k : Str) : (strKind P w).is k e.2 = true ↔ kS e = k := by
  obtain ⟨k0, t, h1, _⟩ := g
  unfold kS
  rw [h1, KeyKind.is_eq_decide (strKind_is P w k0 t) k, decide_eq_true_eq]
  exact eq_comm
theorem putS_at {o : Obj} {es es' : Array (Int × Value)} {ep : Nat} {t t' : SetTable} (ho : h.get? a = some o) (hd : o.data = .set es ep t) :
    (h.update a (Obj.putSet es' t')).get? a = some { o with data := .set es' (ep + 1) t' } := L2.store_at ho hd
theorem setS_tail {g : Bool → Sem Unit} (hg : ∀ (b : Bool) (s1 : Shared) (Q' : Unit → Shared → Prop), Q' () s1 → wpAny (model P w) A (g b) Q' E s1)
    {o : Obj} {es : Array (Int × Value)} {ep : Nat} {t : SetTable} (ho : sh.heap.get? a = some o) (hex : o.ExactSet) (hd : o.data = .set es ep t)
    {es1 : Array (Int × Value)} {t2 : SetTable} (g1 : ∀ e ∈ es1.toList, GoodS P w e) (p1 : (es1.toList.map kS).Perm ks) (nd : ks.Nodup)
    (hb1 : es1.size < scanBound) (hf2 : t2.fits es1.size = true) (hr : Ris t2.place.toList) (hl : w.params.followText "set-order" = true ∨ t2.led = true) {wd : Bool} {R : Option Bool → Shared → Prop}
    (hR : ∀ h', Heap.SameBut a sh.heap h' → SetS P w h' a ks → R (some true) { sh with heap := h' }) :
    wpAny (model P w) A (do
        storeSet a es1 t2
        if (!wd && t2.tooFull) = true then do
            g (relayAll t2 es1 (SetTable.grown es1.size)).2.2
            storeSet a (relayAll t2 es1 (SetTable.grown es1.size)).1 (relayAll t2 es1 (SetTable.grown es1.size)).2.1
            pure (some true)
          else pure (some true)) R E sh := by
  refine wpAny_bind (wpAny_storeSet_of ho hd ?_ (fits_of_scanBound hb1))
  have ho1 := putS_at (es' := es1) (t' := t2) ho hd
  have same1 := Heap.SameBut.update sh.heap a (Obj.putSet es1 t2)
  split
  · have pm := relayAll_perm t2 es1 (SetTable.grown es1.size)
    have z1 := relayAll_fits t2 es1 (SetTable.grown es1.size)
    have z2 := relayAll_ris t2 es1 (SetTable.grown es1.size)
    have z3 := relayAll_led t2 es1 (SetTable.grown es1.size)
    generalize relayAll t2 es1 (SetTable.grown es1.size) = Z at pm z1 z2 z3 ⊢
    obtain ⟨es2, t3, gave⟩ := Z
    dsimp only at pm z1 z2 z3 ⊢
    have hsz : es2.size = es1.size := by rw [← Array.length_toList, pm.length_eq, Array.length_toList]
    have hb2 : es2.size < scanBound := by rw [hsz]; exact hb1
    refine wpAny_bind (hg _ _ _ (wpAny_bind (wpAny_storeSet_of ho1 rfl ?_ (fits_of_scanBound hb2))))
    have ho2 := putS_at (es' := es2) (t' := t3) ho1 rfl
    refine wpAny_pure (hR _ (same1.trans (Heap.SameBut.update _ a _)) ?_)
    exact ⟨_, es2, _, t3, ho2, hex, rfl, fun e he => g1 e (pm.mem_iff.mp he), (pm.map kS).trans p1, nd, hb2, z1, z2, hl.imp id fun z => by rw [z3]; exact z⟩
  · exact wpAny_pure (hR _ same1 ⟨_, es1, _, t2, ho1, hex, rfl, g1, p1, nd, hb1, hf2, hr, hl⟩)
theorem setS_add {k : Str} {tk : Tok} {Q : Bool → Shared → Prop} (R : SetS P w sh.heap a ks) (room : ks.length + 1 < scanBound)
    (hQ : ∀ b h', Heap.SameBut a sh.heap h' → SetS P w h' a (ddS ks k) → Q b { sh with heap := h' }) :
    wpAny (model P w) A (setAddHashed a (.str k tk) ((strKind P w).hash k)) Q E sh := by
  obtain ⟨o, es, ep, t, ho, hex, hd, g, pk, nd, hb, hf, hr, hl⟩ := R
  have hkey : (strKind P w).is k (.str k tk) = true := strKind_is P w k tk
  have hsc : (Value.str k tk).scannable = true := rfl
  have hel : ElemsOf (strKind P w) es.toList := goodS_elems g
  unfold setAddHashed setAddHashedIn
  refine wpAny_holding (wpAny_bind (wpAny_setState_of ho hd hf ?_))
  dsimp only
  rw [byScan_of hsc hb hel]
  simp only [↓reduceIte]
  unfold setAddByScan
  refine wpAny_bind ?_
  refine wpAny_bind (wpAny_rule ?_)
  refine wpAny_bind (wpAny_setScan_of hkey ho hd hf hel ?_)
  cases hfi : List.findIdx? (fun e => (strKind P w).is k e.2) es.toList with
  | some j =>
    dsimp only
    obtain ⟨hj, pj, _⟩ := List.findIdx?_eq_some_iff_getElem.mp hfi
    have hk : k ∈ ks := pk.mem_iff.mp (List.mem_map.mpr ⟨es.toList[j], List.getElem_mem hj, (goodS_is (g _ (List.getElem_mem hj)) k).1 pj⟩)
    refine wpAny_pure (wpAny_pure (hQ _ sh.heap (Heap.SameBut.refl a sh.heap) ?_))
    rw [show ddS ks k = ks from if_pos hk]
    exact ⟨o, es, ep, t, ho, hex, hd, g, pk, nd, hb, hf, hr, hl⟩
  | none =>
    dsimp only
    have hnk : k ∉ ks := by
      intro z
      obtain ⟨e, he, q⟩ := List.mem_map.mp (pk.mem_iff.mpr z)
      have c := List.findIdx?_eq_none_iff.mp hfi e he
      rw [(goodS_is (g e he) k).2 q] at c
      cases c
    have hgw : ∀ (b : Bool) {s1 : Shared} {Q' : Unit → Shared → Prop}, Q' () s1 → wpAny (model P w) A (match b with | true => rule "set.scan.the-table-gave-way" | false => pure ()) Q' E s1 := by
      intro b s1 Q' q
      cases b <;> first | exact wpAny_pure q | exact wpAny_rule q
    have pm := layNew_perm t es ((strKind P w).hash k) (.str k tk)
    have y1 := layNew_fits t es ((strKind P w).hash k) (.str k tk)
    have y2 := layNew_ris t es ((strKind P w).hash k) (.str k tk) hr
    have y3 := layNew_led t es ((strKind P w).hash k) (.str k tk)
    generalize layNew t es ((strKind P w).hash k) (.str k tk) = Z at pm y1 y2 y3 ⊢
    obtain ⟨es1, t1, wd, gave⟩ := Z
    dsimp only at pm y1 y2 y3 ⊢
    rw [Array.toList_push] at pm
    have pc : es1.toList.Perm (es.toList ++ [((strKind P w).hash k, Value.str k tk)]) := pm
    have p1 : (es1.toList.map kS).Perm (ddS ks k) := by
      rw [show ddS ks k = ks ++ [k] from if_neg hnk]
      have q := pc.map kS
      rw [List.map_append] at q
      exact q.trans (pk.append_right _)
    have nd1 : (ddS ks k).Nodup := by
      rw [show ddS ks k = ks ++ [k] from if_neg hnk]
      refine List.nodup_append.mpr ⟨nd, by simp, ?_⟩
      intro x hx y hy e
      rw [List.mem_singleton.mp hy] at e
      exact hnk (e ▸ hx)
    have g1 : ∀ e ∈ es1.toList, GoodS P w e := by
      intro e he
      rcases List.mem_append.mp (pc.mem_iff.mp he) with z | z
      · exact g e z
      · rw [List.mem_singleton.mp z]; exact ⟨k, tk, rfl, rfl⟩
    have hsz : es1.size = ks.length + 1 := by
      have q := p1.length_eq
      rw [show ddS ks k = ks ++ [k] from if_neg hnk, List.length_map, Array.length_toList, List.length_append] at q
      exact q
    have hb1 : es1.size < scanBound := by rw [hsz]; exact room
    have hled : w.params.followText "set-order" = true ∨ t1.led = true := hl.imp id fun z => by rw [y3]; exact z
    refine wpAny_bind (hgw _ ?_)
    split
    · refine wpAny_bind ?_
      rw [hashByValue_scannable 8 hsc]
      refine wpAny_pure ?_
      refine setS_tail ?_ ho hex hd g1 p1 nd1 hb1 ?_ ?_ ?_ ?_
      · intro b s1 Q' q; cases b <;> first | exact wpAny_pure q | exact wpAny_rule q
      · first | (split <;> first | exact y1 | exact SetTable.fits_plain_off y1) | exact y1
      · first | (split <;> exact y2) | exact y2
      · first | (split <;> exact hled) | exact hled
      · intro h' sb r; dsimp only; exact wpAny_pure (hQ _ h' sb r)
    · refine wpAny_bind (wpAny_pure ?_)
      simp only [↓reduceIte]
      refine setS_tail ?_ ho hex hd g1 p1 nd1 hb1 y1 y2 hled ?_
      · intro b s1 Q' q; cases b <;> first | exact wpAny_pure q | exact wpAny_rule q
      · intro h' sb r; dsimp only; exact wpAny_pure (hQ _ h' sb r)
noncomputable abbrev setL (w : World) : Obj := { cls := .type "set", dict := none, data := .set #[] 0 (.fresh 0 0 (!w.params.followText "set-order")) }
theorem setS_fresh (ho : h.get? a = some (setL w)) : SetS P w h a [] :=
  ⟨_, #[], 0, _, ho, ⟨rfl, rfl, rfl⟩, rfl, (fun e he => by simp at he), (by simp), List.nodup_nil, (by decide), (by rfl), List.Pairwise.nil, by
    show _ ∨ (!w.params.followText "set-order") = true
    cases w.params.followText "set-order"
    · exact .inr rfl
    · exact .inl rfl⟩
theorem setS_loop {R : Result → Shared → Prop} {it : Addr} {fp wr : List Addr} {G : Array GenState → Array GenState → Prop} {n : Nat} {Pv : Nat → Value → Prop} {St : Nat → Shared → Prop}
    (W : WalksS P w A.in1 it fp wr G n Pv St) (S : Addr) (nS : S ∉ fp) (xs : List Str) (hn : xs.length = n) (hv : ∀ i v, Pv i v → ∃ k t, xs[i]? = some k ∧ v = .str k t) (hb : n + 1 < scanBound) :
    ∀ (j i : Nat) (sh : Shared), n - i = j → i ≤ n → St i sh → SetS P w sh.heap S (dd (xs.take i)) →
      (∀ s2, Moved (S :: wr) G sh s2 → SetS P w s2.heap S (dd xs) → R (.ok (.ret .none)) s2) → codeAny (model P w) A (.builtin "set.update.loop" ⟨[.ref S, .ref it], []⟩) R sh := by
  have nw : S ∉ wr := fun q => nS (W.sub _ q)
  have sb : ∀ b ∈ wr, b ∈ S :: wr := fun b q => List.mem_cons_of_mem _ q
  intro j
  induction j with
  | zero =>
    intro i sh hj hi st hS hR
    have ei : i = n := by omega
    subst ei
    rw [List.take_of_length_le (by omega)] at hS
    refine codeAny_builtin F.entry_set_update_loop ?_
    rw [Around.under_plainId F.plain_set_update_loop _]
    refine (show wpAny _ A.in1 (pyNext (.ref it) >>= _) _ _ sh from wpAny_bind (W.done sh _ _ st fun s2 mv => ?_))
    exact (show wpAny _ A.in1 (ret Value.none) _ _ s2 from wpAny_pure (hR s2 (mv.mono sb) (hS.stay fun o ho => mv.heap S o nw ho)))
  | succ j ih =>
    intro i sh hj hi st hS hR
    have hlt : i < n := by omega
    refine codeAny_builtin F.entry_set_update_loop ?_
    rw [Around.under_plainId F.plain_set_update_loop _]
    refine (show wpAny _ A.in1 (pyNext (.ref it) >>= _) _ _ sh from wpAny_bind (W.item i sh _ _ hlt st fun v s2 hP st2 mv => ?_))
    obtain ⟨k, tk, ek, rfl⟩ := hv i v hP
    have hS2 := hS.stay (h' := s2.heap) fun o ho => mv.heap S o nw ho
    refine (show wpAny _ A.in1 (holding [Value.str k tk] (setAdd S (.str k tk)) >>= _) _ _ s2 from wpAny_bind (wpAny_holding ?_))
    unfold setAdd
    refine wpAny_holding (wpAny_bind ((strKind P w).pyHash (strKind_is P w k tk) ?_))
    have room : (dd (xs.take i)).length + 1 < scanBound := by
      have := dd_len (xs.take i)
      have := List.length_take_le i xs
      omega
    refine setS_add (sh := { s2 with toks := s2.toks + 1 }) hS2 room fun b h3 same hS3 => ?_
    have et : xs.take (i + 1) = xs.take i ++ [k] := by rw [List.take_succ, ek]; rfl
    have hS4 : SetS P w h3 S (dd (xs.take (i + 1))) := by rw [et, dd_snoc]; exact hS3
    refine wpAny_pure ⟨plainId_quiet F.plain_set_update_loop _, ih (i + 1) _ (by omega) hlt (W.frame _ s2 _ _ st2 (Nat.le_succ _) fun b hb o e => ?_) hS4 fun s5 mv5 hS5 => ?_⟩
    · rw [same.2 b (fun q => nS (by rw [← q]; exact hb))]; exact e
    · refine hR s5 (Moved.trans W.gtrans ((mv.mono sb).then_heap (Nat.le_succ _) fun b o hb e => ?_) mv5) hS5
      rw [same.2 b (fun q => hb (by rw [q]; exact List.mem_cons_self))]; exact e
theorem call_setS {l : Addr} {its : Array Value} {xs : List Str} {Q : Value → Shared → Prop} (hh : A.handled = none) (hl : sh.heap.IsList l its) (hx : StrsAre its.toList xs) (hb : its.size + 1 < scanBound)
    (hQ : ∀ (h' : Heap) (tk : Nat), SetS P w h' sh.heap.objs.size (dd xs) → (∀ b o, b < sh.heap.objs.size → sh.heap.get? b = some o → h'.get? b = some o) → Q (.ref sh.heap.objs.size) { sh with heap := h', toks := tk }) :
    wpAny (model P w) A (call (.type "set") [.ref l]) Q E sh := by
  have hlen : xs.length = its.size := by rw [← hx.length, Array.length_toList]
  obtain ⟨c0, tl0, hmro⟩ := F.called_set.mro
  have hmade := F.called_set.made
  have hsub := F.called_set.sub
  refine wpAny_call (codeAny_of_tree (show wpAny _ _ (callAny (.type "set") _) _ _ _ from wpAny_pure ⟨Code.quiet_builtin _ (by decide +kernel), codeAny_builtin F.entry_type_call ?_⟩))
  rw [Around.under_plain (weight_type_call_type "set" [.ref l] []) rfl]
  have h1 := F.called_set.notType
  have h2 := F.called_set.canCreate
  have hct := F.typeCall_set_1 (.ref l)
  repeat (any_goals (first | assumption | wp_step))
  refine codeAny_mono (code_set_led1 (.ref l) (E := E) (Q₁ := fun ob s1 => ob = .ref sh.heap.objs.size ∧ s1 = { sh with heap := sh.heap.push (setL w) }) ⟨rfl, rfl⟩) fun r s1 hr => ?_
  cases r with
  | error e => exact hr
  | ok fl =>
    cases fl with
    | ret ob =>
      obtain ⟨rfl, rfl⟩ := hr
      have hS : (sh.heap.push (setL w)).get? sh.heap.objs.size = some (setL w) := Heap.get?_push_size _ rfl
      have hT : Shared.TypeIs { sh with heap := sh.heap.push (setL w) } (.ref sh.heap.objs.size) "set" := ⟨_, hS, rfl⟩
      have hli := F.called_set.init.lookup
      have hbi := F.called_set.init.bind (.ref sh.heap.objs.size)
      repeat (any_goals (first | assumption | wp_step))
      refine codeAny_mono (codeAny_call_builtin (R := wants (fun r s2 => r = .none ∧ ∃ h' tk, s2 = { sh with heap := h', toks := tk } ∧ SetS P w h' sh.heap.objs.size (dd xs) ∧
          (∀ b o, b < sh.heap.objs.size → sh.heap.get? b = some o → h'.get? b = some o)) E) F.called_set.init.plain F.entry_set_init (check_set_init_1 hT ?_)) fun r2 s2 hr2 => ?_
      · obtain ⟨ol, hol, hcl, nl, hdl⟩ := hl
        obtain ⟨ocls, odict, odata, oslots⟩ := ol
        simp only at hcl hdl
        subst hcl; subst hdl
        have hol' : (sh.heap.push (setL w)).get? l = some { cls := .type "list", dict := odict, data := .seq its nl, slots := oslots } := Heap.get?_push_of_some _ hol
        have hsls := F.sub_list_set
        have hslf := F.sub_list_frozenset
        have hne : (Value.type "list" == Value.type "dict") = false := by decide
        have hl1 : (sh.heap.push (setL w)).IsList l its := ⟨_, hol', rfl, nl, rfl⟩
        unfold Builtin.«set.__init__» noKeywords Builtin.Frozenset.updateFrom
        generalize hPI : pyIter = PI
        wp_walk
        subst hPI
        refine wpAny_pyIter_list hl1 (wpAny_bind (wpAny_runValue ?_))
        have hlS : l < sh.heap.objs.size := Heap.lt_size hol
        have hh3 : A.in1.in1.in1.handled = none := by simp [hh]
        have hz : (sh.heap.push (setL w)).objs.size = sh.heap.objs.size + 1 := Heap.size_push ..
        have hneI : l ≠ (sh.heap.push (setL w)).objs.size := by rw [hz]; exact Nat.ne_of_lt (Nat.lt_succ_of_lt hlS)
        have hSf : sh.heap.objs.size ∉ [(sh.heap.push (setL w)).objs.size, l] := by
          rw [hz]; simp only [List.mem_cons, List.mem_singleton, List.not_mem_nil, or_false, not_or]
          exact ⟨Nat.ne_of_lt (Nat.lt_succ_self _), Nat.ne_of_gt hlS⟩
        have hv : ∀ (i : Nat) (v : Value), its[i]? = some v → ∃ k t, xs[i]? = some k ∧ v = .str k t := by
          intro i v hi
          have hi' : its.toList[i]? = some v := by rw [Array.getElem?_toList]; exact hi
          obtain ⟨t, et⟩ := SS.strs_at hx i v hi'
          have hlt : i < xs.length := by rw [hlen]; exact (Array.getElem?_eq_some_iff.mp hi).1
          exact ⟨xs[i], t, by simp [hlt], by rw [et]; simp [List.getD, hlt]⟩
        refine setS_loop ((Walks.list hh3 _ l hneI its).toS) sh.heap.objs.size hSf xs hlen hv hb (its.size - 0) 0 _ (by omega) (Nat.zero_le _) ⟨⟨_, Heap.get?_push_size _ rfl, rfl, rfl⟩, (hl1.push _)⟩ ?hS0 ?hR
        case hS0 =>
          have hget : ((sh.heap.push (setL w)).push { cls := .type "list_iterator", data := .fields #[.ref l, .int 0 0] }).get? sh.heap.objs.size = some (setL w) := Heap.get?_push_of_some _ hS
          exact setS_fresh hget
        case hR =>
          intro s3 hm hS3
          obtain ⟨h3, g3, d3, tk3, os3⟩ := s3
          have eg : g3 = sh.gens := hm.gens
          have ed : d3 = sh.drawn := hm.drawn
          have eo : os3 = sh.os := hm.os
          subst eg; subst ed; subst eo
          refine (show wpAny _ _ _ _ _ _ from wpAny_pure (show wpAny _ _ (ret Value.none) _ _ _ from wpAny_pure ⟨rfl, h3, tk3, rfl, hS3, fun b o hb e => ?_⟩))
          have hb1 : b ≠ sh.heap.objs.size := Nat.ne_of_lt hb
          have hb2 : b ≠ (sh.heap.push (setL w)).objs.size := by rw [hz]; exact Nat.ne_of_lt (Nat.lt_succ_of_lt hb)
          exact hm.heap b o (by simp only [List.mem_cons, List.mem_singleton, List.not_mem_nil, or_false, not_or]; exact ⟨hb1, hb2⟩) (Heap.get?_push_of_some _ (Heap.get?_push_of_some _ e))
      · cases r2 with
        | error e => exact hr2
        | ok fl2 =>
          cases fl2 with
          | ret r =>
            obtain ⟨rfl, h', tk, rfl, hS', hk'⟩ := hr2
            repeat (any_goals (first | assumption | wp_step))
            exact hQ _ _ hS' hk'
          | _ => exact hr2.elim
    | _ => exact hr.elim
theorem strs_of : ∀ (l : List (Int × Value)), (∀ e ∈ l, GoodS P w e) → StrsAre (l.map (·.2)) (l.map kS)
  | [], _ => .nil
  | e :: l, h => by
    obtain ⟨k, t, h1, _⟩ := h e List.mem_cons_self
    have ih := strs_of l fun x hx => h x (List.mem_cons_of_mem _ hx)
    rw [List.map_cons, List.map_cons, show kS e = k by unfold kS; rw [h1], h1]
    exact .cons k t ih
theorem strs_perm : ∀ {vs us : List Value}, vs.Perm us → ∀ {xs : List Str}, StrsAre us xs → ∃ ys, StrsAre vs ys ∧ ys.Perm xs := by
  intro vs us p
  induction p with
  | nil => intro xs h; exact ⟨xs, h, List.Perm.refl _⟩
  | cons v p ih =>
    intro xs h
    cases h with
    | cons k t h =>
      obtain ⟨ys, h1, h2⟩ := ih h
      exact ⟨k :: ys, .cons k t h1, h2.cons k⟩
  | swap a b l =>
    intro xs h
    cases h with
    | cons k t h =>
      cases h with
      | cons k2 t2 h => exact ⟨k2 :: k :: _, .cons k2 t2 (.cons k t h), List.Perm.swap _ _ _⟩
  | trans p q ih1 ih2 =>
    intro xs h
    obtain ⟨ys, h1, h2⟩ := ih2 h
    obtain ⟨zs, h3, h4⟩ := ih1 h1
    exact ⟨zs, h3, h4.trans h2⟩
theorem sorted_setS {Q : Value → Shared → Prop} (R : SetS P w sh.heap a ks) (hh : A.handled = none) (h64 : ks.length < 64)
    (hQ : ∀ s' p (out : Array Value) (c : Nat) (ys : List Str), (∀ b o, sh.heap.get? b = some o → s'.heap.get? b = some o) → s'.gens = sh.gens → s'.os = sh.os → sh.heap.objs.size ≤ p →
      s'.heap.get? p = some (seqObj "list" out c) → StrsAre out.toList ys → ys.Perm ks → sortedS ys = true → Q (.ref p) s') :
    wpAny (model P w) A (call (.builtin "sorted") [.ref a]) Q E sh := by
  obtain ⟨o, es, ep, t, ho, hex, hd, g, pk, nd, hb, hf, hr, hl⟩ := R
  refine Calls.call_function_entry kind_sorted plain_sorted entry_sorted (args_sorted1 _) ?_
  unfold Builtin.«sorted»
  refine wpAny_bind (m := checkCount "sorted" 1 1 _) (wpAny_pure ?_)
  refine wpAny_bind (collect_set (A := A.in1) hh ⟨o, ho, hex.1, hd⟩ hf hb hr hl fun s1 vs k1 hz g1 o1 pm => ?_)
  have hvl : vs.length = ks.length := by
    rw [pm.length_eq, List.length_map, ← pk.length_eq, List.length_map]
  obtain ⟨zs, hS, pz⟩ := strs_perm pm (strs_of es.toList g)
  refine wpAny_bind (wpAny_newList ?_ (by rw [hvl, sizeLine_eq]; omega))
  have hoL : (s1.heap.push (seqObj "list" vs.toArray 0)).get? s1.heap.objs.size = some (seqObj "list" vs.toArray 0) := Heap.get?_push_size _ rfl
  refine wpAny_bind (wpAny_holding (wpAny_call_entry slot_list_sort ⟨_, hoL, rfl⟩ entry_list_sort
    (list_sort_treeK strKind_oneLt (s := { s1 with heap := s1.heap.push (seqObj "list" vs.toArray 0) }) hoL hS.keysOf (fun v1 v2 rest e => keyKind_strs (by rw [← e]; exact hS)) (by rw [hvl]; exact h64) fun st' hp hs => ⟨_, rfl, ?_⟩)
    (args_list_sort _)))
  obtain ⟨ys, q1, q2, q3⟩ := sorted_out_str hS hp hs
  obtain ⟨c, hc⟩ := sortedHeap_at (vs := vs) (out := (arrOf st').map (·.2)) hoL
  refine wpAny_pure ⟨_, rfl, hQ _ s1.heap.objs.size _ c ys (fun b u e => ?_) g1 o1 hz hc q1 (q2.trans (pz.trans pk)) q3⟩
  have q := k1 b u e
  have hlt := Heap.lt_size q
  show (sortedHeap (s1.heap.push (seqObj "list" vs.toArray 0)) s1.heap.objs.size vs _).get? b = some u
  rw [sortedHeap_old (Nat.ne_of_lt hlt) (by rw [size_push']; exact Nat.lt_succ_of_lt hlt)]
  exact Heap.get?_push_of_some _ q
end
section
variable {X : Cx} {W : WX} {a : Expr} {ma : Rho → M PV} {p p2 q pos : Pos}
theorem sortS_fin (hc : X.calm = true) {pins : List (Addr × Obj)} {σ : L2.St} {H : Hp} {s : Shared} {Q : VK} {b : Addr} {ks : List Str} (I : Inv X pins σ H s) (hS : SetS X.prog X.w s.heap b ks) (h64 : ks.length < 64)
    (q : ∀ (ys : List Str) (p : Addr), ys.Perm ks → sortedS ys = true → H p = none → Q (.ref p) (upd H p (.lst (ys.map V.str)))) :
    wpAny (model X.prog X.w) X.A (call (.builtin "sorted") [.ref b]) (EP X pins σ Q) X.xe s := by
  refine sorted_setS hS (I.ok.hd hc) h64 fun s' p out c ys k g o hp hg hi pm hs => ?_
  have hlen : (ys.map V.str).length ≤ sizeLine := by rw [List.length_map, pm.length_eq, sizeLine_eq]; omega
  have hn : H p = none := I.hok.fresh hp
  have J : Inv X pins σ (upd H p (.lst (ys.map V.str))) { s with heap := s'.heap, gens := s'.gens, drawn := s'.drawn, toks := s'.toks } :=
    I.call (ch := []) (Un.laid k hp hn) (I.hok.laid k hp ⟨hlen, out.toList, c, vals_of_strs hi, hg⟩) (by rw [g]; exact I.bare) (fun _ z => nomatch z)
  have e : s' = { s with heap := s'.heap, gens := s'.gens, drawn := s'.drawn, toks := s'.toks } := by
    cases s'
    cases s
    cases o
    rfl
  rw [e]
  exact ⟨.ref p, _, J, rfl, q ys p pm hs hn⟩
end
end MP

set_option maxRecDepth 100000
set_option maxHeartbeats 3200000
namespace MP
open PySem L2 PySem.Spec PyProof.Rows
section
variable {X : Cx} {W : WX} {o e e2 : Expr} {pos apos cpos : Pos} {mo me mz : Rho → M PV} {ma : Rho → M (List PV)}
noncomputable def dropP (kvs : List (PV × PV)) (k : PV) : List (PV × PV) := kvs.filter fun kv => decide (kv.1 ≠ k)
theorem KRs.drop {K : PySem.W.Frag} {H : Hp} {μ : Mu} {k : PV} {k' : Key} (hk : MP.keyOf k = some k') : ∀ {kvs : List (PV × PV)} {kv : List (Key × V)}, KRs K H μ kvs kv → KRs K H μ (dropP kvs k) (dropK kv k')
  | [], kv, h => by have e : kv = [] := h; subst e; rfl
  | p :: kvs, kv, h => by
    obtain ⟨k1, v, t, rfl, e1, h1, h2⟩ := h
    have ih := KRs.drop hk h2
    have hiff : p.1 = k ↔ k1 = k' := by
      constructor
      · intro e; rw [e, hk] at e1; exact (Option.some.inj e1).symm
      · intro e; exact keyOf_inj (by rw [e1, e]) hk
    unfold dropP dropK at ih ⊢
    by_cases e : p.1 = k
    · rw [List.filter_cons_of_neg (by simp [e]), List.filter_cons_of_neg (by simp [hiff.mp e])]
      exact ih
    · rw [List.filter_cons_of_pos (by simp [e]), List.filter_cons_of_pos (by simpa using fun q => e (hiff.mpr q))]
      exact ⟨k1, v, _, rfl, e1, h1, ih⟩
end
end MP

set_option maxRecDepth 100000
set_option maxHeartbeats 3200000
namespace MP
open PySem L2 PySem.Spec PyProof.Rows
set_option maxRecDepth 8000 in
theorem extendT_meets (l : Addr) (its : Array Value) (n : Nat) (b : Addr) (its2 : Array Value) (n2 : Nat) (dd : Option Addr) (ss : Array (Option Value)) (h0 : ¬(!its.isEmpty && Builtin.List.listTooLong (its.size + its2.size)) = true) (h1 : its.size ≤ sizeLine) (h2 : its.size + its2.size ≤ sizeLine + 1) :
    Meets (Builtin.«list.extend» ⟨[.ref l, .ref b], []⟩) (fun _ R s => s.heap.get? l = some { cls := .type "list", dict := none, data := .seq its n, slots := #[] } ∧ s.heap.get? b = some { cls := .type "tuple", dict := dd, data := .seq its2 n2, slots := ss } ∧ R (.ok (.ret Value.none)) { s with heap := s.heap.update l (Obj.mapSeq fun x => x ++ its2), toks := s.toks }) :=
  .of_wp fun prog w A R s h => by
    obtain ⟨hp, g, d, tk, os⟩ := s
    obtain ⟨hl, hb, h⟩ := h
    have f1 := PySem.AutoSeq1.idx_int
    have f2 := PySem.AutoSeq1.sub_tuple_tuple
    have f3 := PySem.AutoSeq1.sub_list_list
    have f4 := PySem.AutoSeq1.sub_tuple_list
    have f5 := PySem.AutoSeq1.sub_list_tuple
    have hz' : (its ++ its2).size ≤ sizeLine + 1 := by rw [Array.size_append]; exact h2
    wp_walk using (wpAny_updateSeq hl rfl (hz := h1) (_hz' := hz')), PySem.AutoSeq1.wpAny_loadPart' hl, PySem.AutoSeq1.wpAny_loadPart' hb
    exact ⟨_, rfl, h⟩
noncomputable def rExtendT (K : PySem.W.Frag) : V → List V → Hp → VK → Prop := fun x vs H Q => ∃ l b xs zs, x = .ref l ∧ vs = [.ref b] ∧ H l = some (.lst xs) ∧ SqT K H b zs ∧ xs.length + zs.length ≤ sizeLine ∧ Q .non (upd H l (.lst (xs ++ zs)))
theorem mt_extendT {X : Cx} : MtM X "list.extend" (rExtendT X.K) := by
  intro pins s σ H x vs v us Q I rx rv h
  obtain ⟨l, b, xs, zs, rfl, rfl, hH, hB, hz, q⟩ := h
  cases rx
  obtain ⟨u, rfl, ru⟩ := rv.one
  cases ru
  obtain ⟨z, its, n, r, hl, e⟩ := I.lstM hH
  obtain ⟨its2, r2, ⟨o, ho, hc, n2, hd⟩, hz2⟩ := I.tuple hB
  have hl2 := r2.length
  obtain ⟨ocl, odc, oda, osl⟩ := o
  simp only at hc hd
  subst hc hd
  have hsz : its.toArray.size + its2.toArray.size ≤ sizeLine := by rw [List.size_toArray, List.size_toArray]; omega
  have hlong : ¬ (!its.toArray.isEmpty && Builtin.List.listTooLong (its.toArray.size + its2.toArray.size)) = true := by
    rw [notLongL hsz, Bool.and_false]
    exact Bool.false_ne_true
  refine call_meets PySem.F.slot_list_extend ⟨_, e, rfl⟩ PySem.F.entry_list_extend (PySem.F.args_list_extend_2 _ _)
    (extendT_meets l its.toArray n b its2.toArray n2 odc osl hlong (by rw [List.size_toArray]; omega) (by omega)) ⟨e, ho, ?_⟩
  refine ⟨.non, _, I.lset (its' := its ++ its2) hH e (by simp) (r.append r2) ?_, rfl, q⟩
  rw [List.length_append]
  omega
noncomputable def tupOf : PV → Option (List PV)
  | .tup xs => some xs
  | _ => none
noncomputable def extendA (o : PV) (xs : List PV) : M PV := fun st => match lstCell o st with
  | some (n, ys) => match xs with
    | [x] => match tupOf x with
      | some zs => if ys.length + zs.length ≤ SZ then .ok .non (st.set n (.lst (ys ++ zs))) else .bad
      | none => match MP.listOf x st with
        | some zs => if ys.length + zs.length ≤ SZ then .ok .non (st.set n (.lst (ys ++ zs))) else .bad
        | none => .bad
    | _ => .bad
  | none => .bad
theorem t_extendA {K : KW} : TMe K (fun x vs H Q => rExtend x vs H Q ∨ rExtendT K.K x vs H Q) extendA := by
  intro μ st H o xs u us E Q sr ro rs h
  unfold extendA at h
  cases q : lstCell o st with
  | none => rw [q] at h; exact h.elim
  | some p =>
    obtain ⟨n, ys⟩ := p
    rw [q] at h
    dsimp only at h
    obtain ⟨a, vs, rfl, ha, h1, h2⟩ := lstCell_at sr ro q
    cases xs with
    | nil => exact h.elim
    | cons x t =>
      cases t with
      | cons y t => exact h.elim
      | nil =>
        dsimp only at h
        obtain ⟨w, rfl, rw'⟩ := one_of rs
        cases ht : tupOf x with
        | some zs =>
          rw [ht] at h
          dsimp only at h
          cases x with
          | tup zs' =>
            cases ht
            by_cases hz : ys.length + zs.length ≤ SZ
            · rw [if_pos hz] at h
              obtain ⟨b, ws, rfl, t, h4⟩ := tup_at rw'
              refine .inr ⟨a, b, vs, ws, rfl, rfl, h1, t.sq, by rw [← VRs.length h2, ← VRs.length h4, sz_eq]; exact hz, ?_⟩
              exact h μ _ .non (gr_put ha h1 rfl) (sr.put ha ⟨_, upd_same, VRs.monov (gv_put ha) _ _ (VRs.append h2 h4)⟩) rfl
            · rw [if_neg hz] at h; exact h.elim
          | _ => cases ht
        | none =>
          rw [ht] at h
          dsimp only at h
          cases hl : MP.listOf x st with
          | none => rw [hl] at h; exact h.elim
          | some zs =>
            rw [hl] at h
            dsimp only at h
            by_cases hz : ys.length + zs.length ≤ SZ
            · rw [if_pos hz] at h
              obtain ⟨b, ws, rfl, h3, h4⟩ := listOf_at sr rw' hl
              refine .inl ⟨a, b, vs, ws, rfl, rfl, h1, h3, by rw [← VRs.length h2, ← VRs.length h4, sz_eq]; exact hz, ?_⟩
              exact h μ _ .non (gr_put ha h1 rfl) (sr.put ha ⟨_, upd_same, VRs.monov (gv_put ha) _ _ (VRs.append h2 h4)⟩) rfl
            · rw [if_neg hz] at h; exact h.elim
theorem mtM_or {X : Cx} {id : String} {r r' : V → List V → Hp → VK → Prop} (h : MtM X id r) (h' : MtM X id r') : MtM X id (fun x vs H Q => r x vs H Q ∨ r' x vs H Q) := fun pins s σ H x vs v us Q I rx rv q => by
  rcases q with q | q
  · exact h pins s σ H x vs v us Q I rx rv q
  · exact h' pins s σ H x vs v us Q I rx rv q
section
variable {X : Cx} {W : WX} {o e e2 : Expr} {p pos tpos apos cpos : Pos} {elts : List Expr} {kk : Nat} {mo me me2 : Rho → M PV} {ma : Rho → M (List PV)}
theorem me_extendA (ho : ME X W o mo) (ha : MA X W [e] ma)
    (hbase : attributeBase o "extend" X.env (eval o X.env) = eval o X.env := by kernel_rfl)
    (hfew : ((backTo cpos (starEach [e] X.env)).all (fun x => !x.1) && (backToKw cpos (keywordEach [] X.env)).all (fun x => x.1.isSome)
      && decide ([e].length + ([] : List Keyword).length + (if ([] : List Keyword).isEmpty then 0 else 1) < 30)) = true := by kernel_rfl)
    (hline : (apos.endLine == cpos.line) = true := by kernel_rfl) (hs : starEach [e] X.env = (false, eval e X.env) :: starEach [] X.env := by kernel_rfl) :
    ME X W (.Call (.Attribute o "extend" apos) [e] [] cpos) (eMeth "list" extendA mo ma) :=
  me_meth PySem.F.plainAttrs_list PySem.F.slot_list_extend PySem.F.type_list_extend (mtM_or mt_extend mt_extendT) t_extendA ho ha hbase hfew hline hs rfl
end
end MP

set_option maxRecDepth 100000
set_option maxHeartbeats 3200000
namespace MP
open PySem L2 PySem.Spec PyProof.Rows
section
variable {X : Cx} {W : WX} {a b : Expr} {pos : Pos} {ma mb : Rho → M PV}
end
end MP

set_option maxRecDepth 100000
set_option maxHeartbeats 1000000
namespace MP
open PySem L2 PySem.Spec PyProof.Rows
structure CIni (K : PySem.W.Frag) (B : Addr) : Prop where
  rd : PySem.W.readsIn K B (.type "type") = true
  fi : PySem.W.findCls K (.ref B) (.type "type") "__init__" = some (.val (.builtin "ValueError.__init__"))
  sg : PySem.W.specialIn K (.ref B) "__getattribute__" = some (some (.builtin "type.__getattribute__"))
section
variable {X : Cx} {e : Expr} {es : List Expr} {ta : TA} {p1 p2 pos : Pos} {b : Str} {B : Addr}
end
inductive Chain (X : Cx) : Nat → List String → List Stmt → Prop
  | nil {i : Nat} : Chain X i [] []
  | cons {i : Nat} {f : String} {fs : List String} {st : Stmt} {rest : List Stmt} (h : PS X st (tOst X.K (Str.ofString f) (tVar 0) (tVar i))) (r : Chain X (i + 1) fs rest) : Chain X i (f :: fs) (st :: rest)
inductive InitOk (X : Cx) (names : List String) : List Stmt → Prop
  | mk {st : Stmt} {rest : List Stmt} {t : TS} (h : PS X st t) (i : ∀ (D : Ends) (σ : L2.St) (H : Hp) (a C : Addr), OexC X.K C → σ[0]? = some (some (.ref a)) → H a = some (exo a C none) → D.nx σ H → t D σ H) (c : Chain X 1 names rest) : InitOk X names (st :: rest)
noncomputable def exnR (c : String) (names : List String) (ps : List PV) : Exn := ⟨c, go names ps []⟩
where go : List String → List PV → List (String × PV) → List (String × PV)
  | f :: fs, p :: ps, l => go fs ps ((f, p) :: l)
  | _, _, l => l
noncomputable def sRaise (c : String) (names : List String) (ma : Rho → M (List PV)) : Rho → M Fl := fun ρ => onErr ρ (ma ρ) fun ps => M.ret (.exc (exnR c names ps) ρ)
end MP

set_option maxRecDepth 100000
set_option maxHeartbeats 1000000
namespace MP
open PySem L2 PySem.Spec PyProof.Rows
noncomputable def LookV : List String → List (Str × V) → List V → Prop
  | [], _, vs => vs = []
  | f :: r, l, vs => ∃ v t, vs = v :: t ∧ l.lookup (Str.ofString f) = some v ∧ LookV r l t
noncomputable def lookAll : List String → List (String × PV) → Option (List PV)
  | [], _ => some []
  | f :: r, l => match lookA l f with
    | some v => match lookAll r l with
      | some vs => some (v :: vs)
      | none => none
    | none => none
theorem LookV.len : ∀ {fs : List String} {fl : List (Str × V)} {vs : List V}, LookV fs fl vs → vs.length = fs.length
  | [], fl, vs, h => by have e : vs = [] := h; subst e; rfl
  | f :: r, fl, vs, h => by obtain ⟨v, t, rfl, _, h2⟩ := h; rw [List.length_cons, List.length_cons, LookV.len h2]
noncomputable def sTryT (c : String) (i j : Nat) (fs : List String) (mb : Rho → M Fl) : Rho → M Fl := fun ρ st => match mb ρ st with
  | .ok (.exc x ρ') st' => if x.C = c ∧ i < ρ'.length then (match lookAll fs x.fs with
    | some ps => .ok (.next ((ρ'.set j (some (.tup ps))).set i none)) st'
    | none => .bad) else .bad
  | r => r
section
variable {X : Cx} {W : WX} {x n : Str} {c : String} {C : Addr} {i j : Nat} {body suite : List Stmt} {b₀ : Stmt} {np pos pos' : Pos} {fs : List String} {mb : Rho → M Fl}
end
section
variable {X : Cx} {a dd C : Addr} {oe : Obj} {pn : List (Addr × Obj)} {i j : Nat}
inductive Flds (X : Cx) (a dd C : Addr) (oe : Obj) (pn : List (Addr × Obj)) (i : Nat) : List String → List Expr → Prop
  | nil : Flds X a dd C oe pn i [] []
  | cons {f : String} {fs : List String} {e : Expr} {es : List Expr} (h : PE (X.suite a ((a, oe) :: pn)) e (tXf a (.ref C) (some dd) C (Str.ofString f) (tVar i))) (hs : starEach (e :: es) X.env = (false, eval e X.env) :: starEach es X.env) (r : Flds X a dd C oe pn i fs es) : Flds X a dd C oe pn i (f :: fs) (e :: es)
end
end MP

set_option maxRecDepth 100000
set_option maxHeartbeats 1000000
namespace MP
open PySem L2
section
variable {K : KW} {H H1 : Hp} {μ : Mu} {a : Addr} {n : Nat} {kvs : List (PV × PV)} {kv : List (Key × V)} {od : Obj}
end
end MP

set_option maxRecDepth 100000
set_option maxHeartbeats 1000000
namespace MP
open PySem L2 PySem.Spec PyProof.Rows
section
variable {P : Program} {w : World} {K : PySem.W.Frag} {tg : Expr} {d : Addr} {o : Obj} {es : Array DictEntry} {ep : Nat} {xs : List (NestedKey × Addr × Value)}
end
section
variable {K : KW} {H H1 : Hp} {μ : Mu} {a : Addr} {n : Nat} {kvs : List (PV × PV)} {xs : List (NestedKey × Addr × Value)} {od : Obj}
theorem NRs.at : ∀ {kvs : List (PV × PV)} {xs : List (NestedKey × Addr × Value)} {i : Nat} {p : PV}, NRs K.K H μ kvs xs → (kvs.map Prod.fst)[i]? = some p → ∃ k q v, xs[i]? = some (k, q, v) ∧ VR K.K H μ p (.ref q)
  | [], _, _, _, _, e => by simp at e
  | _ :: _, _, 0, p, .cons h _, e => by
    simp at e
    subst e
    exact ⟨_, _, _, rfl, h.2.1⟩
  | _ :: _, _, i + 1, p, .cons _ r, e => by
    obtain ⟨k, q, v, e1, e2⟩ := NRs.at (i := i) (p := p) r (by simpa using e)
    exact ⟨k, q, v, by simpa using e1, e2⟩
end
end MP

set_option maxRecDepth 100000
set_option maxHeartbeats 1000000
namespace MP
open PySem L2 PySem.Spec PyProof.Rows
section
variable {X : Cx} {W : WX} {pos : Pos}
noncomputable def itA (p : PV) (st : Sto) : Option (List PV) := match p with
  | .tup xs => some xs
  | .lst xs => some xs
  | .loc k => match st[k]? with
    | some (.lst xs) => some xs
    | _ => none
  | _ => none
noncomputable def gTA (n : Nat) (r : GsM) : GM := fun p ρ st => match itA p st with
  | some xs => if xs.length = n then M.calm (r xs ρ) st else .bad
  | none => .bad
end
end MP

set_option maxRecDepth 100000
set_option maxHeartbeats 1000000
namespace HT
open PySem PySem.Spec PyProof.Rows
section
variable {prog : Program} {w : World} {A : Around} {E : Value → Shared → Prop} {s : Shared}
end
end HT

namespace L2
open PySem PySem.Spec PyProof.Rows
section
variable {X : Cx} {pos p2 p3 p1 : Pos} {e : Expr} {te : TE} {k : Nat}
noncomputable def RvR (X : Cx) (r : V → Hp → VK → Prop) : Prop :=
  ∀ (pins : List (Addr × Obj)) (s : Shared) (σ : St) (H : Hp) (x : V) (v vl vu vs : Value) (sl : Addr) (Q : VK), Inv X pins σ H s → RelV x v → s.heap.IsSliceOf sl vl vu vs → IsPart vl none → IsPart vu none → IsPart vs (some (-1)) → r x H Q →
    ∃ T id, typeLookup (.type T) "__getitem__" = pure (some (.builtin id)) ∧ s.TypeIs v T ∧ wpAny (model X.prog X.w) X.A (getItem v (.ref sl)) (EP X pins σ Q) X.xe s
theorem RvR.or {r r' : V → Hp → VK → Prop} (h : RvR X r) (h' : RvR X r') : RvR X (fun x H Q => r x H Q ∨ r' x H Q) := by
  intro pins s σ H x v vl vu vs sl Q I rx hs pl pu ps q
  rcases q with q | q
  · exact h pins s σ H x v vl vu vs sl Q I rx hs pl pu ps q
  · exact h' pins s σ H x v vl vu vs sl Q I rx hs pl pu ps q
end
end L2

namespace MP
open PySem L2 PySem.Spec PyProof.Rows
section
variable {X : Cx} {W : WX} {e : Expr} {pos p1 p2 p3 : Pos} {k : Nat} {me : Rho → M PV}
noncomputable def rvsM (x : PV) : M PV := match x with
  | .str z => if z.length ≤ SZ then M.ret (.str z.reverse) else M.fail
  | .tup xs => M.ret (.tup xs.reverse)
  | _ => M.fail
noncomputable def notT (x y : PV) : M PV := match y with
  | .bl b => match x with
    | .bl a => M.ret (.bl (!decide (a = b)))
    | .non => M.ret (.bl true)
    | .tup _ => M.ret (.bl true)
    | _ => M.fail
  | _ => M.fail
end
end MP

set_option maxRecDepth 100000
namespace MP
open PySem L2 PySem.Spec PyProof.Rows
noncomputable def inDM (n : Bool) (x y : PV) : M PV := fun st => match shal y st with
  | .lst ys => if (layP x && layPs ys && decide (depP x ≤ 60)) = true then .ok (.bl (ng n (ys.any fun p => eqb p x))) st else .bad
  | _ => .bad
noncomputable def rInDM (K : PySem.W.Frag) (n : Bool) : R2 := fun x y H Q => ∃ d ds, Dp K H x d ∧ Dp K H y (.list ds) ∧ d.canLay0 = true ∧ PyData.canLayAll0 ds = true ∧ d.depth ≤ 60 ∧ Q (.bl (ng n (ds.any fun z => PyData.eqv z d))) H
theorem op_inDM {X : Cx} (hu : X.A.units + 64 < cLine) : OpR X (compareOp .In) (rInDM X.K false) := by
  intro pins s σ H x y v u Q I rx ry h
  obtain ⟨d, ds, hd, he, sd, se, hp, q⟩ := h
  obtain ⟨as, r1⟩ := Dp.reads I d x v hd rx
  obtain ⟨bs, r2⟩ := Dp.reads I (.list ds) y u he ry
  exact SeqAt.in_list_reads r2 r1 se sd (by have : min (PyData.depthAll ds) d.depth ≤ d.depth := Nat.min_le_right _ _; omega) ⟨.bl _, H, I, rfl, q⟩
theorem op_notInDM {X : Cx} (hu : X.A.units + 64 < cLine) : OpR X (compareOp .NotIn) (rInDM X.K true) := by
  intro pins s σ H x y v u Q I rx ry h
  obtain ⟨d, ds, hd, he, sd, se, hp, q⟩ := h
  obtain ⟨as, r1⟩ := Dp.reads I d x v hd rx
  obtain ⟨bs, r2⟩ := Dp.reads I (.list ds) y u he ry
  exact SeqAt.notIn_list_reads r2 r1 se sd (by have : min (PyData.depthAll ds) d.depth ≤ d.depth := Nat.min_le_right _ _; omega) ⟨.bl _, H, I, rfl, q⟩
theorem any_eqv {x : PV} {d : PyData} (hd : toD x = some d) : ∀ {ys : List PV} {ds : List PyData}, toDs ys = some ds → (ds.any fun z => PyData.eqv z d) = ys.any fun p => eqb p x
  | [], ds, h => by
    simp [toDs] at h; subst h; rfl
  | y :: ys, ds, h => by
    cases q1 : toD y with
    | none => simp [toDs, q1] at h
    | some e =>
      cases q2 : toDs ys with
      | none => simp [toDs, q1, q2] at h
      | some es =>
        simp [toDs, q1, q2] at h
        subst h
        simp only [List.any_cons]
        rw [any_eqv hd q2, eqb_eqv y x e d q1 hd]
theorem t_inD {K : KW} {n : Bool} : T2 K (rInDM K n) (inDM n) := by
  intro μ st H x y u v E Q sr rx ry h
  unfold inDM at h
  cases hy : shal y st with
  | lst ys =>
    rw [hy] at h
    dsimp only at h
    by_cases hc : (layP x && layPs ys && decide (depP x ≤ 60)) = true
    · rw [if_pos hc] at h
      simp only [Bool.and_eq_true, decide_eq_true_eq] at hc
      obtain ⟨⟨l1, l2⟩, d1⟩ := hc
      obtain ⟨d, e1, c1, p1⟩ := lay_toD _ l1
      obtain ⟨ds, e2, c2, p2⟩ := lays_toD _ l2
      have s1 : shal x st = x := by
        cases x <;> first | rfl | (simp [layP] at l1)
      have dx : Dp K H u d := dp_shal sr rx (by rw [s1]; exact e1)
      have dy : Dp K H v (.list ds) := dp_shal sr ry (by rw [hy]; simp [toD, e2])
      refine ⟨d, ds, dx, dy, c1, c2, by rw [p1]; exact d1, ?_⟩
      rw [any_eqv e1 e2]
      exact post_same h sr rfl
    · rw [if_neg hc] at h
      exact h.elim
  | _ => rw [hy] at h; exact h.elim
section
variable {X : Cx} {W : WX} {a b : Expr} {pos : Pos} {ma mb : Rho → M PV}
theorem me_inD (hu : X.A.units + 64 < cLine) (ha : ME X W a ma) (hb : ME X W b mb) (hm : behindInMarks .In b = false) : ME X W (.Compare a [.In] [b] pos) (eBin (inDM false) ma mb) := me_cmp (op_inDM hu) t_inD ha hb hm
theorem mt_inD (hu : X.A.units + 64 < cLine) (ha : ME X W a ma) (hb : ME X W b mb) (hm : behindInMarks .In b = false) : MT X W (.Compare a [.In] [b] pos) (eB (eBin (inDM false) ma mb)) := mt_cmp (op_inDM hu) t_inD ha hb hm
theorem mt_notinD (hu : X.A.units + 64 < cLine) (ha : ME X W a ma) (hb : ME X W b mb) (hm : behindInMarks .NotIn b = false) : MT X W (.Compare a [.NotIn] [b] pos) (eB (eBin (inDM true) ma mb)) := mt_cmp (op_notInDM hu) t_inD ha hb hm
end
noncomputable def isT (x y : PV) : M PV := match y with
  | .bl b => match x with
    | .bl a => M.ret (.bl (decide (a = b)))
    | .non => M.ret (.bl false)
    | .tup _ => M.ret (.bl false)
    | _ => M.fail
  | _ => M.fail
section
variable {X : Cx} {W : WX} {a b : Expr} {pos : Pos} {ma mb : Rho → M PV}
end
noncomputable def sTryN (mb : Rho → M Fl) : Rho → M Fl := fun ρ st => match mb ρ st with
  | .ok (.exc _ _) _ => .bad
  | r => r
end MP

set_option maxRecDepth 100000
namespace PySem
open Sem (wp)
end PySem
namespace PySem.W
open PySem PySem.SeqAt PyProof.Rows
end PySem.W
namespace MP
open PySem L2 PySem.Spec PyProof.Rows
noncomputable def ltD (x y : PV) : Bool := match toD x, toD y with
  | some d, some e => PySem.W.dataLt d e
  | _, _ => false
end MP

set_option maxRecDepth 100000
set_option maxHeartbeats 3200000
namespace MP
open PySem L2 PySem.Spec PyProof.Rows
section
variable {P : Program} {w : World} {A : Around} {E : Value → Shared → Prop} {sh : Shared} {a : Addr} {h h' : Heap}
noncomputable def SetO (P : Program) (w : World) (h : Heap) (a : Addr) (e : Int × Value) : Prop :=
  ∃ o ep t, h.get? a = some o ∧ o.ExactSet ∧ o.data = .set #[e] ep t ∧ t.fits 1 = true ∧ Ris t.place.toList ∧ (w.params.followText "set-order" = true ∨ t.led = true)
theorem SetO.stay {e : Int × Value} (R : SetO P w h a e) (k : ∀ o, h.get? a = some o → h'.get? a = some o) : SetO P w h' a e := by
  obtain ⟨o, ep, t, ho, r⟩ := R
  exact ⟨o, ep, t, k o ho, r⟩
theorem hbv_key : ∀ (d : Nat) (k : NestedKey) (v : Value) {Q : Bool → Shared → Prop}, NestedIs sh.heap k v → (∀ b, Q b sh) → wpAny (model P w) A (hashByValue d v) Q E sh
  | d, .none, v, Q, x, h => by cases x; cases d <;> exact wpAny_pure (h true)
  | d, .num i, v, Q, x, h => by cases x <;> cases d <;> exact wpAny_pure (h true)
  | d, .text y, v, Q, x, h => by cases x; cases d <;> exact wpAny_pure (h false)
  | 0, .tup ks, v, Q, x, h => by cases x; exact wpAny_pure (h false)
  | d + 1, .tup ks, v, Q, x, h => by
    cases x with
    | @tup b o vs n _ ho hc hd hk =>
      unfold hashByValue
      refine wpAny_bind (wpAny_specialOf ⟨_, ho, hc⟩ F.slot_tuple_hash.lookup ?_)
      show wpAny _ _ (seqItems? (.ref b) >>= _) _ _ sh
      refine wpAny_bind (wpAny_seqItems ho hd ?_)
      refine wpAny_bind ?_
      show wpAny _ _ (forIn vs _ _) _ _ sh
      rw [← Array.forIn_toList]
      refine wpAny_forIn_list _ (fun rest r s' => sh = s' ∧ ∃ ls, NestedAll sh.heap ls rest) _ ?_ ?_ _ _ ⟨rfl, ks, hk⟩
      · rintro u rest r s' ⟨rfl, ls, hall⟩
        cases hall with
        | @cons k1 _ ks1 _ h1 h2 =>
          refine wpAny_bind (hbv_key d k1 u h1 fun b => ?_)
          cases b
          · simp only [Bool.not_false, if_true]
            exact wpAny_pure (show wpAny _ _ (pure false) _ _ sh from wpAny_pure (h false))
          · simp only [Bool.not_true, Bool.false_eq_true, if_false]
            exact wpAny_pure ⟨rfl, _, h2⟩
      · rintro ⟨r1, r2⟩ s' ⟨rfl, _⟩
        cases r1 with
        | none => exact wpAny_pure (h true)
        | some b => exact wpAny_pure (h b)
end
section
variable {X : Cx} {W : WX} {a : Expr} {ma : Rho → M PV} {p p2 q pos : Pos}
end
end MP

set_option maxRecDepth 100000
set_option maxHeartbeats 3200000
namespace MP
open PySem L2 PySem.Spec
section
variable {X : Cx} {W : WX} {e : Expr} {p pos kp bp : Pos} {j : Nat} {ma : Rho → M (List PV)}
end
end MP

set_option maxRecDepth 100000
set_option maxHeartbeats 3200000
namespace MP
open PySem L2 PySem.Spec PyProof.Rows
section
variable {X : Cx} {W : WX} {a : Expr} {ma : Rho → M PV} {p p2 q pos : Pos}
end
end MP

set_option maxRecDepth 100000
namespace MP
open PySem L2 PySem.Spec PyProof.Rows
noncomputable def minTM (xs : List PV) : M PV := match xs with
  | [.str a, .str b] => fun st => .ok (if ltD (.str b) (.str a) then .str b else .str a) st
  | _ => M.fail
section
variable {X : Cx} {W : WX} {a b : Expr} {pos : Pos} {ma mb : Rho → M PV}
end
end MP

set_option maxRecDepth 100000
set_option maxHeartbeats 3200000
namespace MP
open PySem L2 PySem.Spec PyProof.Rows
noncomputable abbrev KyL := List (Addr × NestedKey)
noncomputable def entK (w : World) (p : Addr × NestedKey) : Int × Value := (p.2.hash w, .ref p.1)
noncomputable def KyAt (h : Heap) (p : Addr × NestedKey) : Prop := NestedIs h p.2 (.ref p.1) ∧ p.2.depth ≤ 8
section
variable {P : Program} {w : World} {A : Around} {E : Value → Shared → Prop} {sh : Shared} {a : Addr} {h h' : Heap} {L : KyL} {es : Array (Int × Value)} {ep : Nat} {t : SetTable}
theorem KyAt.mv {p : Addr × NestedKey} (x : KyAt h p) (k : ∀ b o, h.get? b = some o → h'.get? b = some o) : KyAt h' p := ⟨NestedIs.at (fun b o _ _ e _ => k b o e) _ _ x.1, x.2⟩
theorem KyAt.same {p : Addr × NestedKey} {o : Obj} {es : Array (Int × Value)} {ep : Nat} {t : SetTable} (x : KyAt h p) (ho : h.get? a = some o) (hd : o.data = .set es ep t) (hs : Heap.SameBut a h h') : KyAt h' p :=
  ⟨NestedIs.at (fun b ob vs n e c => by
    refine (hs.2 b fun z => ?_).trans e
    subst z
    rw [ho] at e
    cases e
    rw [hd] at c
    cases c) _ _ x.1, x.2⟩
structure SetK (P : Program) (w : World) (h : Heap) (a : Addr) (L : KyL) (es : Array (Int × Value)) (ep : Nat) (t : SetTable) : Prop where
  ob : ∃ o, h.get? a = some o ∧ o.ExactSet ∧ o.data = .set es ep t
  rows : es.toList = L.map (entK w)
  tab : TabOk t (L.map fun p => p.2.hash w)
  nd : (L.map (·.2)).Nodup
  key : ∀ p ∈ L, KyAt h p
  led : w.params.followText "set-order" = true ∨ t.led = true
  room : L.length * 5 < t.mask * 3
  few : L.length < 64
theorem SetK.sz (R : SetK P w h a L es ep t) : es.size = L.length := by
  have := congrArg List.length R.rows
  simpa using this
theorem SetK.psz (R : SetK P w h a L es ep t) : t.place.toList.length = L.length := by
  have := R.tab.sz
  simpa using this
theorem SetK.fit (R : SetK P w h a L es ep t) : t.fits es.size = true := by
  have h1 := R.tab.sz
  have h2 := R.sz
  have h3 := R.room
  simp only [List.length_map] at h1
  simp only [SetTable.fits, SetTable.fill, R.tab.dm, Bool.and_eq_true, beq_iff_eq, decide_eq_true_eq]
  exact ⟨by omega, by simp; omega⟩
theorem SetK.ent (R : SetK P w h a L es ep t) {i : Nat} {p : Addr × NestedKey} (e : L[i]? = some p) : es[i]? = some (entK w p) := by
  rw [← Array.getElem?_toList, R.rows, List.getElem?_map, e]; rfl
theorem SetK.stay (R : SetK P w h a L es ep t) (k : ∀ b o, h.get? b = some o → h'.get? b = some o) : SetK P w h' a L es ep t := by
  obtain ⟨o, ho, r⟩ := R.ob
  exact ⟨⟨o, k _ _ ho, r⟩, R.rows, R.tab, R.nd, fun p hp => (R.key p hp).mv k, R.led, R.room, R.few⟩
theorem not_class : ∀ (d : Nat) (k : NestedKey) (v : Value) {Q : Bool → Shared → Prop}, NestedIs sh.heap k v → k.depth ≤ d → Q false sh → wpAny (model P w) A (ofAClassStatement d v) Q E sh
  | d, .none, v, Q, x, _, q => by cases x; cases d <;> exact wpAny_pure q
  | d, .num i, v, Q, x, _, q => by cases x <;> cases d <;> exact wpAny_pure q
  | d, .text y, v, Q, x, _, q => by cases x; cases d <;> exact wpAny_pure q
  | 0, .tup ks, v, Q, x, hd, q => by simp only [NestedKey.depth] at hd; omega
  | d + 1, .tup ks, v, Q, x, hd, q => by
    cases x with
    | @tup b o vs n _ ho hc hda hk =>
      simp only [NestedKey.depth] at hd
      unfold ofAClassStatement
      refine wpAny_bind (wpAny_typeOf ⟨_, ho, hc⟩ ?_)
      simp only [show (("tuple" : String) == "tuple") = true from by decide, if_true]
      refine wpAny_bind (wpAny_pure ?_)
      simp only [Bool.not_true, Bool.false_eq_true, if_false]
      refine (show wpAny _ _ (seqItems? (.ref b) >>= _) _ _ sh from wpAny_bind (wpAny_seqItems ho hda ?_))
      refine wpAny_bind ?_
      refine (show wpAny _ _ (forIn vs _ _) _ _ sh from ?_)
      rw [← Array.forIn_toList]
      refine wpAny_forIn_list _ (fun rest r s' => r.1 = none ∧ sh = s' ∧ ∃ ls, NestedAll sh.heap ls rest ∧ NestedKey.depthAll ls ≤ d) _ ?_ ?_ _ _ ⟨rfl, rfl, ks, hk, by omega⟩
      · rintro u rest r s' ⟨hr, rfl, ls, hall, hdl⟩
        cases hall with
        | @cons k1 _ ks1 _ g1 g2 =>
          simp only [NestedKey.depthAll] at hdl
          refine wpAny_bind (not_class d k1 u g1 (by omega) ?_)
          simp only [Bool.false_eq_true, if_false]
          exact wpAny_pure ⟨rfl, rfl, _, g2, by omega⟩
      · rintro ⟨r1, r2⟩ s' ⟨hr, rfl, _⟩
        simp only at hr
        subst hr
        exact wpAny_pure q
theorem not_seen {x : Addr} {k : NestedKey} (hx : KyAt sh.heap (x, k)) {ys : List Value} (hy : ∀ y ∈ ys, ∃ p, y = Value.ref p.1 ∧ KyAt sh.heap p) {Q : Bool → Shared → Prop} (q : Q false sh) : wpAny (model P w) A (searchCouldBeSeen (.ref x) ys) Q E sh := by
  unfold searchCouldBeSeen
  refine wpAny_bind ?_
  refine wpAny_forIn_list _ (fun rest r s' => r.1 = none ∧ sh = s' ∧ ∀ y ∈ rest, ∃ p, y = Value.ref p.1 ∧ KyAt sh.heap p) _ ?_ ?_ _ _ ⟨rfl, rfl, hy⟩
  · rintro v rest r s' ⟨hr, rfl, hall⟩
    obtain ⟨⟨c, kc⟩, rfl, hc⟩ := hall v List.mem_cons_self
    have more : ∀ y ∈ rest, ∃ p, y = Value.ref p.1 ∧ KyAt sh.heap p := fun u hu => hall u (List.mem_cons_of_mem _ hu)
    dsimp only
    cases hv : (x == c || (carriedByValue (.ref x) && carriedByValue (.ref c))) with
    | true =>
      simp only [if_true]
      exact wpAny_pure ⟨rfl, rfl, more⟩
    | false =>
      simp only [Bool.false_eq_true, if_false]
      refine wpAny_bind (quiet_key k (.ref x) 8 sh hx.1 hx.2 _ _ _ ?_)
      simp only [Bool.not_true, Bool.false_eq_true, if_false]
      refine wpAny_bind (quiet_key kc (.ref c) 8 sh hc.1 hc.2 _ _ _ ?_)
      simp only [Bool.not_true, Bool.false_eq_true, if_false]
      refine wpAny_bind (not_class 8 k (.ref x) hx.1 hx.2 ?_)
      simp only [Bool.false_eq_true, if_false]
      refine wpAny_bind (not_class 8 kc (.ref c) hc.1 hc.2 ?_)
      simp only [Bool.false_eq_true, if_false]
      exact wpAny_pure ⟨rfl, rfl, more⟩
  · rintro ⟨r1, r2⟩ s' ⟨hr, rfl, _⟩
    simp only at hr
    subst hr
    exact wpAny_pure q
theorem nth_dm {m : Nat} : ∀ (n : Nat) (p : SetTable.Probe), p.dummy = none → (nth m p n).dummy = none
  | 0, p, h => h
  | n + 1, p, h => nth_dm n (adv m p) (by unfold adv; split <;> exact h)
theorem rest_keys (R : SetK P w sh.heap a L es ep t) {x : Addr} {k : NestedKey} (hx : KyAt sh.heap (x, k)) (hu : A.units + 8 < cLine) {f j i : Nat} {next : SetTable.Probe} {p : Addr × NestedKey} {Q : SetFound → Shared → Prop}
    (hp : L[i]? = some p) (hj : t.place.toList[i]? = some j) (q1 : p.2 = k → Q (.there none) sh) (q2 : p.2 ≠ k → wpAny (model P w) A (setSearchFrom a (.ref x) (k.hash w) true f (some next)) Q E sh) :
    wpAny (model P w) A (searchRest a (.ref x) (k.hash w) true f es t j i next) Q E sh := by
  obtain ⟨o, ho, hex, hd⟩ := R.ob
  have hpk := R.key p (List.mem_of_getElem? hp)
  have eq : ∀ {Q' : Bool → Shared → Prop}, Q' (decide (p.2 = k)) sh → wpAny (model P w) A (eqBool (.ref p.1) (.ref x)) Q' E sh := fun q => (nestedKind P w).eqBool (show A.units + 8 < cLine from hu) ⟨hpk.1, hpk.2⟩ ⟨hx.1, hx.2⟩ q
  have sm : t.sameMemory t.moves t.mask = some true := by unfold SetTable.sameMemory; rw [if_pos (beq_self_eq_true _)]
  unfold searchRest
  rw [R.ent hp]
  dsimp only [entK]
  refine wpAny_bind (wpAny_holding (eq ?_))
  refine wpAny_bind (wpAny_setState_of ho hd R.fit ?_)
  dsimp only
  by_cases e : p.2 = k
  · simp only [e, decide_true, Bool.and_self, if_true]
    exact wpAny_pure (q1 e)
  · simp only [e, decide_false, Bool.and_false, Bool.false_eq_true, if_false]
    try refine wpAny_bind (wpAny_pure ?_)
    rw [sm]
    dsimp only
    simp only [if_true, slot_live R.tab.ris hj, R.ent hp]
    refine wpAny_bind (wpAny_isSame_ref_self (wpAny_bind (wpAny_pure ?_)))
    simp only [if_true, Bool.false_eq_true, if_false]
    exact q2 e
theorem find_keys (R : SetK P w sh.heap a L es ep t) {x : Addr} {k : NestedKey} (hx : KyAt sh.heap (x, k)) (hu : A.units + 8 < cLine) {K : Nat} (hKf : K < 10 * SetTable.turns t.mask) (hK : way t.mask (k.hash w) K ∉ t.place.toList) (hKb : ∀ c, c < K → way t.mask (k.hash w) c ∈ t.place.toList)
    {Q : SetFound → Shared → Prop} (hin : k ∈ L.map (·.2) → Q (.there none) sh) (hout : k ∉ L.map (·.2) → Q (.free (way t.mask (k.hash w) K) false) sh) : ∀ (f c : Nat) (stand : Option SetTable.Probe),
    stand.getD (t.probeStart (k.hash w)) = nth t.mask (t.probeStart (k.hash w)) c → c ≤ K → K < f + c → (∀ (i : Nat) p, L[i]? = some p → p.2 = k → ∃ d, c ≤ d ∧ d < K ∧ t.place.toList[i]? = some (way t.mask (k.hash w) d)) →
    wpAny (model P w) A (setSearchFrom a (.ref x) (k.hash w) true f stand) Q E sh := by
  obtain ⟨o, ho, hex, hd⟩ := R.ob
  intro f
  induction f with
  | zero => intro c stand _ h1 h2 _; omega
  | succ f ih =>
    intro c stand hst hc hf hre
    have gw : t.gaveWay = false := by
      unfold SetTable.gaveWay
      rw [mask_odd R.tab.mok]
      rfl
    have pj : ∀ q, (nth t.mask (nth t.mask (t.probeStart (k.hash w)) c) q).j = way t.mask (k.hash w) (c + q) := fun q => by rw [← nth_add]; rfl
    have hash : ∀ (i : Nat) p, L[i]? = some p → ((es[i]?.map (·.1)).getD 0) = p.2.hash w := fun i p e => by rw [R.ent e]; rfl
    have sp := go_spec t R.tab.ris R.tab.dm (fun i => (es[i]?.map (·.1)).getD 0) (k.hash w) (10 * SetTable.turns t.mask) (K - c) (nth t.mask (t.probeStart (k.hash w)) c) (nth_dm _ _ rfl) (by omega)
      (fun q hq => by rw [pj]; exact hKb _ (by omega)) (by rw [pj, show c + (K - c) = K by omega]; exact hK)
    have pb : ∀ r, SetTable.probe.go t (fun i => (es[i]?.map (·.1)).getD 0) (k.hash w) (10 * SetTable.turns t.mask) (nth t.mask (t.probeStart (k.hash w)) c) = r → t.probe (fun i => (es[i]?.map (·.1)).getD 0) (k.hash w) (stand.getD (t.probeStart (k.hash w))) = r := fun r e => by
      rw [hst]; exact e
    rw [setSearchFrom_succ]
    refine wpAny_bind (wpAny_setState_of ho hd R.fit ?_)
    dsimp only
    simp only [gw, Bool.false_eq_true, if_false]
    try refine wpAny_bind (wpAny_pure ?_)
    rcases sp with ⟨q, i, hq, hi, hh, hno, hpr⟩ | ⟨hno, hpr⟩
    · rw [pb _ hpr]
      dsimp only
      have il : i < L.length := by
        have := (List.getElem?_eq_some_iff.mp hi).1
        rw [R.psz] at this
        exact this
      have hp : L[i]? = some L[i] := List.getElem?_eq_getElem il
      generalize L[i] = p at hp
      have rest : wpAny (model P w) A (searchRest a (.ref x) (k.hash w) true f es t (nth t.mask (nth t.mask (t.probeStart (k.hash w)) c) q).j i (nth t.mask (nth t.mask (t.probeStart (k.hash w)) c) (q + 1))) Q E sh := by
        refine rest_keys R hx hu hp hi (fun e => hin (List.mem_map.mpr ⟨p, List.mem_of_getElem? hp, e⟩)) fun ne => ?_
        refine ih (c + (q + 1)) _ (by show nth t.mask (nth t.mask _ c) (q + 1) = nth t.mask _ (c + (q + 1)); rw [← nth_add]) (by omega) (by omega) fun i0 p0 e0 k0 => ?_
        obtain ⟨d, d1, d2, d3⟩ := hre i0 p0 e0 k0
        refine ⟨d, ?_, d2, d3⟩
        rcases Nat.lt_trichotomy d (c + q) with z | z | z
        · exfalso
          refine hno (d - c) i0 (by omega) (by rw [pj, show c + (d - c) = d by omega]; exact d3) ?_
          show ((es[i0]?.map (·.1)).getD 0) = _
          rw [hash i0 p0 e0, k0]
        · exfalso
          subst z
          rw [pj] at hi
          have s1 := slot_live R.tab.ris hi
          have s2 := slot_live R.tab.ris d3
          rw [s1] at s2
          injection s2 with s2
          subst s2
          rw [hp] at e0
          cases e0
          exact ne k0
        · omega
      cases hl : t.led with
      | true =>
        simp only [Bool.not_true, Bool.false_eq_true, if_false]
        try refine wpAny_bind (wpAny_pure ?_)
        exact rest
      | false =>
        simp only [Bool.not_false, if_true]
        refine wpAny_bind (not_seen hx (fun y hy => ?_) ?_)
        · obtain ⟨e, he, rfl⟩ := List.mem_map.mp hy
          have h1 : e ∈ es.toList := by
            have := he
            simp at this
            simpa using this.1
          rw [R.rows] at h1
          obtain ⟨p2, hp2, rfl⟩ := List.mem_map.mp h1
          exact ⟨p2, rfl, R.key p2 hp2⟩
        · simp only [Bool.false_eq_true, if_false]
          try refine wpAny_bind (wpAny_pure ?_)
          exact rest
    · rw [pb _ hpr]
      dsimp only
      rw [pj, show c + (K - c) = K by omega]
      refine wpAny_pure (hout fun hm => ?_)
      obtain ⟨p0, m0, k0⟩ := List.mem_map.mp hm
      obtain ⟨i0, e0⟩ := List.getElem?_of_mem m0
      obtain ⟨d, d1, d2, d3⟩ := hre i0 p0 e0 k0
      refine hno (d - c) i0 (by omega) (by rw [pj, show c + (d - c) = d by omega]; exact d3) ?_
      show ((es[i0]?.map (·.1)).getD 0) = _
      rw [hash i0 p0 e0, k0]
theorem find_key (R : SetK P w sh.heap a L es ep t) {x : Addr} {k : NestedKey} (hx : KyAt sh.heap (x, k)) (hu : A.units + 8 < cLine) {Q : SetFound → Shared → Prop} (hin : k ∈ L.map (·.2) → Q (.there none) sh)
    (hout : ∀ K, k ∉ L.map (·.2) → way t.mask (k.hash w) K ∉ t.place.toList → (∀ c, c < K → way t.mask (k.hash w) c ∈ t.place.toList) → Q (.free (way t.mask (k.hash w) K) false) sh) : wpAny (model P w) A (setSearch a (.ref x) (k.hash w) true) Q E sh := by
  have hroom := R.room
  obtain ⟨K, hKf, hK, hKb⟩ := R.tab.first (by rw [List.length_map]; omega) (k.hash w)
  have big : 10 * SetTable.turns t.mask ≤ 90000 := by
    unfold SetTable.turns
    rcases R.tab.mok with e | e | e <;> omega
  unfold setSearch
  refine find_keys R hx hu hKf hK hKb hin (fun n => hout K n hK hKb) 100000 0 none rfl (Nat.zero_le _) (by omega) fun i p e ek => ?_
  have il : i < t.place.toList.length := by
    rw [R.psz]
    exact (List.getElem?_eq_some_iff.mp e).1
  have hj := List.getElem?_eq_getElem il
  obtain ⟨d, d1, d2⟩ := R.tab.before hK (show (L.map fun p => p.2.hash w)[i]? = some (k.hash w) by rw [List.getElem?_map, e, ← ek]; rfl) hj
  exact ⟨d, Nat.zero_le _, d1, by rw [hj, d2]⟩
theorem rows_of {l : List Nat} (R : es.toList = L.map (entK w)) (hl : ∀ i ∈ l, i < L.length) : l.filterMap (fun i => es[i]?) = (l.filterMap fun i => L[i]?).map (entK w) ∧ ((l.filterMap fun i => L[i]?).map fun p => p.2.hash w) = l.map fun i => (es.map (·.1)).getD i 0 := by
  induction l with
  | nil => exact ⟨rfl, rfl⟩
  | cons i l ih =>
    have il := hl i List.mem_cons_self
    obtain ⟨h1, h2⟩ := ih fun j hj => hl j (List.mem_cons_of_mem _ hj)
    have e : L[i]? = some L[i] := List.getElem?_eq_getElem il
    have e2 : es[i]? = some (entK w L[i]) := by rw [← Array.getElem?_toList, R, List.getElem?_map, e]; rfl
    rw [List.filterMap_cons_some e2, List.filterMap_cons_some e, h1]
    refine ⟨rfl, ?_⟩
    rw [List.map_cons, List.map_cons, h2]
    congr 1
    simp [Array.getD_eq_getD_getElem?, Array.getElem?_map, e2, entK]
theorem range_all : ∀ {α : Type} (L : List α), (List.range L.length).filterMap (fun i => L[i]?) = L := by
  intro α L
  induction L with
  | nil => rfl
  | cons x L ih =>
    rw [List.length_cons, List.range_succ_eq_map, List.filterMap_cons_some (show (x :: L)[0]? = some x from rfl), List.filterMap_map]
    congr 1
theorem relay_keys {o : Obj} (ho : sh.heap.get? a = some o) (hex : o.ExactSet) (hd : o.data = .set es ep t) (rows : es.toList = L.map (entK w)) (psz : t.place.size = es.size) (dm : t.dummies = #[]) (hfl : es.size ≤ t.mask) (nd : (L.map (·.2)).Nodup) (key : ∀ p ∈ L, KyAt sh.heap p)
    (led : w.params.followText "set-order" = true ∨ t.led = true) (few : L.length < 64) {wanted M : Nat} (hw : SetTable.sizeAbove wanted = M + 1) (hM : MaskOk M) (hn : L.length * 5 < M * 3) {Q : Unit → Shared → Prop}
    (hQ : ∀ h' L' es' ep' t', Heap.SameBut a sh.heap h' → SetK P w h' a L' es' ep' t' → L'.Perm L → Q () { sh with heap := h' }) : wpAny (model P w) A (setRelay a wanted) Q E sh := by
  have sz : es.size = L.length := by
    have := congrArg List.length rows
    simpa using this
  have fit : t.fits es.size = true := by
    simp only [SetTable.fits, SetTable.fill, dm, Bool.and_eq_true, beq_iff_eq, decide_eq_true_eq]
    exact ⟨psz, by simp; omega⟩
  have m128 : M + 1 ≤ 128 := by rcases hM with e | e | e <;> omega
  obtain ⟨t', order, e, hp, T, em, el, _, _⟩ := relaid_ok t (hs := es.map (·.1)) (wanted := wanted) (M := M) (by omega) hM (by rw [Array.size_map, sz]; omega)
  rw [Array.size_map, sz] at hp
  obtain ⟨r1, r2⟩ := rows_of (l := order.toList) rows fun i hi => List.mem_range.mp (hp.mem_iff.mp hi)
  have pm : (order.toList.filterMap fun i => L[i]?).Perm L := by
    have := hp.filterMap fun i => L[i]?
    rwa [range_all] at this
  rw [← r2] at T
  generalize (order.toList.filterMap fun i => L[i]?) = L2 at r1 r2 pm T
  have r1' : (order.filterMap (es[·]?)).toList = L2.map (entK w) := by
    rw [← r1]
    simp
  have s2 : (order.filterMap (es[·]?)).size = es.size := by
    have := congrArg List.length r1'
    rw [Array.length_toList, List.length_map, pm.length_eq] at this
    omega
  rw [setRelay_eq]
  refine wpAny_bind (wpAny_setState_of ho hd fit ?_)
  dsimp only
  refine wp_if_neg (by rw [sizeLine_eq]; omega) ?_
  try refine wpAny_bind (wpAny_pure ?_)
  rw [e]
  dsimp only
  refine wpAny_bind ?_
  refine wp_if_neg (by rw [s2]; simp) ?_
  try refine wpAny_bind (wpAny_pure ?_)
  refine wpAny_pure ?_
  dsimp only
  refine wpAny_storeSet_of ho hd ?_ (by rw [s2, sz, sizeLine_eq]; omega)
  have sb : Heap.SameBut a sh.heap (sh.heap.update a (Obj.putSet (order.filterMap (es[·]?)) t')) := Heap.SameBut.update ..
  refine hQ _ L2 _ (ep + 1) t' sb ⟨⟨_, _root_.L2.store_at ho hd, ⟨hex.1, hex.2.1, hex.2.2⟩, rfl⟩, r1', T, (pm.map (·.2)).nodup_iff.mpr nd, fun p hp => (key p (pm.mem_iff.mp hp)).same ho hd sb, by rw [el]; exact led, by rw [pm.length_eq, em]; exact hn, by rw [pm.length_eq]; exact few⟩ pm
theorem add_key (R : SetK P w sh.heap a L es ep t) {x : Addr} {k : NestedKey} (hx : KyAt sh.heap (x, k)) (hu : A.units + 8 < cLine) (few : L.length + 1 < 64) {Q : Bool → Shared → Prop}
    (hQ : ∀ b h' L' es' ep' t', Heap.SameBut a sh.heap h' → SetK P w h' a L' es' ep' t' → (k ∈ L.map (·.2) → L' = L) → (k ∉ L.map (·.2) → L'.Perm ((x, k) :: L)) → Q b { sh with heap := h' }) :
    wpAny (model P w) A (setAddHashed a (.ref x) (k.hash w)) Q E sh := by
  obtain ⟨o, ho, hex, hd⟩ := R.ob
  have sz := R.sz
  have room := R.room
  unfold setAddHashed
  refine wpAny_holding ?_
  rw [show (100000 : Nat) = 99999 + 1 from rfl, setAddHashedIn_succ]
  refine wpAny_bind (wpAny_setState_of ho hd R.fit ?_)
  dsimp only
  refine wp_if_neg (by simp [byScan, Value.scannable]) ?_
  try refine wpAny_bind (wpAny_pure ?_)
  refine wpAny_bind (find_key R hx hu (fun hm => ?_) fun K hm hK hb => ?_)
  · exact wpAny_pure (hQ false sh.heap L es ep t (Heap.SameBut.refl a sh.heap) R (fun _ => rfl) fun z => absurd hm z)
  dsimp only
  refine wpAny_bind (wpAny_setState_of ho hd R.fit ?_)
  dsimp only
  obtain ⟨q1, q2, q3, q4, q5, _, _, _, q9⟩ := R.tab.put hK hb
  generalize t.put (way t.mask (k.hash w) K) = pt at q1 q3 q4 q5 q9 ⊢
  obtain ⟨t1, p⟩ := pt
  dsimp only at q1 q3 q4 q5 q9 ⊢
  subst q1
  have fin : ∀ (t2 : SetTable), t2.place = t1.place → t2.dummies = t1.dummies → t2.mask = t1.mask → t2.led = t1.led → TabOk t2 ((L.map fun p => p.2.hash w).take (SetTable.below t.place (way t.mask (k.hash w) K)) ++ k.hash w :: (L.map fun p => p.2.hash w).drop (SetTable.below t.place (way t.mask (k.hash w) K))) → ∀ {A : Around},
      wpAny (model P w) A (do
        storeSet a (SetTable.insertAt es (SetTable.below t.place (way t.mask (k.hash w) K)) (k.hash w, Value.ref x)) t2
        if (!false && t2.tooFull) = true then setRelay a (SetTable.grown (es.size + 1)) else pure ()
        pure true : Sem Bool) Q E sh := by
    intro t2 e1 e2 e3 e4 T A
    generalize SetTable.below t.place (way t.mask (k.hash w) K) = p at q2 T ⊢
    rw [List.length_map] at q2
    have pm := put_perm L p (x, k)
    have hh : (L.map fun p => p.2.hash w).take p ++ k.hash w :: (L.map fun p => p.2.hash w).drop p = (L.take p ++ (x, k) :: L.drop p).map fun p => p.2.hash w := by
      rw [List.map_append, List.map_cons, List.map_take, List.map_drop]
    have rw1 : (SetTable.insertAt es p (k.hash w, Value.ref x)).toList = (L.take p ++ (x, k) :: L.drop p).map (entK w) := by
      rw [SetTable.toList_insertAt, R.rows, List.map_append, List.map_cons, List.map_take, List.map_drop]; rfl
    rw [hh] at T
    generalize L.take p ++ (x, k) :: L.drop p = L1 at pm T rw1
    generalize SetTable.insertAt es p (k.hash w, Value.ref x) = es1 at rw1 ⊢
    have l1 : L1.length = L.length + 1 := pm.length_eq
    have sz1 : es1.size = L.length + 1 := by
      have := congrArg List.length rw1
      rw [Array.length_toList, List.length_map] at this
      omega
    have nd1 : (L1.map (·.2)).Nodup := by
      refine (pm.map (·.2)).nodup_iff.mpr ?_
      rw [List.map_cons, List.nodup_cons]
      exact ⟨hm, R.nd⟩
    refine wpAny_bind (wpAny_storeSet_of ho hd ?_ (by rw [sz1, sizeLine_eq]; omega))
    have sb : Heap.SameBut a sh.heap (sh.heap.update a (Obj.putSet es1 t2)) := Heap.SameBut.update ..
    have ho1 := _root_.L2.store_at (es' := es1) (t' := t2) ho hd
    generalize sh.heap.update a (Obj.putSet es1 t2) = h1 at sb ho1 ⊢
    have key1 : ∀ p ∈ L1, KyAt h1 p := fun p hp => by
      rcases List.mem_cons.mp (pm.mem_iff.mp hp) with e | hp
      · rw [e]; exact hx.same ho hd sb
      · exact (R.key p hp).same ho hd sb
    have led1 : w.params.followText "set-order" = true ∨ t2.led = true := by rw [e4, q5]; exact R.led
    have full : t2.tooFull = decide ((L.length + 1) * 5 ≥ t2.mask * 3) := by
      have : t2.fill = L.length + 1 := by
        rw [List.length_map] at q9
        unfold SetTable.fill at q9 ⊢
        rw [e1, e2]; exact q9
      unfold SetTable.tooFull
      rw [this]
    have done : ∀ h' L' es' ep' t', Heap.SameBut a h1 h' → SetK P w h' a L' es' ep' t' → L'.Perm L1 → Q true { sh with heap := h' } := fun h' L' es' ep' t' s2 R2 p2 => hQ true h' L' es' ep' t' (sb.trans s2) R2 (fun z => absurd z hm) fun _ => p2.trans pm
    by_cases f : (L.length + 1) * 5 ≥ t2.mask * 3
    · rw [full, decide_eq_true f]
      simp only [Bool.not_false, Bool.and_self, if_true]
      have m2 : t2.mask = t.mask := by rw [e3, q4]
      have psz : t2.place.size = es1.size := by
        have := T.sz
        rw [List.length_map, l1] at this
        omega
      rw [sz]
      have go : ∀ M, SetTable.sizeAbove (SetTable.grown (L.length + 1)) = M + 1 → MaskOk M → (L.length + 1) * 5 < M * 3 → L.length + 1 ≤ t2.mask → wpAny (model P w) A (setRelay a (SetTable.grown (L.length + 1)) >>= fun _ => pure true) Q E { sh with heap := h1 } := fun M a1 a2 a3 a4 => by
        refine wpAny_bind (relay_keys (sh := { sh with heap := h1 }) ho1 ⟨hex.1, hex.2.1, hex.2.2⟩ rfl rw1 psz T.dm (by rw [sz1]; exact a4) nd1 key1 led1 (by omega) a1 a2 (by omega) fun h2 L2' es2 ep2 t3 s2 R2 p2 => ?_)
        exact wpAny_pure (done h2 L2' es2 ep2 t3 s2 R2 p2)
      rcases R.tab.mok with e | e | e
      · have : L.length = 4 := by omega
        exact go 31 (by rw [this, size_20]) (.inr (.inl rfl)) (by omega) (by omega)
      · have : L.length = 18 := by omega
        exact go 127 (by rw [this, size_76]) (.inr (.inr rfl)) (by omega) (by omega)
      · exfalso; omega
    · rw [full, decide_eq_false f]
      simp only [Bool.not_false, Bool.and_false, Bool.false_eq_true, if_false]
      refine wpAny_bind (wpAny_pure (wpAny_pure ?_))
      exact done h1 L1 es1 (ep + 1) t2 (Heap.SameBut.refl a h1) ⟨⟨_, ho1, ⟨hex.1, hex.2.1, hex.2.2⟩, rfl⟩, rw1, T, nd1, key1, led1, by rw [l1]; omega, by omega⟩ (List.Perm.refl _)
  have tp : ∀ {hs : List Int}, TabOk t1 hs → TabOk { t1 with plain := false } hs := fun T => ⟨T.ris, T.dm, T.sz, T.mok, T.bd, T.reach⟩
  cases hp1 : t1.plain with
  | true =>
    simp only [if_true]
    refine wpAny_bind (hbv_key 8 k (.ref x) hx.1 fun b => ?_)
    cases b
    · exact fin { t1 with plain := false } rfl rfl rfl rfl (tp q3)
    · exact fin _ rfl rfl rfl rfl q3
  | false =>
    simp only [Bool.false_eq_true, if_false]
    refine wpAny_bind (wpAny_pure ?_)
    exact fin _ rfl rfl rfl rfl q3
theorem setK_new (ho : h.get? a = some (setL w)) : SetK P w h a [] #[] 0 (.fresh 0 0 (!w.params.followText "set-order")) where
  ob := ⟨_, ho, ⟨rfl, rfl, rfl⟩, rfl⟩
  rows := rfl
  tab := ⟨List.Pairwise.nil, rfl, rfl, .inl rfl, (fun x hx => by cases hx), (fun i h j hi => by simp at hi)⟩
  nd := List.nodup_nil
  key := fun p hp => by cases hp
  led := by
    show _ ∨ (!w.params.followText "set-order") = true
    cases w.params.followText "set-order"
    · exact .inr rfl
    · exact .inl rfl
  room := by show 0 * 5 < 7 * 3; omega
  few := by show 0 < 64; omega
structure HasK (ks : KyL) (L : KyL) : Prop where
  sub : ∀ p ∈ L, p ∈ ks
  all : ∀ p ∈ ks, p.2 ∈ L.map (·.2)
  len : L.length ≤ ks.length
theorem HasK.next {ks L L' : KyL} {x : Addr × NestedKey} (g : HasK ks L) (c1 : x.2 ∈ L.map (·.2) → L' = L) (c2 : x.2 ∉ L.map (·.2) → L'.Perm (x :: L)) : HasK (ks ++ [x]) L' := by
  by_cases c : x.2 ∈ L.map (·.2)
  · rw [c1 c]
    refine ⟨fun p hp => by simp [g.sub p hp], fun p hp => ?_, by have := g.len; simp; omega⟩
    rcases List.mem_append.mp hp with z | z
    · exact g.all p z
    · rw [List.mem_singleton.mp z]; exact c
  · have pm := c2 c
    refine ⟨fun p hp => ?_, fun p hp => ?_, by rw [pm.length_eq]; have := g.len; simp; omega⟩
    · rcases List.mem_cons.mp (pm.mem_iff.mp hp) with e | z
      · simp [e]
      · simp [g.sub p z]
    · rw [(pm.map (·.2)).mem_iff, List.map_cons]
      rcases List.mem_append.mp hp with z | z
      · exact List.mem_cons_of_mem _ (g.all p z)
      · rw [List.mem_singleton.mp z]; exact List.mem_cons_self
theorem update_keys {it : Addr} {fp wr : List Addr} {G : Array GenState → Array GenState → Prop} {n : Nat} {Pv : Nat → Value → Prop} {St : Nat → Shared → Prop} {R : Result → Shared → Prop} {h0 : Heap} {S : Addr}
    (W : WalksS P w A.in1 it fp wr G n Pv St) (nS : S ∉ fp) (hS0 : h0.get? S = none) (hw0 : ∀ b ∈ wr, h0.get? b = none) (hu : A.units + 9 < cLine) : ∀ (rest dn : KyL) (L : KyL) (es : Array (Int × Value)) (ep : Nat) (t : SetTable) (s : Shared),
    dn.length + rest.length = n → n < 64 → (∀ (i : Nat) v, Pv i v → ∃ p, (dn ++ rest)[i]? = some p ∧ v = .ref p.1) → (∀ p ∈ dn ++ rest, KyAt h0 p) → St dn.length s → (∀ b o, h0.get? b = some o → s.heap.get? b = some o) → SetK P w s.heap S L es ep t → HasK dn L →
    (∀ s' L es ep t, Moved (S :: wr) G s s' → SetK P w s'.heap S L es ep t → HasK (dn ++ rest) L → (∀ b o, h0.get? b = some o → s'.heap.get? b = some o) → R (.ok (.ret .none)) s') →
    codeAny (model P w) A (.builtin "set.update.loop" ⟨[.ref S, .ref it], []⟩) R s := by
  have nw : S ∉ wr := fun q => nS (W.sub _ q)
  have sb : ∀ b ∈ wr, b ∈ S :: wr := fun b q => List.mem_cons_of_mem _ q
  have kp : ∀ {s s' : Shared}, Moved wr G s s' → (∀ b o, h0.get? b = some o → s.heap.get? b = some o) → ∀ b o, h0.get? b = some o → s'.heap.get? b = some o := fun m k b o e =>
    m.heap b o (fun q => by rw [hw0 b q] at e; cases e) (k b o e)
  have stay : ∀ {s s' : Shared} {L : KyL} {es : Array (Int × Value)} {ep : Nat} {t : SetTable}, Moved wr G s s' → (∀ b o, h0.get? b = some o → s'.heap.get? b = some o) → (∀ p ∈ L, KyAt h0 p) → SetK P w s.heap S L es ep t → SetK P w s'.heap S L es ep t := fun m k hk R => by
    obtain ⟨o, ho, r⟩ := R.ob
    exact ⟨⟨o, m.heap S o nw ho, r⟩, R.rows, R.tab, R.nd, fun p hp => (hk p hp).mv k, R.led, R.room, R.few⟩
  intro rest
  induction rest with
  | nil =>
    intro dn L es ep t s hn hn6 hv hk st kps HS g hR
    simp only [List.length_nil, Nat.add_zero] at hn
    simp only [List.append_nil] at hR hk
    refine codeAny_builtin F.entry_set_update_loop ?_
    rw [Around.under_plainId F.plain_set_update_loop _]
    refine (show wpAny _ A.in1 (pyNext (.ref it) >>= _) _ _ _ from wpAny_bind (W.done s _ _ (by rw [← hn]; exact st) fun s2 m => ?_))
    have k2 := kp m kps
    exact (show wpAny _ A.in1 (ret Value.none) _ _ s2 from wpAny_pure (hR s2 L es ep t (m.mono sb) (stay m k2 (fun p hp => hk p (g.sub p hp)) HS) g k2))
  | cons p rest ih =>
    intro dn L es ep t s hn hn6 hv hk st kps HS g hR
    simp only [List.length_cons] at hn
    refine codeAny_builtin F.entry_set_update_loop ?_
    rw [Around.under_plainId F.plain_set_update_loop _]
    refine (show wpAny _ A.in1 (pyNext (.ref it) >>= _) _ _ s from wpAny_bind (W.item dn.length s _ _ (by omega) st fun v s2 hP st2 m => ?_))
    obtain ⟨p', e, rfl⟩ := hv _ v hP
    have ep' : p' = p := by
      rw [List.getElem?_append_right (Nat.le_refl _)] at e
      simp at e
      exact e.symm
    subst ep'
    have k2 := kp m kps
    have HS2 := stay m k2 (fun q hq => hk q (by simp [g.sub q hq])) HS
    have hx : KyAt s2.heap (p'.1, p'.2) := (hk p' (by simp)).mv k2
    have gl := g.len
    refine (show wpAny _ A.in1 (holding [Value.ref p'.1] (setAdd S (.ref p'.1)) >>= _) _ _ s2 from wpAny_bind (wpAny_holding ?_))
    unfold setAdd
    refine wpAny_holding (wpAny_bind (pyHash_key p'.2 (.ref p'.1) A.in1 s2 _ hx.1 (by have := hx.2; simp only [Around.in1_units] at this ⊢; omega) ?_))
    refine add_key (sh := { s2 with toks := s2.toks + p'.2.draws }) HS2 hx (by simp only [Around.in1_units]; omega) (by omega) fun b h3 L3 es3 ep3 t3 same HS3 c1 c2 => ?_
    have k3 : ∀ b o, h0.get? b = some o → h3.get? b = some o := fun b o e => (same.2 b (fun z => by rw [z, hS0] at e; cases e)).trans (k2 b o e)
    refine wpAny_pure ⟨plainId_quiet F.plain_set_update_loop _, ?_⟩
    have ea : dn ++ p' :: rest = (dn ++ [p']) ++ rest := by simp
    rw [ea] at hv hk hR
    have st3 := W.frame _ s2 h3 (s2.toks + p'.2.draws) st2 (Nat.le_add_right _ _) fun b hb o e => by
      rw [same.2 b (fun q => nS (by rw [← q]; exact hb))]; exact e
    refine ih (dn ++ [p']) L3 es3 ep3 t3 _ (by simp; omega) hn6 hv hk (by rw [List.length_append]; exact st3) k3 HS3 (g.next c1 c2) fun s4 L4 es4 ep4 t4 m4 HS4 g4 k4 => ?_
    refine hR s4 L4 es4 ep4 t4 (Moved.trans W.gtrans ((m.mono sb).then_heap (Nat.le_add_right _ _) fun b o hb e => ?_) m4) HS4 g4 k4
    rw [same.2 b (fun q => hb (by rw [q]; exact List.mem_cons_self))]; exact e
theorem call_setK {l : Addr} {its : Array Value} {ks : KyL} {Q : Value → Shared → Prop} (hh : A.handled = none) (hl : sh.heap.IsList l its) (hi : its.toList = ks.map fun p => Value.ref p.1) (hk : ∀ p ∈ ks, KyAt sh.heap p) (few : ks.length < 64) (hu : A.units + 32 < cLine)
    (hQ : ∀ (h' : Heap) (tk : Nat) (L : KyL) (es : Array (Int × Value)) (ep : Nat) (t : SetTable), SetK P w h' sh.heap.objs.size L es ep t → HasK ks L → (∀ b o, b < sh.heap.objs.size → sh.heap.get? b = some o → h'.get? b = some o) → Q (.ref sh.heap.objs.size) { sh with heap := h', toks := tk }) :
    wpAny (model P w) A (call (.type "set") [.ref l]) Q E sh := by
  have iz : its.size = ks.length := by
    have := congrArg List.length hi
    rw [Array.length_toList, List.length_map] at this
    exact this
  obtain ⟨c0, tl0, hmro⟩ := F.called_set.mro
  have hmade := F.called_set.made
  have hsub := F.called_set.sub
  refine wpAny_call (codeAny_of_tree (show wpAny _ _ (callAny (.type "set") _) _ _ _ from wpAny_pure ⟨Code.quiet_builtin _ (by decide +kernel), codeAny_builtin F.entry_type_call ?_⟩))
  rw [Around.under_plain (weight_type_call_type "set" [.ref l] []) rfl]
  have h1 := F.called_set.notType
  have h2 := F.called_set.canCreate
  have hct := F.typeCall_set_1 (.ref l)
  repeat (any_goals (first | assumption | wp_step))
  refine codeAny_mono (code_set_led1 (.ref l) (E := E) (Q₁ := fun ob s1 => ob = .ref sh.heap.objs.size ∧ s1 = { sh with heap := sh.heap.push (setL w) }) ⟨rfl, rfl⟩) fun r s1 hr => ?_
  cases r with
  | error e => exact hr
  | ok fl =>
    cases fl with
    | ret ob =>
      obtain ⟨rfl, rfl⟩ := hr
      have hS : (sh.heap.push (setL w)).get? sh.heap.objs.size = some (setL w) := Heap.get?_push_size _ rfl
      have hT : Shared.TypeIs { sh with heap := sh.heap.push (setL w) } (.ref sh.heap.objs.size) "set" := ⟨_, hS, rfl⟩
      have hli := F.called_set.init.lookup
      have hbi := F.called_set.init.bind (.ref sh.heap.objs.size)
      repeat (any_goals (first | assumption | wp_step))
      refine codeAny_mono (codeAny_call_builtin (R := wants (fun r s2 => r = .none ∧ ∃ h' tk L es ep t, s2 = { sh with heap := h', toks := tk } ∧ SetK P w h' sh.heap.objs.size L es ep t ∧ HasK ks L ∧
          (∀ b o, b < sh.heap.objs.size → sh.heap.get? b = some o → h'.get? b = some o)) E) F.called_set.init.plain F.entry_set_init (check_set_init_1 hT ?_)) fun r2 s2 hr2 => ?_
      · obtain ⟨ol, hol, hcl, nl, hdl⟩ := hl
        obtain ⟨ocls, odict, odata, oslots⟩ := ol
        simp only at hcl hdl
        subst hcl; subst hdl
        have hol' : (sh.heap.push (setL w)).get? l = some { cls := .type "list", dict := odict, data := .seq its nl, slots := oslots } := Heap.get?_push_of_some _ hol
        have hsls := F.sub_list_set
        have hslf := F.sub_list_frozenset
        have hne : (Value.type "list" == Value.type "dict") = false := by decide
        have hl1 : (sh.heap.push (setL w)).IsList l its := ⟨_, hol', rfl, nl, rfl⟩
        unfold Builtin.«set.__init__» noKeywords Builtin.Frozenset.updateFrom
        generalize hPI : pyIter = PI
        wp_walk
        subst hPI
        refine wpAny_pyIter_list hl1 (wpAny_bind (wpAny_runValue ?_))
        have hlS : l < sh.heap.objs.size := Heap.lt_size hol
        have hh3 : A.in1.in1.in1.handled = none := by simp [hh]
        have hz : (sh.heap.push (setL w)).objs.size = sh.heap.objs.size + 1 := Heap.size_push ..
        have hneI : l ≠ (sh.heap.push (setL w)).objs.size := by rw [hz]; exact Nat.ne_of_lt (Nat.lt_succ_of_lt hlS)
        have hSf : sh.heap.objs.size ∉ [(sh.heap.push (setL w)).objs.size, l] := by
          rw [hz]; simp only [List.mem_cons, List.mem_singleton, List.not_mem_nil, or_false, not_or]
          exact ⟨Nat.ne_of_lt (Nat.lt_succ_self _), Nat.ne_of_gt hlS⟩
        have none_ge : ∀ b, sh.heap.objs.size ≤ b → sh.heap.get? b = none := fun b hb => by
          cases e : sh.heap.get? b with
          | none => rfl
          | some o => exact absurd (Heap.lt_size e) (Nat.not_lt.mpr hb)
        refine update_keys (h0 := sh.heap) (S := sh.heap.objs.size) ((Walks.list hh3 _ l hneI its).toS) hSf (none_ge _ (Nat.le_refl _)) (fun b hb => none_ge b ?hw) (by simp only [Around.in1_units]; omega) ks [] [] #[] 0 _ _ (by simp [iz]) (by rw [iz]; exact few) (fun i v e => ?hv) (fun p hp => hk p (by simpa using hp)) ?hst
          (fun b o e => Heap.get?_push_of_some _ (Heap.get?_push_of_some _ e)) (setK_new (Heap.get?_push_of_some _ hS)) ⟨(fun p hp => by cases hp), (fun p hp => by simp at hp), Nat.le_refl _⟩ ?hR
        case hw =>
          simp only [List.mem_cons, List.mem_singleton, List.not_mem_nil, or_false] at hb
          rw [hb, hz]; exact Nat.le_succ _
        case hv =>
          have e' : its[i]? = some v := e
          rw [← Array.getElem?_toList, hi, List.getElem?_map] at e'
          cases ep : ks[i]? with
          | none => rw [ep] at e'; cases e'
          | some p => rw [ep] at e'; exact ⟨p, by simpa using ep, (Option.some.inj e').symm⟩
        case hst => exact ⟨⟨_, Heap.get?_push_size _ rfl, rfl, rfl⟩, (hl1.push _)⟩
        case hR =>
          intro s3 L es ep t hm hS3 g3' k3
          obtain ⟨h3, g3, d3, tk3, os3⟩ := s3
          have eg : g3 = sh.gens := hm.gens
          have ed : d3 = sh.drawn := hm.drawn
          have eo : os3 = sh.os := hm.os
          subst eg; subst ed; subst eo
          exact (show wpAny _ _ _ _ _ _ from wpAny_pure (show wpAny _ _ (ret Value.none) _ _ _ from wpAny_pure ⟨rfl, h3, tk3, L, es, ep, t, rfl, hS3, by simpa using g3', fun b o hb e => k3 b o e⟩))
      · cases r2 with
        | error e => exact hr2
        | ok fl2 =>
          cases fl2 with
          | ret r =>
            obtain ⟨rfl, h', tk, L, es, ep, t, rfl, hS', g', hk'⟩ := hr2
            repeat (any_goals (first | assumption | wp_step))
            exact hQ _ _ _ _ _ _ hS' g' hk'
          | _ => exact hr2.elim
    | _ => exact hr.elim
noncomputable def PrAt (h : Heap) (b : Addr) (i : Int) (y : Str) : Prop := ∃ o m t u, h.get? b = some o ∧ o.cls = .type "tuple" ∧ o.data = .seq #[.int i t, .str y u] m
noncomputable abbrev Prw := Addr × Int × Str
noncomputable def encD (b : Prw) : PyData := .tuple [.int b.2.1, .str b.2.2]
noncomputable def kyD (b : Prw) : Addr × NestedKey := (b.1, .tup [.num b.2.1, .text b.2.2])
theorem PrAt.key {b : Prw} (x : PrAt h b.1 b.2.1 b.2.2) : KyAt h (kyD b) := by
  obtain ⟨o, m, t, u, ho, hc, hd⟩ := x
  exact ⟨.tup ho hc hd (.cons (.int _ t) (.cons (.text _ u) .nil)), by simp [kyD, NestedKey.depth, NestedKey.depthAll]⟩
theorem PrAt.reads {b : Prw} (x : PrAt h b.1 b.2.1 b.2.2) : Reads h (.ref b.1) (encD b) [] := by
  obtain ⟨o, m, t, u, ho, hc, hd⟩ := x
  have : ReadsAll h [Value.int b.2.1 t, .str b.2.2 u] [.int b.2.1, .str b.2.2] ([] ++ ([] ++ [])) := .cons (.int _ _) (.cons (.str _ _) .nil)
  exact .tuple ho hc hd this
theorem PrAt.mv {b : Addr} {i : Int} {y : Str} (x : PrAt h b i y) (k : ∀ b o, h.get? b = some o → h'.get? b = some o) : PrAt h' b i y := by
  obtain ⟨o, m, t, u, ho, r⟩ := x
  exact ⟨o, m, t, u, k _ _ ho, r⟩
theorem perm_inv {α β : Type} {f : α → β} {l k : List β} (p : l.Perm k) : ∀ {m : List α}, k = m.map f → ∃ m' : List α, m'.Perm m ∧ l = m'.map f := by
  induction p with
  | nil => intro m e; exact ⟨[], by cases m with | nil => exact .nil | cons a m => simp at e, rfl⟩
  | cons x _ ih =>
    intro m e
    cases m with
    | nil => simp at e
    | cons a m =>
      simp only [List.map_cons, List.cons.injEq] at e
      obtain ⟨m', p', e'⟩ := ih e.2
      exact ⟨a :: m', p'.cons a, by rw [List.map_cons, e.1, e']⟩
  | swap x y l =>
    intro m e
    cases m with
    | nil => simp at e
    | cons a m =>
      cases m with
      | nil => simp at e
      | cons b m =>
        simp only [List.map_cons, List.cons.injEq] at e
        exact ⟨b :: a :: m, .swap a b m, by rw [List.map_cons, List.map_cons, e.1, e.2.1, e.2.2]⟩
  | trans _ _ ih1 ih2 =>
    intro m e
    obtain ⟨m2, p2, e2⟩ := ih2 e
    obtain ⟨m1, p1, e1⟩ := ih1 e2
    exact ⟨m1, p1.trans p2, e1⟩
theorem each_ref : ∀ {vs : List Value} {bs : List Prw}, PySem.W.EachIs (fun v (b : Prw) => v = Value.ref b.1) vs bs → vs = bs.map fun b => Value.ref b.1
  | _, _, .nil => rfl
  | _, _, .cons a r => by rw [a, each_ref r]; rfl
theorem ref_each : ∀ {bs : List Prw} {R : Value → Prw → Prop}, (∀ b ∈ bs, R (.ref b.1) b) → PySem.W.EachIs R (bs.map fun b => Value.ref b.1) bs
  | [], _, _ => .nil
  | b :: bs, _, h => .cons (h b List.mem_cons_self) (ref_each fun b hb => h b (List.mem_cons_of_mem _ hb))
theorem dle_trans : ∀ a b c : Prw, PySem.W.dataLe false encD a b = true → PySem.W.dataLe false encD b c = true → PySem.W.dataLe false encD a c = true := fun a b c h1 h2 => by
  simp only [PySem.W.dataLe_eq, cond_false, Bool.not_eq_true', PySem.W.dataLt] at h1 h2 ⊢
  cases e : PyProof.Rows.lexLt PyProof.Rows.itemOrd (PySem.W.keyToks (encD c)) (PySem.W.keyToks (encD a)) with
  | false => rfl
  | true =>
    rcases PyProof.Rows.lex_negTrans _ (PySem.W.keyToks (encD b)) _ e with q | q
    · rw [q] at h2; cases h2
    · rw [q] at h1; cases h1
theorem dle_total : ∀ a b : Prw, (PySem.W.dataLe false encD a b || PySem.W.dataLe false encD b a) = true := fun a b => by
  simp only [PySem.W.dataLe_eq, cond_false, PySem.W.dataLt]
  cases e : PyProof.Rows.lexLt PyProof.Rows.itemOrd (PySem.W.keyToks (encD b)) (PySem.W.keyToks (encD a)) with
  | false => rfl
  | true =>
    cases e2 : PyProof.Rows.lexLt PyProof.Rows.itemOrd (PySem.W.keyToks (encD a)) (PySem.W.keyToks (encD b)) with
    | false => rfl
    | true =>
      have := PyProof.Rows.lex_trans _ _ _ e e2
      rw [PyProof.Rows.lex_irrefl] at this; cases this
theorem sorted_setK {ps : List Prw} {Q : Value → Shared → Prop} (R : SetK P w sh.heap a (ps.map kyD) es ep t) (hh : A.handled = none) (hp : ∀ b ∈ ps, PrAt sh.heap b.1 b.2.1 b.2.2) (hu : A.units + 16 < cLine)
    (hQ : ∀ s' p (c : Nat) (qs : List Prw), (∀ b o, sh.heap.get? b = some o → s'.heap.get? b = some o) → s'.gens = sh.gens → s'.os = sh.os → sh.heap.objs.size ≤ p → qs.Perm ps → qs.Pairwise (fun x y => PySem.W.dataLe false encD x y = true) →
      s'.heap.get? p = some (seqObj "list" (qs.map fun b => Value.ref b.1).toArray c) → Q (.ref p) s') :
    wpAny (model P w) A (call (.builtin "sorted") [.ref a]) Q E sh := by
  obtain ⟨so, hso, hex, hsd⟩ := R.ob
  have sz := R.sz
  have few := R.few
  rw [List.length_map] at sz few
  refine Calls.call_function_entry kind_sorted plain_sorted entry_sorted (args_sorted1 _) ?_
  unfold Builtin.«sorted»
  refine wpAny_bind (m := checkCount "sorted" 1 1 _) (wpAny_pure ?_)
  refine wpAny_bind (collect_set (A := A.in1) hh ⟨so, hso, hex.1, hsd⟩ R.fit (by rw [sz]; unfold scanBound; omega) R.tab.ris R.led fun s1 vs k1 hz g1 o1 pm => ?_)
  rw [R.rows, List.map_map, List.map_map] at pm
  obtain ⟨bs, pb, rfl⟩ := perm_inv pm (m := ps) (f := fun b : Prw => Value.ref b.1) rfl
  have bl : bs.length < 64 := by rw [pb.length_eq]; exact few
  refine wpAny_bind (wpAny_newList ?_ (by rw [sizeLine_eq]; simp; omega))
  have hoL : (s1.heap.push (seqObj "list" (bs.map fun b => Value.ref b.1).toArray 0)).get? s1.heap.objs.size = some (seqObj "list" (bs.map fun b => Value.ref b.1).toArray 0) := Heap.get?_push_size _ rfl
  have kk : ∀ b o, sh.heap.get? b = some o → (s1.heap.push (seqObj "list" (bs.map fun b => Value.ref b.1).toArray 0)).get? b = some o := fun b o e => Heap.get?_push_of_some _ (k1 b o e)
  have pr : ∀ b ∈ bs, PrAt (s1.heap.push (seqObj "list" (bs.map fun b => Value.ref b.1).toArray 0)) b.1 b.2.1 b.2.2 := fun b hb => (hp b (pb.mem_iff.mp hb)).mv kk
  refine wpAny_bind (wpAny_holding (PySem.W.list_sort_data (bs := bs) (enc := encD) (R := fun v b => v = Value.ref b.1) (s := { s1 with heap := s1.heap.push (seqObj "list" (bs.map fun b => Value.ref b.1).toArray 0) }) hoL (ref_each fun b hb => rfl)
    (ref_each fun b hb => ⟨[], (pr b hb).reads, by simp⟩) (.of fun b b' => by simp [encD, PySem.W.alike, PySem.W.alikeAll]) (.tuples fun b => ⟨_, _, rfl⟩) (by rw [sizeLine_eq]; omega) (fun b hb => by
      have : (encD b).depth = 1 := by simp [encD, PyData.depth, PyData.depthAll]
      rw [this]; simp only [Around.in1_units]; omega) fun out hol heq => ?_))
  rw [each_ref heq]
  generalize hqs : bs.mergeSort (PySem.W.dataLe false encD) = qs at heq ⊢
  have pq : qs.Perm bs := by rw [← hqs]; exact List.mergeSort_perm _ _
  have sq : qs.Pairwise (fun x y => PySem.W.dataLe false encD x y = true) := by rw [← hqs]; exact List.pairwise_mergeSort dle_trans dle_total bs
  obtain ⟨c, hcc⟩ := sortedHeap_at (vs := bs.map fun b => Value.ref b.1) (out := (qs.map fun b => Value.ref b.1).toArray) hoL
  refine wpAny_pure ⟨_, rfl, hQ _ s1.heap.objs.size c qs (fun b u e => ?_) g1 o1 hz (pq.trans pb) sq hcc⟩
  have q := k1 b u e
  have hlt := Heap.lt_size q
  show (sortedHeap (s1.heap.push (seqObj "list" (bs.map fun b => Value.ref b.1).toArray 0)) s1.heap.objs.size (bs.map fun b => Value.ref b.1) _).get? b = some u
  rw [sortedHeap_old (Nat.ne_of_lt hlt) (by rw [size_push']; exact Nat.lt_succ_of_lt hlt)]
  exact Heap.get?_push_of_some _ q
end
noncomputable abbrev Pr2 := Int × List Nat
noncomputable def leP (a b : Pr2) : Bool := decide (a.1 < b.1) || (decide (a.1 = b.1) && decide (a.2 ≤ b.2))
noncomputable def sortP (l : List Pr2) : List Pr2 := l.mergeSort leP
noncomputable def encP (p : Pr2) : PV := .tup [.int p.1, .str p.2]
noncomputable def prOf : PV → Option Pr2
  | .tup [.int i, .str s] => some (i, s)
  | _ => none
noncomputable def prsOf : List PV → Option (List Pr2)
  | [] => some []
  | x :: xs => match prOf x, prsOf xs with
    | some p, some ps => some (p :: ps)
    | _, _ => none
theorem prOf_enc {x : PV} {p : Pr2} (h : prOf x = some p) : x = encP p := by
  unfold prOf at h
  split at h
  · cases h; rfl
  · cases h
theorem prsOf_enc : ∀ {xs : List PV} {ps : List Pr2}, prsOf xs = some ps → xs = ps.map encP
  | [], ps, h => by cases h; rfl
  | x :: xs, ps, h => by
    unfold prsOf at h
    split at h
    · rename_i p ps' h1 h2
      cases h
      rw [List.map_cons, ← prOf_enc h1, ← prsOf_enc h2]
    · cases h
theorem prsOf_map : ∀ (ps : List Pr2), prsOf (ps.map encP) = some ps
  | [] => rfl
  | p :: ps => by rw [List.map_cons, prsOf, prsOf_map ps]; rfl
theorem leP_trans : ∀ a b c : Pr2, leP a b = true → leP b c = true → leP a c = true := fun a b c h1 h2 => by
  simp only [leP, Bool.or_eq_true, Bool.and_eq_true, decide_eq_true_eq] at *
  rcases h1 with h1 | ⟨h1, h3⟩
  · rcases h2 with h2 | ⟨h2, h4⟩
    · left; omega
    · left; omega
  · rcases h2 with h2 | ⟨h2, h4⟩
    · left; omega
    · exact .inr ⟨by omega, List.le_trans h3 h4⟩
theorem leP_total : ∀ a b : Pr2, (leP a b || leP b a) = true := fun a b => by
  simp only [leP, Bool.or_eq_true, Bool.and_eq_true, decide_eq_true_eq]
  rcases Int.lt_trichotomy a.1 b.1 with h | h | h
  · exact .inl (.inl h)
  · rcases List.le_total a.2 b.2 with q | q
    · exact .inl (.inr ⟨h, q⟩)
    · exact .inr (.inr ⟨h.symm, q⟩)
  · exact .inr (.inl h)
theorem leP_anti {a b : Pr2} (h1 : leP a b = true) (h2 : leP b a = true) : a = b := by
  simp only [leP, Bool.or_eq_true, Bool.and_eq_true, decide_eq_true_eq] at h1 h2
  have e : a.1 = b.1 := by omega
  have h3 : a.2 ≤ b.2 := by rcases h1 with h | h; · omega
                            · exact h.2
  have h4 : b.2 ≤ a.2 := by rcases h2 with h | h; · omega
                            · exact h.2
  exact Prod.ext e (List.le_antisymm h3 h4)
theorem sortP_pw (l : List Pr2) : (sortP l).Pairwise (fun a b => leP a b = true) := List.pairwise_mergeSort leP_trans leP_total l
theorem sortP_perm (l : List Pr2) : (sortP l).Perm l := List.mergeSort_perm _ _
theorem sortP_of {l m : List Pr2} (h : l.Perm m) (hs : l.Pairwise (fun a b => leP a b = true)) : l = sortP m :=
  (h.trans (sortP_perm m).symm).eq_of_pairwise (fun a b _ _ h1 h2 => leP_anti h1 h2) hs (sortP_pw m)
theorem dd_fold {κ : Type} [DecidableEq κ] : ∀ (l acc : List κ), acc.Nodup → (l.foldl ddS acc).Nodup ∧ ∀ x, x ∈ l.foldl ddS acc ↔ x ∈ acc ∨ x ∈ l
  | [], acc, nd => ⟨nd, fun x => by simp⟩
  | y :: l, acc, nd => by
    have nd2 : (ddS acc y).Nodup := by
      unfold ddS
      split
      · exact nd
      · rename_i h
        refine List.nodup_append.mpr ⟨nd, by simp, fun a ha b hb e => ?_⟩
        simp at hb
        subst hb; subst e
        exact h ha
    have hm : ∀ x, x ∈ ddS acc y ↔ x ∈ acc ∨ x = y := fun x => by
      unfold ddS
      split
      · rename_i h
        exact ⟨.inl, fun z => z.elim id fun e => e ▸ h⟩
      · simp
    obtain ⟨h1, h2⟩ := dd_fold l (ddS acc y) nd2
    rw [List.foldl_cons]
    refine ⟨h1, fun x => ?_⟩
    rw [h2, hm, List.mem_cons, or_assoc]
theorem dd_nd {κ : Type} [DecidableEq κ] (l : List κ) : (dd l).Nodup := (dd_fold l [] List.nodup_nil).1
theorem mem_dd {κ : Type} [DecidableEq κ] {l : List κ} {x : κ} : x ∈ dd l ↔ x ∈ l := by
  have := (dd_fold l [] List.nodup_nil).2 x
  simpa [dd] using this
theorem le_data (x y : Prw) : PySem.W.dataLe false encD x y = leP (x.2.1, x.2.2.cps.toList) (y.2.1, y.2.2.cps.toList) := by
  obtain ⟨a, i, s⟩ := x
  obtain ⟨b, j, r⟩ := y
  have tok : ∀ (i : Int) (s : Str), PySem.W.keyToks (PyData.tuple [.int i, .str s]) = [.inl 1, .inl i, .inl 1, .inr s.cps.toList, .inl 0] := fun i s => by simp [PySem.W.keyToks, PySem.W.keyToksAll]
  simp only [PySem.W.dataLe_eq, cond_false, PySem.W.dataLt, encD, tok, leP]
  rw [PyProof.Rows.lex_self (O := PyProof.Rows.itemOrd)]
  rcases Int.lt_trichotomy i j with h | h | h
  · have ne : (Sum.inl j : Int ⊕ List Nat) ≠ .inl i := fun z => by cases z; omega
    rw [PyProof.Rows.lex_diff (O := PyProof.Rows.itemOrd) ne]
    have : ¬ j < i := by omega
    simp [PyProof.Rows.itemLt, this, h]
  · subst h
    rw [PyProof.Rows.lex_self (O := PyProof.Rows.itemOrd), PyProof.Rows.lex_self (O := PyProof.Rows.itemOrd)]
    by_cases e : s.cps.toList = r.cps.toList
    · rw [e, PyProof.Rows.lex_self (O := PyProof.Rows.itemOrd), PyProof.Rows.lex_irrefl]
      simp
    · have ne : (Sum.inr r.cps.toList : Int ⊕ List Nat) ≠ .inr s.cps.toList := fun z => e (by injection z with z; exact z.symm)
      rw [PyProof.Rows.lex_diff (O := PyProof.Rows.itemOrd) ne]
      have h1 : PyProof.Rows.itemOrd.blt (Sum.inr r.cps.toList) (Sum.inr s.cps.toList) = decide (r.cps.toList < s.cps.toList) := rfl
      rw [h1]
      generalize s.cps.toList = x
      generalize r.cps.toList = y
      by_cases q : y < x
      · have q2 : ¬ x ≤ y := fun z => List.not_lt.mpr z q
        simp [q, q2]
      · have q2 : x ≤ y := List.not_lt.mp q
        simp [q, q2]
  · have ne : (Sum.inl j : Int ⊕ List Nat) ≠ .inl i := fun z => by cases z; omega
    rw [PyProof.Rows.lex_diff (O := PyProof.Rows.itemOrd) ne]
    have h2 : ¬ i < j := by omega
    have h3 : ¬ i = j := by omega
    simp [PyProof.Rows.itemLt, h, h2, h3]
noncomputable def sortSetPN (x : PV) : M PV := fun st => match listOf x st with
  | some ys => match prsOf ys with
    | some ps => if ps.length < 64 then .ok (.loc st.length) (st ++ [.lst ((sortP (dd ps)).map encP)]) else .bad
    | none => .bad
  | none => .bad
section
variable {X : Cx} {W : WX} {a : Expr} {ma : Rho → M PV} {p p2 q pos : Pos}
theorem vals_refs : ∀ {ps : List Prw} {us : List Value}, Vals (ps.map fun b => V.ref b.1) us → us = ps.map fun b => Value.ref b.1
  | [], _, .nil => rfl
  | b :: ps, _, .cons e r => by rw [List.map_cons, ← vals_refs r]; cases e; rfl
theorem refs_vals : ∀ (ps : List Prw), Vals (ps.map fun b => V.ref b.1) (ps.map fun b => Value.ref b.1)
  | [] => .nil
  | b :: ps => .cons rfl (refs_vals ps)
theorem pr_raw {pins : List (Addr × Obj)} {σ : L2.St} {H : Hp} {s : Shared} {b : Addr} {i : Int} {y : Str} (I : Inv X pins σ H s) (ht : SqT X.K H b [V.int i, V.str y]) : PrAt s.heap b i y := by
  obtain ⟨its2, r2, ⟨o, ho, hcl, n, hd⟩, _⟩ := I.tuple ht
  obtain ⟨t, u, rfl⟩ : ∃ t u, its2 = [Value.int i t, Value.str y u] := by
    cases r2 with
    | cons q1 q2 =>
      cases q2 with
      | cons q3 q4 =>
        cases q4
        obtain ⟨t, rfl⟩ := q1
        obtain ⟨u, rfl⟩ := q3
        exact ⟨t, u, rfl⟩
  exact ⟨o, n, t, u, ho, hcl, hd⟩
theorem sub_kyD {B : List Prw} : ∀ {L : KyL}, (∀ p ∈ L, p ∈ B.map kyD) → ∃ ls : List Prw, L = ls.map kyD ∧ ∀ b ∈ ls, b ∈ B
  | [], _ => ⟨[], rfl, fun b h => by cases h⟩
  | p :: L, h => by
    obtain ⟨ls, e, hs⟩ := sub_kyD (L := L) fun p hp => h p (List.mem_cons_of_mem _ hp)
    obtain ⟨b, hb, rfl⟩ := List.mem_map.mp (h p List.mem_cons_self)
    refine ⟨b :: ls, by rw [List.map_cons, e], fun c hc => ?_⟩
    rcases List.mem_cons.mp hc with rfl | hc
    · exact hb
    · exact hs c hc
theorem kyD_inj {b c : Prw} (h : (kyD b).2 = (kyD c).2) : b.2 = c.2 := by
  simp only [kyD, NestedKey.tup.injEq, List.cons.injEq, NestedKey.num.injEq, NestedKey.text.injEq, and_true] at h
  exact Prod.ext h.1 h.2
theorem pe_sortSetP {ta : TE} (hc : X.calm = true) (hu : X.A.units + 64 < cLine) (hg : Gl X "sorted") (hm : X.mg "sorted" = none) (hg2 : Gl X "set") (hm2 : X.mg "set" = none) (ha : PE X a ta) (na : starEach [a] X.env = (false, eval a X.env) :: starEach [] X.env)
    (nb : starEach [.Call (.Name "set" p2) [a] [] q] X.env = (false, eval (.Call (.Name "set" p2) [a] [] q) X.env) :: starEach [] X.env) :
    PE X (.Call (.Name "sorted" p) [.Call (.Name "set" p2) [a] [] q] [] pos) (fun σ H Q => ta σ H fun x H1 =>
      (∃ (l : Addr) (xs : List Str), x = V.ref l ∧ SqL X.K H1 l (xs.map V.str) ∧ xs.length ≤ 1000 ∧ (dd xs).length < 64 ∧ ∀ (ys : List Str) (p : Addr), ys.Perm (dd xs) → sortedS ys = true → H1 p = none → Q (.ref p) (upd H1 p (.lst (ys.map V.str)))) ∨
      ∃ (l : Addr) (ps : List Prw), x = V.ref l ∧ SqL X.K H1 l (ps.map fun b => V.ref b.1) ∧ (∀ b ∈ ps, SqT X.K H1 b.1 [V.int b.2.1, V.str b.2.2]) ∧ ps.length < 64 ∧
        ∀ (p : Addr) (qs : List Prw), (∀ b ∈ qs, b ∈ ps) → (qs.map (·.2)).Nodup → (∀ b ∈ ps, b.2 ∈ qs.map (·.2)) → qs.Pairwise (fun x y => PySem.W.dataLe false encD x y = true) → H1 p = none → Q (.ref p) (upd H1 p (.lst (qs.map fun b => V.ref b.1)))) := by
  refine ⟨fun pins s σ H Q I h => Call_ (ld_blt I hg hm boot_sorted (callWith_builtin1 (args_cons (Call_ (ld_blt I hg2 hm2 boot_set ?_)) nb) nb rfl))⟩
  refine callWith_type1 (args_cons (thn (ha.run pins s σ H _ I h) fun v s1 ⟨x, H1, I1, r1, q1⟩ => args_nil ?_) na) na rfl
  rcases q1 with ⟨l, xs, rfl, hq, h1, h1d, q1⟩ | ⟨l, ps, rfl, hq, ht, few, q1⟩
  · cases r1
    obtain ⟨its, r, pl, hz⟩ := I1.list hq
    have hl := r.length
    rw [List.length_map] at hl
    refine call_setS (I1.ok.hd hc) pl.isList r.strs (by rw [List.size_toArray, ← hl]; unfold scanBound; omega) fun h' tk hS hk => args_nil ?_
    have I2 : Inv X pins σ H1 { s1 with heap := h', toks := tk } := I1.kept fun b o e => hk b o (Heap.lt_size e) e
    exact sortS_fin hc I2 hS h1d q1
  · cases r1
    obtain ⟨its, r, pl, hz⟩ := I1.list hq
    have ei := vals_refs r
    subst ei
    refine call_setK (ks := ps.map kyD) (I1.ok.hd hc) pl.isList (by simp [kyD]) (fun p hp => ?_) (by rw [List.length_map]; exact few) (by omega) fun h' tk L es ep t hS hg' hk2 => args_nil ?_
    · obtain ⟨b, hb, rfl⟩ := List.mem_map.mp hp
      exact (pr_raw I1 (ht b hb)).key
    have I2 : Inv X pins σ H1 { s1 with heap := h', toks := tk } := I1.kept fun b o e => hk2 b o (Heap.lt_size e) e
    obtain ⟨ls, rfl, lsub⟩ := sub_kyD hg'.sub
    have nd : (ls.map (·.2)).Nodup := by
      have := hS.nd
      rw [List.map_map] at this
      rw [List.Nodup, List.pairwise_map] at this ⊢
      exact this.imp fun {b c} h e => h (by simp only [Function.comp_apply, kyD, e])
    have all : ∀ b ∈ ps, b.2 ∈ ls.map (·.2) := fun b hb => by
      have := hg'.all (kyD b) (List.mem_map.mpr ⟨b, hb, rfl⟩)
      rw [List.map_map, List.mem_map] at this
      obtain ⟨c, hc', e⟩ := this
      exact List.mem_map.mpr ⟨c, hc', kyD_inj e⟩
    refine sorted_setK hS (I2.ok.hd hc) (fun b hb => pr_raw I2 (ht b (lsub b hb))) (by omega) fun s' p c qs k g o hp pm sq hgl => ?_
    have hn : H1 p = none := I2.hok.fresh hp
    have ql : qs.length < 64 := by
      have := hS.few
      rw [List.length_map] at this
      rw [pm.length_eq]; exact this
    have J : Inv X pins σ (upd H1 p (.lst (qs.map fun b => V.ref b.1))) { { s1 with heap := h', toks := tk } with heap := s'.heap, gens := s'.gens, drawn := s'.drawn, toks := s'.toks } :=
      I2.call (ch := []) (Un.laid k hp hn) (I2.hok.laid k hp ⟨by rw [sizeLine_eq]; simp; omega, _, c, refs_vals qs, hgl⟩) (by rw [g]; exact I2.bare) (fun _ z => nomatch z)
    have e : s' = { { s1 with heap := h', toks := tk } with heap := s'.heap, gens := s'.gens, drawn := s'.drawn, toks := s'.toks } := by
      cases s'
      cases s1
      cases o
      rfl
    rw [e]
    exact ⟨.ref p, _, J, rfl, q1 p qs (fun b hb => lsub b (pm.mem_iff.mp hb)) ((pm.map (·.2)).nodup_iff.mpr nd) (fun b hb => ((pm.map (·.2)).mem_iff).mpr (all b hb)) sq hn⟩
theorem prw_at {K : PySem.W.Frag} {H : Hp} {μ : Mu} : ∀ {ps : List Pr2} {vs : List V}, VRs K H μ (ps.map encP) vs → ∃ bs : List Prw, vs = bs.map (fun b => V.ref b.1) ∧ bs.map (fun b => (b.2.1, b.2.2.cps.toList)) = ps ∧ ∀ b ∈ bs, SqT K H b.1 [V.int b.2.1, V.str b.2.2] ∧ VR K H μ (encP (b.2.1, b.2.2.cps.toList)) (.ref b.1)
  | [], vs, r => by
    cases (show vs = [] from r)
    exact ⟨[], rfl, rfl, fun b h => by cases h⟩
  | (i, y) :: ps, vs, r => by
    obtain ⟨v, t, rfl, r1, r2⟩ := (show ∃ v t, vs = v :: t ∧ VR K H μ (encP (i, y)) v ∧ VRs K H μ (ps.map encP) t from r)
    obtain ⟨bs, rfl, rfl, hb⟩ := prw_at r2
    obtain ⟨b, ws, rfl, t, rw2⟩ := tup_at r1
    obtain ⟨w1, ws', rfl, q1, q2⟩ := (show ∃ w r, ws = w :: r ∧ VR K H μ (.int i) w ∧ VRs K H μ [.str y] r from rw2)
    obtain ⟨w2, rfl, q3⟩ := one_of q2
    cases (show w1 = V.int i from q1)
    cases (show w2 = V.str ⟨y.toArray⟩ from q3)
    refine ⟨(b, i, ⟨y.toArray⟩) :: bs, rfl, rfl, fun c hc => ?_⟩
    rcases List.mem_cons.mp hc with rfl | hc
    · exact ⟨t.sq, r1⟩
    · exact hb c hc
theorem vrs_pairs {K : PySem.W.Frag} {H : Hp} {μ : Mu} : ∀ {qs : List Prw}, (∀ b ∈ qs, VR K H μ (encP (b.2.1, b.2.2.cps.toList)) (.ref b.1)) → VRs K H μ ((qs.map fun b => (b.2.1, b.2.2.cps.toList)).map encP) (qs.map fun b => V.ref b.1)
  | [], _ => rfl
  | b :: qs, h => ⟨_, _, rfl, h b List.mem_cons_self, vrs_pairs fun c hc => h c (List.mem_cons_of_mem _ hc)⟩
theorem me_sortSetPN (hu : X.A.units + 64 < cLine) (hc : X.calm = true) (hg : Gl X "sorted") (hm : X.mg "sorted" = none) (hg2 : Gl X "set") (hm2 : X.mg "set" = none) (ha : ME X W a ma) (na : starEach [a] X.env = (false, eval a X.env) :: starEach [] X.env := by kernel_rfl)
    (nb : starEach [.Call (.Name "set" p2) [a] [] q] X.env = (false, eval (.Call (.Name "set" p2) [a] [] q) X.env) :: starEach [] X.env := by kernel_rfl) : ME X W (.Call (.Name "sorted" p) [.Call (.Name "set" p2) [a] [] q] [] pos) (eUn sortSetPN ma) :=
  PE.imp (pe_sortSetP hc hu hg hm hg2 hm2 ha na nb) fun σ H Q ⟨μ, st, ρ, er, sr, h⟩ => ⟨μ, st, ρ, er, sr, (PostG.bind h).mono fun u H1 ⟨μ1, st1, x, g1, s1, rx, h1⟩ => by
    cases q1 : listOf x st1 with
    | none =>
      have e0 : sortSetPN x st1 = .bad := by simp only [sortSetPN, q1]
      rw [e0] at h1; exact h1.elim
    | some ys =>
      cases q3 : prsOf ys with
      | some ps =>
        have e0 : sortSetPN x st1 = if ps.length < 64 then .ok (.loc st1.length) (st1 ++ [.lst ((sortP (dd ps)).map encP)]) else .bad := by simp only [sortSetPN, q1, q3]
        rw [e0] at h1
        by_cases hk : ps.length < 64
        · rw [if_pos hk] at h1
          obtain ⟨l, vs, rfl, hq, rs⟩ := listOf_at s1 rx q1
          rw [prsOf_enc q3] at rs
          obtain ⟨bs, rfl, rfl, hb⟩ := prw_at rs
          rw [List.length_map] at hk
          refine .inr ⟨l, bs, rfl, .inl (.of hq), fun b h => (hb b h).1, hk, fun p qs sub nd all sq hp => ?_⟩
          have inj : ∀ {b c : Prw}, (b.2.1, b.2.2.cps.toList) = (c.2.1, c.2.2.cps.toList) → b.2 = c.2 := fun {b c} e => by
            obtain ⟨b0, b1, b2⟩ := b
            obtain ⟨c0, c1, c2⟩ := c
            simp only [Prod.mk.injEq] at e ⊢
            refine ⟨e.1, ?_⟩
            have := congrArg List.toArray e.2
            cases b2; cases c2
            simpa using this
          have e2 : qs.map (fun b => (b.2.1, b.2.2.cps.toList)) = sortP (dd (bs.map fun b => (b.2.1, b.2.2.cps.toList))) := by
            refine sortP_of ?_ ?_
            · rw [List.perm_iff_count]
              intro z
              have n1 : (qs.map fun b => (b.2.1, b.2.2.cps.toList)).Nodup := by
                rw [List.Nodup, List.pairwise_map] at nd ⊢
                exact nd.imp fun h e => h (inj e)
              have n2 := dd_nd (bs.map fun b => (b.2.1, b.2.2.cps.toList))
              have m : z ∈ (qs.map fun b => (b.2.1, b.2.2.cps.toList)) ↔ z ∈ dd (bs.map fun b => (b.2.1, b.2.2.cps.toList)) := by
                rw [mem_dd, List.mem_map, List.mem_map]
                constructor
                · rintro ⟨b, hb', rfl⟩; exact ⟨b, sub b hb', rfl⟩
                · rintro ⟨b, hb', rfl⟩
                  obtain ⟨c, hc', e⟩ := List.mem_map.mp (all b hb')
                  exact ⟨c, hc', by rw [e]⟩
              rw [n1.count, n2.count]
              by_cases hz : z ∈ (qs.map fun b => (b.2.1, b.2.2.cps.toList))
              · rw [if_pos hz, if_pos (m.mp hz)]
              · rw [if_neg hz, if_neg fun y => hz (m.mpr y)]
            · rw [List.pairwise_map]
              exact sq.imp fun h => by rw [le_data] at h; exact h
          rw [← e2] at h1
          exact post_cell h1 s1 hp ⟨_, upd_same, VRs.mono (gr_alloc hp) _ _ (vrs_pairs fun b h => (hb b (sub b h)).2)⟩
        · rw [if_neg hk] at h1; exact h1.elim
      | none =>
        have e0 : sortSetPN x st1 = .bad := by simp only [sortSetPN, q1, q3]
        rw [e0] at h1; exact h1.elim⟩
end
end MP

set_option maxRecDepth 100000
namespace MP
open PySem L2 PySem.Spec PyProof.Rows
noncomputable def ltX (x y : PV) : M PV := match x, y with
  | .int i, .int j => M.ret (.bl (decide (i < j)))
  | .str a, .str b => M.ret (.bl (decide (a < b)))
  | _, _ => M.fail
noncomputable def rLtX : R2 := fun x y H Q => rI0 (fun i j => .bl (decide (i < j))) x y H Q ∨ ∃ i j : Str, x = .str i ∧ y = .str j ∧ Q (.bl (decide (i.cps.toList < j.cps.toList))) H
theorem op_ltX {X : Cx} : OpR X (compareOp .Lt) rLtX := by
  intro pins s σ H x y v u Q I rx ry h
  rcases h with h | h
  · exact op_lt _ _ _ _ _ _ _ _ _ I rx ry h
  · exact op_lt_str _ _ _ _ _ _ _ _ _ I rx ry h
theorem t_ltX {K : KW} : T2 K rLtX ltX := by
  intro μ st H x y u v E Q sr rx ry h
  unfold ltX at h
  split at h
  · cases (show u = V.int _ from rx); cases (show v = V.int _ from ry)
    exact .inl ⟨_, _, rfl, rfl, post_same h sr rfl⟩
  · rename_i a b
    cases (show u = V.str ⟨a.toArray⟩ from rx); cases (show v = V.str ⟨b.toArray⟩ from ry)
    exact .inr ⟨_, _, rfl, rfl, post_same h sr rfl⟩
  · exact h.elim
section
variable {X : Cx} {W : WX} {a b : Expr} {ma mb : Rho → M PV} {pos : Pos}
theorem me_ltX (ha : ME X W a ma) (hb : ME X W b mb) : ME X W (.Compare a [.Lt] [b] pos) (eBin ltX ma mb) := me_cmp op_ltX t_ltX ha hb (nomark _)
end
end MP

set_option maxRecDepth 100000
set_option maxHeartbeats 1000000
namespace MP
open PySem L2
noncomputable def Z {α : Type} (r : Res α) (Q : α → Sto → Prop) (E : Exn → Sto → Prop) : Prop := match r with
  | .ok a st => Q a st
  | .err x st => E x st
  | .bad => False
noncomputable def E0 : Exn → Sto → Prop := fun _ _ => False
noncomputable abbrev KP := PV → Sto → Prop
noncomputable abbrev KB := Bool → Sto → Prop
noncomputable abbrev KLs := List PV → Sto → Prop
noncomputable abbrev KR := Rho → Sto → Prop
noncomputable abbrev KF := Fl → Sto → Prop
noncomputable abbrev KU := Unit → Sto → Prop
noncomputable abbrev KO := Option Int → Sto → Prop
noncomputable abbrev KI := Int → Sto → Prop
noncomputable abbrev KX := Exn → Sto → Prop
noncomputable abbrev KD := List (PV × PV) → Sto → Prop
noncomputable abbrev ME1 := Rho → M PV
noncomputable abbrev MT1 := Rho → M Bool
noncomputable abbrev MS1 := Rho → M Fl
noncomputable abbrev ML1 := Rho → M (List PV)
section
variable {α β : Type} {st : Sto} {ρ : Rho} {Q : α → Sto → Prop} {E : KX} {QP : KP} {QF : KF} {QB : KB} {QL : KLs} {QR : KR} {QO : KO} {QI : KI} {QU : KU} {QD : KD}
@[simp ↓] theorem Z_ok {a : α} : Z (.ok a st) Q E = Q a st := propext Iff.rfl
@[simp ↓] theorem Z_err {x : Exn} : Z (.err x st : Res α) Q E = E x st := propext Iff.rfl
@[simp ↓] theorem Z_bad : Z (.bad : Res α) Q E = False := propext Iff.rfl
theorem Z.imp {r : Res α} {Q Q' : α → Sto → Prop} {E E' : KX} (h : Z r Q E) (hq : ∀ a st, Q a st → Q' a st) (he : ∀ x st, E x st → E' x st) : Z r Q' E' := by
  cases r with
  | ok a st => exact hq a st h
  | err x st => exact he x st h
  | bad => exact h
theorem Z.go {r : Res α} {Q Q' : α → Sto → Prop} {E' : KX} (h : Z r Q E0) (hq : ∀ a st, Q a st → Q' a st) : Z r Q' E' := h.imp hq fun _ _ h => False.elim h
@[simp ↓] theorem Z_ret {a : α} : Z (M.ret a st) Q E = Q a st := propext Iff.rfl
@[simp ↓] theorem Z_fail : Z ((M.fail : M α) st) Q E = False := propext Iff.rfl
theorem Z_bind {m : M β} {f : β → M α} : Z (M.bind m f st) Q E = Z (m st) (fun a st' => Z (f a st') Q E) E := by
  unfold M.bind; cases m st <;> rfl
@[simp ↓] theorem Z_calm {m : M α} : Z (M.calm m st) Q E = Z (m st) Q E0 := by
  unfold M.calm; cases m st <;> rfl
theorem Z_onErr {m : M α} {k : α → M Fl} : Z (onErr ρ m k st) QF E = Z (m st) (fun a s => Z (k a s) QF E) (fun x s => QF (.exc x ρ) s) := by
  unfold onErr; cases m st <;> rfl
theorem Z_ite {c : Prop} [Decidable c] {m m' : M α} : Z ((if c then m else m') st) Q E = if c then Z (m st) Q E else Z (m' st) Q E := by split <;> rfl
theorem Z_iteR {c : Prop} [Decidable c] {r r' : Res α} : Z (if c then r else r') Q E = if c then Z r Q E else Z r' Q E := by split <;> rfl
@[simp ↓] theorem Z_eVar {i : Nat} {p : PV} (h : ρ[i]? = some (some p)) : Z (eVar i ρ st) QP E = QP p st := by unfold eVar; rw [h]; rfl
@[simp ↓] theorem Z_eC {p : PV} : Z (eC p ρ st) QP E = QP p st := propext Iff.rfl
@[simp ↓] theorem Z_asB {b : Bool} : Z (asB (.bl b) st) QB E = QB b st := propext Iff.rfl
@[simp ↓] theorem Z_asI {i : Int} : Z (asI (.int i) st) QI E = QI i st := propext Iff.rfl
@[simp ↓] theorem Z_aNil : Z (aNil ρ st) QL E = QL [] st := propext Iff.rfl
@[simp ↓] theorem Z_oNone : Z (oNone ρ st) QO E = QO none st := propext Iff.rfl
@[simp ↓] theorem Z_sNext : Z (sNext ρ st) QF E = QF (.next ρ) st := propext Iff.rfl
@[simp ↓] theorem Z_sPass : Z (sPass ρ st) QF E = QF (.next ρ) st := propext Iff.rfl
@[simp ↓] theorem Z_sBreak : Z (sBreak ρ st) QF E = QF (.brk ρ) st := propext Iff.rfl
@[simp ↓] theorem Z_sCont : Z (sCont ρ st) QF E = QF (.cont ρ) st := propext Iff.rfl
@[simp ↓] theorem Z_sRetN : Z (sRetN ρ st) QF E = QF (.ret .non) st := propext Iff.rfl
@[simp ↓] theorem Z_gN {i : Nat} {p : PV} : Z (gN i p ρ st) QR E = QR (ρ.set i (some p)) st := propext Iff.rfl
noncomputable def kB2 (g : PV → PV → M PV) (x : PV) (QP : KP) (E : KX) : PV → Sto → Prop := fun y s => Z (g x y s) QP E
@[simp ↓] theorem kB2_at {g : PV → PV → M PV} {x : PV} {QP : KP} {E : KX} {y : PV} {s : Sto} : kB2 g x QP E y s = (Z (g x y s) QP E) := propext Iff.rfl
noncomputable def kB1 (g : PV → PV → M PV) (mb : ME1) (ρ : Rho) (QP : KP) (E : KX) : PV → Sto → Prop := fun x s => Z (mb ρ s) (kB2 g x QP E) E
@[simp ↓] theorem kB1_at {g : PV → PV → M PV} {mb : ME1} {ρ : Rho} {QP : KP} {E : KX} {x : PV} {s : Sto} : kB1 g mb ρ QP E x s = (Z (mb ρ s) (kB2 g x QP E) E) := propext Iff.rfl
@[simp ↓] theorem Z_eBin {g : PV → PV → M PV} {ma mb : ME1} : Z (eBin g ma mb ρ st) QP E = Z (ma ρ st) (kB1 g mb ρ QP E) E := by
  unfold eBin; rw [Z_bind]; simp only [Z_bind]; rfl
noncomputable def kU (g : PV → M PV) (QP : KP) (E : KX) : PV → Sto → Prop := fun x s => Z (g x s) QP E
@[simp ↓] theorem kU_at {g : PV → M PV} {QP : KP} {E : KX} {x : PV} {s : Sto} : kU g QP E x s = (Z (g x s) QP E) := propext Iff.rfl
@[simp ↓] theorem Z_eUn {g : PV → M PV} {ma : ME1} : Z (eUn g ma ρ st) QP E = Z (ma ρ st) (kU g QP E) E := by
  unfold eUn; rw [Z_bind]; rfl
noncomputable def kAs (QB : KB) (E : KX) : PV → Sto → Prop := fun x s => Z (asB x s) QB E
@[simp ↓] theorem kAs_bl {QB : KB} {E : KX} {b : Bool} {s : Sto} : kAs QB E (.bl b) s = QB b s := propext Iff.rfl
@[simp ↓] theorem Z_eB {m : ME1} : Z (eB m ρ st) QB E = Z (m ρ st) (kAs QB E) E := by
  unfold eB; rw [Z_bind]; rfl
noncomputable def kAnd (u : MT1) (ρ : Rho) (QB : KB) (E : KX) : Bool → Sto → Prop := fun c s => if c = true then Z (u ρ s) QB E else QB false s
@[simp ↓] theorem kAnd_t {u : MT1} {ρ : Rho} {QB : KB} {E : KX} {s : Sto} : kAnd u ρ QB E true s = (Z (u ρ s) QB E) := propext Iff.rfl
@[simp ↓] theorem kAnd_f {u : MT1} {ρ : Rho} {QB : KB} {E : KX} {s : Sto} : kAnd u ρ QB E false s = (QB false s) := propext Iff.rfl
@[simp ↓] theorem Z_tAnd {t u : MT1} : Z (tAndM t u ρ st) QB E = Z (t ρ st) (kAnd u ρ QB E) E := by
  unfold tAndM; rw [Z_bind]; congr 1; funext c s; cases c <;> rfl
noncomputable def kOr (u : MT1) (ρ : Rho) (QB : KB) (E : KX) : Bool → Sto → Prop := fun c s => if c = true then QB true s else Z (u ρ s) QB E
@[simp ↓] theorem kOr_t {u : MT1} {ρ : Rho} {QB : KB} {E : KX} {s : Sto} : kOr u ρ QB E true s = (QB true s) := propext Iff.rfl
@[simp ↓] theorem kOr_f {u : MT1} {ρ : Rho} {QB : KB} {E : KX} {s : Sto} : kOr u ρ QB E false s = (Z (u ρ s) QB E) := propext Iff.rfl
@[simp ↓] theorem Z_tOr {t u : MT1} : Z (tOrM t u ρ st) QB E = Z (t ρ st) (kOr u ρ QB E) E := by
  unfold tOrM; rw [Z_bind]; congr 1; funext c s; cases c <;> rfl
noncomputable def kNot (QB : KB) : Bool → Sto → Prop := fun c s => QB (!c) s
@[simp ↓] theorem kNot_at {QB : KB} {c : Bool} {s : Sto} : kNot QB c s = (QB (!c) s) := propext Iff.rfl
@[simp ↓] theorem Z_tNot {t : MT1} : Z (tNotM t ρ st) QB E = Z (t ρ st) (kNot QB) E := by
  unfold tNotM; rw [Z_bind]; rfl
noncomputable def kAndV (mb : ME1) (ρ : Rho) (QP : KP) (E : KX) : Bool → Sto → Prop := fun c s => if c = true then Z (mb ρ s) QP E else QP (.bl false) s
@[simp ↓] theorem kAndV_t {mb : ME1} {ρ : Rho} {QP : KP} {E : KX} {s : Sto} : kAndV mb ρ QP E true s = (Z (mb ρ s) QP E) := propext Iff.rfl
@[simp ↓] theorem kAndV_f {mb : ME1} {ρ : Rho} {QP : KP} {E : KX} {s : Sto} : kAndV mb ρ QP E false s = (QP (.bl false) s) := propext Iff.rfl
@[simp ↓] theorem Z_eAnd {ma mb : ME1} : Z (eAndV ma mb ρ st) QP E = Z (ma ρ st) (kAs (kAndV mb ρ QP E) E) E := by
  unfold eAndV; rw [Z_bind]; congr 1; funext x s; rw [Z_bind]; show Z _ _ _ = Z _ _ _; congr 1; funext c s; cases c <;> rfl
noncomputable def kOrV (mb : ME1) (ρ : Rho) (QP : KP) (E : KX) : Bool → Sto → Prop := fun c s => if c = true then QP (.bl true) s else Z (mb ρ s) QP E
@[simp ↓] theorem kOrV_t {mb : ME1} {ρ : Rho} {QP : KP} {E : KX} {s : Sto} : kOrV mb ρ QP E true s = (QP (.bl true) s) := propext Iff.rfl
@[simp ↓] theorem kOrV_f {mb : ME1} {ρ : Rho} {QP : KP} {E : KX} {s : Sto} : kOrV mb ρ QP E false s = (Z (mb ρ s) QP E) := propext Iff.rfl
@[simp ↓] theorem Z_eOr {ma mb : ME1} : Z (eOrV ma mb ρ st) QP E = Z (ma ρ st) (kAs (kOrV mb ρ QP E) E) E := by
  unfold eOrV; rw [Z_bind]; congr 1; funext x s; rw [Z_bind]; show Z _ _ _ = Z _ _ _; congr 1; funext c s; cases c <;> rfl
noncomputable def kNotV (QP : KP) : Bool → Sto → Prop := fun c s => QP (.bl (!c)) s
@[simp ↓] theorem kNotV_at {QP : KP} {c : Bool} {s : Sto} : kNotV QP c s = (QP (.bl (!c)) s) := propext Iff.rfl
@[simp ↓] theorem Z_eNot {ma : ME1} : Z (eNotV ma ρ st) QP E = Z (ma ρ st) (kAs (kNotV QP) E) E := by
  unfold eNotV; rw [Z_bind]; congr 1; funext x s; rw [Z_bind]; rfl
noncomputable def kIf (ma : ME1) (mb : ME1) (ρ : Rho) (QP : KP) (E : KX) : Bool → Sto → Prop := fun c s => if c = true then Z (ma ρ s) QP E else Z (mb ρ s) QP E
@[simp ↓] theorem kIf_t {ma : ME1} {mb : ME1} {ρ : Rho} {QP : KP} {E : KX} {s : Sto} : kIf ma mb ρ QP E true s = (Z (ma ρ s) QP E) := propext Iff.rfl
@[simp ↓] theorem kIf_f {ma : ME1} {mb : ME1} {ρ : Rho} {QP : KP} {E : KX} {s : Sto} : kIf ma mb ρ QP E false s = (Z (mb ρ s) QP E) := propext Iff.rfl
@[simp ↓] theorem Z_eIf {t : MT1} {ma mb : ME1} : Z (eIf t ma mb ρ st) QP E = Z (t ρ st) (kIf ma mb ρ QP E) E := by
  unfold eIf; rw [Z_bind]; congr 1; funext c s; cases c <;> rfl
noncomputable def kA2 (x : PV) (QL : KLs) : List PV → Sto → Prop := fun xs s => QL (x :: xs) s
@[simp ↓] theorem kA2_at {x : PV} {QL : KLs} {xs : List PV} {s : Sto} : kA2 x QL xs s = (QL (x :: xs) s) := propext Iff.rfl
noncomputable def kA1 (r : ML1) (ρ : Rho) (QL : KLs) (E : KX) : PV → Sto → Prop := fun x s => Z (r ρ s) (kA2 x QL) E
@[simp ↓] theorem kA1_at {r : ML1} {ρ : Rho} {QL : KLs} {E : KX} {x : PV} {s : Sto} : kA1 r ρ QL E x s = (Z (r ρ s) (kA2 x QL) E) := propext Iff.rfl
@[simp ↓] theorem Z_aCons {m : ME1} {r : ML1} : Z (aCons m r ρ st) QL E = Z (m ρ st) (kA1 r ρ QL E) E := by
  unfold aCons; rw [Z_bind]; congr 1; funext x s; rw [Z_bind]; rfl
noncomputable def kF (f : List PV → M PV) (QP : KP) (E : KX) : List PV → Sto → Prop := fun xs s => Z (f xs s) QP E
@[simp ↓] theorem kF_at {f : List PV → M PV} {QP : KP} {E : KX} {xs : List PV} {s : Sto} : kF f QP E xs s = (Z (f xs s) QP E) := propext Iff.rfl
@[simp ↓] theorem Z_eCall {f : List PV → M PV} {m : ML1} : Z (eCall f m ρ st) QP E = Z (m ρ st) (kF f QP E) E := by
  unfold eCall; rw [Z_bind]; rfl
noncomputable def kM3 (f : PV → List PV → M PV) (o : PV) (QP : KP) (E : KX) : List PV → Sto → Prop := fun xs s => Z (f o xs s) QP E
@[simp ↓] theorem kM3_at {f : PV → List PV → M PV} {o : PV} {QP : KP} {E : KX} {xs : List PV} {s : Sto} : kM3 f o QP E xs s = (Z (f o xs s) QP E) := propext Iff.rfl
noncomputable def kM2 (f : PV → List PV → M PV) (ma : ML1) (ρ : Rho) (o : PV) (QP : KP) (E : KX) : Unit → Sto → Prop := fun _ s => Z (ma ρ s) (kM3 f o QP E) E
@[simp ↓] theorem kM2_at {f : PV → List PV → M PV} {ma : ML1} {ρ : Rho} {o : PV} {QP : KP} {E : KX} {a : Unit} {s : Sto} : kM2 f ma ρ o QP E a s = (Z (ma ρ s) (kM3 f o QP E) E) := propext Iff.rfl
noncomputable def kM1 (T : String) (f : PV → List PV → M PV) (ma : ML1) (ρ : Rho) (QP : KP) (E : KX) : PV → Sto → Prop := fun o s => Z (tyC T o s) (kM2 f ma ρ o QP E) E
@[simp ↓] theorem kM1_at {T : String} {f : PV → List PV → M PV} {ma : ML1} {ρ : Rho} {QP : KP} {E : KX} {o : PV} {s : Sto} : kM1 T f ma ρ QP E o s = (Z (tyC T o s) (kM2 f ma ρ o QP E) E) := propext Iff.rfl
@[simp ↓] theorem Z_eMeth {T : String} {f : PV → List PV → M PV} {mo : ME1} {ma : ML1} : Z (eMeth T f mo ma ρ st) QP E = Z (mo ρ st) (kM1 T f ma ρ QP E) E := by
  unfold eMeth; rw [Z_bind]; simp only [Z_bind]; rfl
noncomputable def kC3 (g : PV → PV → M PV) (mc : ME1) (ρ : Rho) (y : PV) (QP : KP) (E : KX) : Bool → Sto → Prop := fun c s => if c = true then Z (mc ρ s) (kB2 g y QP E) E else QP (.bl false) s
@[simp ↓] theorem kC3_t {g : PV → PV → M PV} {mc : ME1} {ρ : Rho} {y : PV} {QP : KP} {E : KX} {s : Sto} : kC3 g mc ρ y QP E true s = (Z (mc ρ s) (kB2 g y QP E) E) := propext Iff.rfl
@[simp ↓] theorem kC3_f {g : PV → PV → M PV} {mc : ME1} {ρ : Rho} {y : PV} {QP : KP} {E : KX} {s : Sto} : kC3 g mc ρ y QP E false s = (QP (.bl false) s) := propext Iff.rfl
noncomputable def kC2 (f : PV → PV → M PV) (g : PV → PV → M PV) (mc : ME1) (ρ : Rho) (x : PV) (QP : KP) (E : KX) : PV → Sto → Prop := fun y s => Z (f x y s) (kAs (kC3 g mc ρ y QP E) E) E
@[simp ↓] theorem kC2_at {f : PV → PV → M PV} {g : PV → PV → M PV} {mc : ME1} {ρ : Rho} {x : PV} {QP : KP} {E : KX} {y : PV} {s : Sto} : kC2 f g mc ρ x QP E y s = (Z (f x y s) (kAs (kC3 g mc ρ y QP E) E) E) := propext Iff.rfl
noncomputable def kC1 (f : PV → PV → M PV) (g : PV → PV → M PV) (mb : ME1) (mc : ME1) (ρ : Rho) (QP : KP) (E : KX) : PV → Sto → Prop := fun x s => Z (mb ρ s) (kC2 f g mc ρ x QP E) E
@[simp ↓] theorem kC1_at {f : PV → PV → M PV} {g : PV → PV → M PV} {mb : ME1} {mc : ME1} {ρ : Rho} {QP : KP} {E : KX} {x : PV} {s : Sto} : kC1 f g mb mc ρ QP E x s = (Z (mb ρ s) (kC2 f g mc ρ x QP E) E) := propext Iff.rfl
@[simp ↓] theorem Z_eChain {f g : PV → PV → M PV} {ma mb mc : ME1} : Z (eChain f g ma mb mc ρ st) QP E = Z (ma ρ st) (kC1 f g mb mc ρ QP E) E := by
  unfold eChain; rw [Z_bind]; congr 1; funext x s; rw [Z_bind]; show Z _ _ _ = Z _ _ _; congr 1; funext y s; rw [Z_bind]; show Z _ _ _ = Z _ _ _; congr 1; funext z s; rw [Z_bind]; show Z _ _ _ = Z _ _ _; congr 1; funext c s; cases c
  · rfl
  · show Z (M.bind _ _ _) _ _ = _; rw [Z_bind]; rfl
noncomputable def seqQ (m' : MS1) (Q : KF) (E : KX) : Fl → Sto → Prop
  | .next ρ, st => Z (m' ρ st) Q E
  | fl, st => Q fl st
@[simp] theorem seqQ_next {m' : MS1} : seqQ m' QF E (.next ρ) st = Z (m' ρ st) QF E := propext Iff.rfl
@[simp] theorem seqQ_ret {m' : MS1} {v : PV} : seqQ m' QF E (.ret v) st = QF (.ret v) st := propext Iff.rfl
@[simp] theorem seqQ_brk {m' : MS1} : seqQ m' QF E (.brk ρ) st = QF (.brk ρ) st := propext Iff.rfl
@[simp] theorem seqQ_cont {m' : MS1} : seqQ m' QF E (.cont ρ) st = QF (.cont ρ) st := propext Iff.rfl
@[simp] theorem seqQ_exc {m' : MS1} {x : Exn} : seqQ m' QF E (.exc x ρ) st = QF (.exc x ρ) st := propext Iff.rfl
@[simp ↓] theorem Z_sSeq {m m' : MS1} : Z (sSeq m m' ρ st) QF E = Z (m ρ st) (seqQ m' QF E) E := by
  unfold sSeq
  cases m ρ st with
  | ok f s => cases f <;> rfl
  | err x s => rfl
  | bad => rfl
noncomputable def turnQ (k : MS1) (Q : KF) (E : KX) : Fl → Sto → Prop
  | .next ρ, st => Z (k ρ st) Q E
  | .cont ρ, st => Z (k ρ st) Q E
  | .brk ρ, st => Q (.next ρ) st
  | fl, st => Q fl st
@[simp] theorem turnQ_next {k : MS1} : turnQ k QF E (.next ρ) st = Z (k ρ st) QF E := propext Iff.rfl
@[simp] theorem turnQ_cont {k : MS1} : turnQ k QF E (.cont ρ) st = Z (k ρ st) QF E := propext Iff.rfl
@[simp] theorem turnQ_brk {k : MS1} : turnQ k QF E (.brk ρ) st = QF (.next ρ) st := propext Iff.rfl
@[simp] theorem turnQ_ret {k : MS1} {v : PV} : turnQ k QF E (.ret v) st = QF (.ret v) st := propext Iff.rfl
@[simp] theorem turnQ_exc {k : MS1} {x : Exn} : turnQ k QF E (.exc x ρ) st = QF (.exc x ρ) st := propext Iff.rfl
@[simp ↓] theorem Z_turn {k : MS1} {m : M Fl} : Z (turnL k m st) QF E = Z (m st) (turnQ k QF E) E := by
  unfold turnL
  cases m st with
  | ok f s => cases f <;> rfl
  | err x s => rfl
  | bad => rfl
noncomputable def kX (ρ : Rho) (QF : KF) : Exn → Sto → Prop := fun x s => QF (.exc x ρ) s
@[simp ↓] theorem kX_at {ρ : Rho} {QF : KF} {x : Exn} {s : Sto} : kX ρ QF x s = (QF (.exc x ρ) s) := propext Iff.rfl
noncomputable def kDrop (ρ : Rho) (QF : KF) : PV → Sto → Prop := fun _ s => QF (.next ρ) s
@[simp ↓] theorem kDrop_at {ρ : Rho} {QF : KF} {a : PV} {s : Sto} : kDrop ρ QF a s = (QF (.next ρ) s) := propext Iff.rfl
@[simp ↓] theorem Z_sDrop {me : ME1} : Z (sDrop me ρ st) QF E = Z (me ρ st) (kDrop ρ QF) (kX ρ QF) := by
  unfold sDrop; rw [Z_onErr]; rfl
noncomputable def kRet (QF : KF) : PV → Sto → Prop := fun v s => QF (.ret v) s
@[simp ↓] theorem kRet_at {QF : KF} {v : PV} {s : Sto} : kRet QF v s = (QF (.ret v) s) := propext Iff.rfl
@[simp ↓] theorem Z_sRet {me : ME1} : Z (sRet me ρ st) QF E = Z (me ρ st) (kRet QF) (kX ρ QF) := by
  unfold sRet; rw [Z_onErr]; rfl
noncomputable def kSet (i : Nat) (ρ : Rho) (QF : KF) : PV → Sto → Prop := fun v s => QF (.next (ρ.set i (some v))) s
@[simp ↓] theorem kSet_at {i : Nat} {ρ : Rho} {QF : KF} {v : PV} {s : Sto} : kSet i ρ QF v s = (QF (.next (ρ.set i (some v))) s) := propext Iff.rfl
@[simp ↓] theorem Z_sSet {i : Nat} {me : ME1} : Z (sSet i me ρ st) QF E = Z (me ρ st) (kSet i ρ QF) (kX ρ QF) := by
  unfold sSet; rw [Z_onErr]; rfl
noncomputable def kSIf (m : MS1) (m' : MS1) (ρ : Rho) (QF : KF) (E : KX) : Bool → Sto → Prop := fun c s => if c = true then Z (m ρ s) QF E else Z (m' ρ s) QF E
@[simp ↓] theorem kSIf_t {m : MS1} {m' : MS1} {ρ : Rho} {QF : KF} {E : KX} {s : Sto} : kSIf m m' ρ QF E true s = (Z (m ρ s) QF E) := propext Iff.rfl
@[simp ↓] theorem kSIf_f {m : MS1} {m' : MS1} {ρ : Rho} {QF : KF} {E : KX} {s : Sto} : kSIf m m' ρ QF E false s = (Z (m' ρ s) QF E) := propext Iff.rfl
@[simp ↓] theorem Z_sIf {t : MT1} {m m' : MS1} : Z (sIf t m m' ρ st) QF E = Z (t ρ st) (kSIf m m' ρ QF E) (kX ρ QF) := by
  unfold sIf; rw [Z_onErr]; congr 1; funext c s; cases c <;> rfl
noncomputable def kNx (QF : KF) : Rho → Sto → Prop := fun ρ' s => QF (.next ρ') s
@[simp ↓] theorem kNx_at {QF : KF} {ρ' : Rho} {s : Sto} : kNx QF ρ' s = (QF (.next ρ') s) := propext Iff.rfl
noncomputable def kAsg (g : GM) (ρ : Rho) (QF : KF) : PV → Sto → Prop := fun v s => Z (g v ρ s) (kNx QF) (kX ρ QF)
@[simp ↓] theorem kAsg_at {g : GM} {ρ : Rho} {QF : KF} {v : PV} {s : Sto} : kAsg g ρ QF v s = (Z (g v ρ s) (kNx QF) (kX ρ QF)) := propext Iff.rfl
@[simp ↓] theorem Z_sAsg {me : ME1} {g : GM} : Z (sAsg me g ρ st) QF E = Z (me ρ st) (kAsg g ρ QF) (kX ρ QF) := by
  unfold sAsg; rw [Z_onErr]; congr 1; funext v s; rw [Z_onErr]; rfl
noncomputable def kG3 (ρ : Rho) (QR : KR) : Unit → Sto → Prop := fun _ s => QR ρ s
@[simp ↓] theorem kG3_at {ρ : Rho} {QR : KR} {a : Unit} {s : Sto} : kG3 ρ QR a s = (QR ρ s) := propext Iff.rfl
noncomputable def kG2 (o : PV) (p : PV) (ρ : Rho) (QR : KR) (E : KX) : PV → Sto → Prop := fun i s => Z (setM o i p s) (kG3 ρ QR) E
@[simp ↓] theorem kG2_at {o : PV} {p : PV} {ρ : Rho} {QR : KR} {E : KX} {i : PV} {s : Sto} : kG2 o p ρ QR E i s = (Z (setM o i p s) (kG3 ρ QR) E) := propext Iff.rfl
noncomputable def kG1 (mi : ME1) (p : PV) (ρ : Rho) (QR : KR) (E : KX) : PV → Sto → Prop := fun o s => Z (mi ρ s) (kG2 o p ρ QR E) E
@[simp ↓] theorem kG1_at {mi : ME1} {p : PV} {ρ : Rho} {QR : KR} {E : KX} {o : PV} {s : Sto} : kG1 mi p ρ QR E o s = (Z (mi ρ s) (kG2 o p ρ QR E) E) := propext Iff.rfl
@[simp ↓] theorem Z_gSub {mo mi : ME1} {p : PV} : Z (gSubM mo mi p ρ st) QR E = Z (mo ρ st) (kG1 mi p ρ QR E) E := by
  unfold gSubM; rw [Z_bind]; simp only [Z_bind]; rfl
noncomputable def kGs (r : GsM) (xs : List PV) (QR : KR) (E : KX) : Rho → Sto → Prop := fun ρ1 s => Z (r xs ρ1 s) QR E
@[simp] theorem kGs_at {r : GsM} {xs : List PV} {QR : KR} {E : KX} {ρ1 : Rho} {s : Sto} : kGs r xs QR E ρ1 s = (Z (r xs ρ1 s) QR E) := propext Iff.rfl
@[simp ↓] theorem Z_gsCons {g : GM} {r : GsM} {x : PV} {xs : List PV} : Z (gsCons g r (x :: xs) ρ st) QR E = Z (g x ρ st) (kGs r xs QR E) E0 := by
  unfold gsCons; dsimp only; rw [Z_bind, Z_calm]; rfl
@[simp ↓] theorem Z_gsNil : Z (gsNil [] ρ st) QR E = QR ρ st := propext Iff.rfl
@[simp ↓] theorem Z_gT {m : Nat} {r : GsM} {xs : List PV} : Z (gT m r (.tup xs) ρ st) QR E = if xs.length = m then Z (r xs ρ st) QR E0 else False := by
  unfold gT; dsimp only; rw [Z_ite]; by_cases h : xs.length = m
  · rw [if_pos h, if_pos h, Z_calm]
  · rw [if_neg h, if_neg h]; rfl
@[simp ↓] theorem Z_gTLt {m : Nat} {r : GsM} {xs : List PV} : Z (gTL m r (.tup xs) ρ st) QR E = if xs.length = m then Z (r xs ρ st) QR E0 else False := by
  unfold gTL; dsimp only; rw [Z_ite]; by_cases h : xs.length = m
  · rw [if_pos h, if_pos h, Z_calm]
  · rw [if_neg h, if_neg h]; rfl
@[simp ↓] theorem Z_gTLl {m : Nat} {r : GsM} {xs : List PV} : Z (gTL m r (.lst xs) ρ st) QR E = if xs.length = m then Z (r xs ρ st) QR E0 else False := by
  unfold gTL; dsimp only; rw [Z_ite]; by_cases h : xs.length = m
  · rw [if_pos h, if_pos h, Z_calm]
  · rw [if_neg h, if_neg h]; rfl
noncomputable def kFor (g : GM) (b : MS1) (ρ : Rho) (QF : KF) (E : KX) : List PV → Sto → Prop := fun ps s => Z (forL g b ps ρ s) QF E
@[simp ↓] theorem kFor_at {g : GM} {b : MS1} {ρ : Rho} {QF : KF} {E : KX} {ps : List PV} {s : Sto} : kFor g b ρ QF E ps s = (Z (forL g b ps ρ s) QF E) := propext Iff.rfl
@[simp ↓] theorem Z_sFor {mi : ML1} {g : GM} {b : MS1} : Z (sFor mi g b ρ st) QF E = Z (mi ρ st) (kFor g b ρ QF E) (kX ρ QF) := by
  unfold sFor; rw [Z_onErr]; rfl
theorem Z_forL_nil {g : GM} {b : MS1} : Z (forL g b [] ρ st) QF E = QF (.next ρ) st := propext Iff.rfl
noncomputable def kF1 (g : GM) (b : MS1) (ps : List PV) (QF : KF) (E : KX) : Rho → Sto → Prop := fun ρ1 s => Z (b ρ1 s) (turnQ (forL g b ps) QF E) E
@[simp] theorem kF1_at {g : GM} {b : MS1} {ps : List PV} {QF : KF} {E : KX} {ρ1 : Rho} {s : Sto} : kF1 g b ps QF E ρ1 s = (Z (b ρ1 s) (turnQ (forL g b ps) QF E) E) := propext Iff.rfl
theorem Z_forL {g : GM} {b : MS1} {p : PV} {ps : List PV} : Z (forL g b (p :: ps) ρ st) QF E = Z (g p ρ st) (kF1 g b ps QF E) (kX ρ QF) := by
  rw [forL, Z_onErr]
  simp only [Z_turn]
  rfl
noncomputable def kIt (QL : KLs) (E : KX) : PV → Sto → Prop := fun x s => Z (itemsM x s) QL E
@[simp ↓] theorem kIt_at {QL : KLs} {E : KX} {x : PV} {s : Sto} : kIt QL E x s = (Z (itemsM x s) QL E) := propext Iff.rfl
@[simp ↓] theorem Z_iSeq {m : ME1} : Z (iSeq m ρ st) QL E = Z (m ρ st) (kIt QL E) E := by
  unfold iSeq; rw [Z_bind]; rfl
noncomputable def kFL (f : List PV → M (List PV)) (QL : KLs) (E : KX) : List PV → Sto → Prop := fun xs s => Z (f xs s) QL E
@[simp ↓] theorem kFL_at {f : List PV → M (List PV)} {QL : KLs} {E : KX} {xs : List PV} {s : Sto} : kFL f QL E xs s = (Z (f xs s) QL E) := propext Iff.rfl
@[simp ↓] theorem Z_iCall {f : List PV → M (List PV)} {m : ML1} : Z (iCall f m ρ st) QL E = Z (m ρ st) (kFL f QL E) E := by
  unfold iCall; rw [Z_bind]; rfl
noncomputable def kS3 (f : PV → Option Int → Option Int → M PV) (x : PV) (l : Option Int) (QP : KP) (E : KX) : Option Int → Sto → Prop := fun h s => Z (f x l h s) QP E
@[simp ↓] theorem kS3_at {f : PV → Option Int → Option Int → M PV} {x : PV} {l : Option Int} {QP : KP} {E : KX} {h : Option Int} {s : Sto} : kS3 f x l QP E h s = (Z (f x l h s) QP E) := propext Iff.rfl
noncomputable def kS2 (f : PV → Option Int → Option Int → M PV) (mh : Rho → M (Option Int)) (ρ : Rho) (x : PV) (QP : KP) (E : KX) : Option Int → Sto → Prop := fun l s => Z (mh ρ s) (kS3 f x l QP E) E
@[simp ↓] theorem kS2_at {f : PV → Option Int → Option Int → M PV} {mh : Rho → M (Option Int)} {ρ : Rho} {x : PV} {QP : KP} {E : KX} {l : Option Int} {s : Sto} : kS2 f mh ρ x QP E l s = (Z (mh ρ s) (kS3 f x l QP E) E) := propext Iff.rfl
noncomputable def kS1 (f : PV → Option Int → Option Int → M PV) (ml : Rho → M (Option Int)) (mh : Rho → M (Option Int)) (ρ : Rho) (QP : KP) (E : KX) : PV → Sto → Prop := fun x s => Z (ml ρ s) (kS2 f mh ρ x QP E) E
@[simp ↓] theorem kS1_at {f : PV → Option Int → Option Int → M PV} {ml : Rho → M (Option Int)} {mh : Rho → M (Option Int)} {ρ : Rho} {QP : KP} {E : KX} {x : PV} {s : Sto} : kS1 f ml mh ρ QP E x s = (Z (ml ρ s) (kS2 f mh ρ x QP E) E) := propext Iff.rfl
@[simp ↓] theorem Z_eSl {f : PV → Option Int → Option Int → M PV} {me : ME1} {ml mh : Rho → M (Option Int)} : Z (eSl f me ml mh ρ st) QP E = Z (me ρ st) (kS1 f ml mh ρ QP E) E := by
  unfold eSl; rw [Z_bind]; simp only [Z_bind]; rfl
noncomputable def kO2 (QO : KO) : Int → Sto → Prop := fun i s => QO (some i) s
@[simp ↓] theorem kO2_at {QO : KO} {i : Int} {s : Sto} : kO2 QO i s = (QO (some i) s) := propext Iff.rfl
noncomputable def kO1 (QO : KO) (E : KX) : PV → Sto → Prop := fun x s => Z (asI x s) (kO2 QO) E
@[simp ↓] theorem kO1_at {QO : KO} {E : KX} {x : PV} {s : Sto} : kO1 QO E x s = (Z (asI x s) (kO2 QO) E) := propext Iff.rfl
@[simp ↓] theorem Z_oSome {m : ME1} : Z (oSome m ρ st) QO E = Z (m ρ st) (kO1 QO E) E := by
  unfold oSome; rw [Z_bind]; simp only [Z_bind]; rfl
noncomputable def kP3 (k : PV) (v : PV) (QD : KD) : List (PV × PV) → Sto → Prop := fun ps s => QD ((k, v) :: ps) s
@[simp ↓] theorem kP3_at {k : PV} {v : PV} {QD : KD} {ps : List (PV × PV)} {s : Sto} : kP3 k v QD ps s = (QD ((k, v) :: ps) s) := propext Iff.rfl
noncomputable def kP2 (ms : List (ME1 × ME1)) (ρ : Rho) (k : PV) (QD : KD) (E : KX) : PV → Sto → Prop := fun v s => Z (pairsM ms ρ s) (kP3 k v QD) E
@[simp ↓] theorem kP2_at {ms : List (ME1 × ME1)} {ρ : Rho} {k : PV} {QD : KD} {E : KX} {v : PV} {s : Sto} : kP2 ms ρ k QD E v s = (Z (pairsM ms ρ s) (kP3 k v QD) E) := propext Iff.rfl
noncomputable def kP1 (mv : ME1) (ms : List (ME1 × ME1)) (ρ : Rho) (QD : KD) (E : KX) : PV → Sto → Prop := fun k s => Z (mv ρ s) (kP2 ms ρ k QD E) E
@[simp ↓] theorem kP1_at {mv : ME1} {ms : List (ME1 × ME1)} {ρ : Rho} {QD : KD} {E : KX} {k : PV} {s : Sto} : kP1 mv ms ρ QD E k s = (Z (mv ρ s) (kP2 ms ρ k QD E) E) := propext Iff.rfl
@[simp ↓] theorem Z_pairsN : Z (pairsM [] ρ st) QD E = QD [] st := propext Iff.rfl
@[simp ↓] theorem Z_pairsC {mk mv : ME1} {ms : List (ME1 × ME1)} : Z (pairsM ((mk, mv) :: ms) ρ st) QD E = Z (mk ρ st) (kP1 mv ms ρ QD E) E := by
  rw [pairsM, Z_bind]; simp only [Z_bind]; rfl
noncomputable def kD (QP : KP) : List (PV × PV) → Sto → Prop := fun ps s => if keysOk ps = true ∧ ps.length ≤ 15 then QP (.loc s.length) (s ++ [.dct (mergeP [] ps)]) else False
@[simp ↓] theorem kD_at {QP : KP} {ps : List (PV × PV)} {s : Sto} : kD QP ps s = (if keysOk ps = true ∧ ps.length ≤ 15 then QP (.loc s.length) (s ++ [.dct (mergeP [] ps)]) else False) := propext Iff.rfl
@[simp ↓] theorem Z_eDct {ms : List (ME1 × ME1)} : Z (eDct ms ρ st) QP E = Z (pairsM ms ρ st) (kD QP) E := by
  unfold eDct M.bind
  cases pairsM ms ρ st with
  | ok ps s => exact Z_iteR
  | err x s => rfl
  | bad => rfl
@[simp ↓] theorem Z_eDct0 : Z (eDct0 ρ st) QP E = QP (.loc st.length) (st ++ [.dct []]) := propext Iff.rfl
noncomputable def kLE (k : List PV → M PV) (QP : KP) (E : KX) : List PV → Sto → Prop := fun acc s => Z (k acc s) QP E
@[simp ↓] theorem kLE_at {k : List PV → M PV} {QP : KP} {E : KX} {acc : List PV} {s : Sto} : kLE k QP E acc s = (Z (k acc s) QP E) := propext Iff.rfl
noncomputable def kLc (k : List PV → M PV) (g : GM) (t : MT1) (e : ME1) (vs : List Nat) (ρ : Rho) (QP : KP) (E : KX) : List PV → Sto → Prop := fun ps s => Z (lcL g t e (wipeP ρ vs) ps [] s) (kLE k QP E) E
@[simp ↓] theorem kLc_at {k : List PV → M PV} {g : GM} {t : MT1} {e : ME1} {vs : List Nat} {ρ : Rho} {QP : KP} {E : KX} {ps : List PV} {s : Sto} : kLc k g t e vs ρ QP E ps s = (Z (lcL g t e (wipeP ρ vs) ps [] s) (kLE k QP E) E) := propext Iff.rfl
@[simp ↓] theorem Z_eLc {k : List PV → M PV} {mi : ML1} {g : GM} {t : MT1} {e : ME1} {vs : List Nat} : Z (eLc k mi g t e vs ρ st) QP E = Z (mi ρ st) (kLc k g t e vs ρ QP E) E := by
  unfold eLc; rw [Z_bind]; simp only [Z_bind]; rfl
@[simp ↓] theorem Z_lcV {acc : List PV} : Z (lcV acc st) QP E = QP (.lst acc) st := propext Iff.rfl
@[simp ↓] theorem Z_lcN {acc : List PV} : Z (lcN acc st) QP E = QP (.loc st.length) (st ++ [.lst acc]) := propext Iff.rfl
@[simp ↓] theorem Z_tYes : Z (tYesM ρ st) QB E = QB true st := propext Iff.rfl
@[simp ↓] theorem wipeP_nil {ρ : Rho} : wipeP ρ [] = ρ := rfl
@[simp ↓] theorem wipeP_cons {ρ : Rho} {v : Nat} {vs : List Nat} : wipeP ρ (v :: vs) = (wipeP ρ vs).set v none := rfl
theorem lc_nil {g : GM} {t : MT1} {e : ME1} {ρ0 : Rho} {acc : List PV} : Z (lcL g t e ρ0 [] acc st) QL E = QL acc st := propext Iff.rfl
theorem lc_cons {g : GM} {t : MT1} {e : ME1} {ρ0 : Rho} {p : PV} {ps acc : List PV} : Z (lcL g t e ρ0 (p :: ps) acc st) QL E = Z (g p ρ0 st) (fun ρ1 s => Z (t ρ1 s) (fun c s => if c = true then Z (e ρ1 s) (fun y s => if acc.length < 16777216 then Z (lcL g t e ρ0 ps (acc ++ [y]) s) QL E else False) E0 else Z (lcL g t e ρ0 ps acc s) QL E) E0) E0 := by
  rw [lcL, Z_bind, Z_calm]
  congr 1; funext ρ1 s
  rw [Z_bind, Z_calm]
  congr 1; funext c s
  cases c with
  | false => rfl
  | true =>
    show Z (M.bind _ _ _) _ _ = Z _ _ _
    rw [Z_bind, Z_calm]
    congr 1; funext y s
    exact Z_ite
end
end MP

set_option maxRecDepth 100000
set_option maxHeartbeats 1000000
namespace MP
open PySem L2
@[simp] theorem atI_0 {α : Type} {x0 : α} {l : List α} : L2.atI (x0 :: l) (0 : Int) = some x0 := by
  unfold L2.atI L2.ixN
  rw [if_pos (by omega), if_pos (by simp only [List.length_cons]; omega)]
  rfl
@[simp] theorem atI_1 {α : Type} {x0 x1 : α} {l : List α} : L2.atI (x0 :: x1 :: l) (1 : Int) = some x1 := by
  unfold L2.atI L2.ixN
  rw [if_pos (by omega), if_pos (by simp only [List.length_cons]; omega)]
  rfl
@[simp] theorem atI_2 {α : Type} {x0 x1 x2 : α} {l : List α} : L2.atI (x0 :: x1 :: x2 :: l) (2 : Int) = some x2 := by
  unfold L2.atI L2.ixN
  rw [if_pos (by omega), if_pos (by simp only [List.length_cons]; omega)]
  rfl
@[simp] theorem atI_3 {α : Type} {x0 x1 x2 x3 : α} {l : List α} : L2.atI (x0 :: x1 :: x2 :: x3 :: l) (3 : Int) = some x3 := by
  unfold L2.atI L2.ixN
  rw [if_pos (by omega), if_pos (by simp only [List.length_cons]; omega)]
  rfl
@[simp] theorem atI_4 {α : Type} {x0 x1 x2 x3 x4 : α} {l : List α} : L2.atI (x0 :: x1 :: x2 :: x3 :: x4 :: l) (4 : Int) = some x4 := by
  unfold L2.atI L2.ixN
  rw [if_pos (by omega), if_pos (by simp only [List.length_cons]; omega)]
  rfl
@[simp] theorem atI_5 {α : Type} {x0 x1 x2 x3 x4 x5 : α} {l : List α} : L2.atI (x0 :: x1 :: x2 :: x3 :: x4 :: x5 :: l) (5 : Int) = some x5 := by
  unfold L2.atI L2.ixN
  rw [if_pos (by omega), if_pos (by simp only [List.length_cons]; omega)]
  rfl
@[simp] theorem atI_6 {α : Type} {x0 x1 x2 x3 x4 x5 x6 : α} {l : List α} : L2.atI (x0 :: x1 :: x2 :: x3 :: x4 :: x5 :: x6 :: l) (6 : Int) = some x6 := by
  unfold L2.atI L2.ixN
  rw [if_pos (by omega), if_pos (by simp only [List.length_cons]; omega)]
  rfl
@[simp] theorem atI_7 {α : Type} {x0 x1 x2 x3 x4 x5 x6 x7 : α} {l : List α} : L2.atI (x0 :: x1 :: x2 :: x3 :: x4 :: x5 :: x6 :: x7 :: l) (7 : Int) = some x7 := by
  unfold L2.atI L2.ixN
  rw [if_pos (by omega), if_pos (by simp only [List.length_cons]; omega)]
  rfl
section
variable {α β : Type} {QL : List PV → Sto → Prop} {st : Sto} {ρ : Rho} {Q : α → Sto → Prop} {E : Exn → Sto → Prop} {QP : PV → Sto → Prop} {QF : Fl → Sto → Prop} {QU : Unit → Sto → Prop} {i j : Int} {a b : List Nat} {xs ys : List PV} {x y : PV} {m : Nat}
noncomputable def runQ (Q : PV → Sto → Prop) (E : Exn → Sto → Prop) : Fl → Sto → Prop
  | .next _, st => Q .non st
  | .ret p, st => Q p st
  | .exc x _, st => E x st
  | _, _ => False
@[simp] theorem runQ_next : runQ QP E (.next ρ) st = QP .non st := propext Iff.rfl
@[simp] theorem runQ_ret : runQ QP E (.ret x) st = QP x st := propext Iff.rfl
@[simp] theorem runQ_exc {x : Exn} : runQ QP E (.exc x ρ) st = E x st := propext Iff.rfl
theorem Z_run {b : Rho → M Fl} {k : Nat} {ps : List PV} {ρ0 : Rho} (h : ps.map some ++ List.replicate (k - ps.length) none = ρ0) : Z (runB b k ps st) QP E = Z (b ρ0 st) (runQ QP E) E0 := by
  unfold runB
  rw [h]
  cases b ρ0 st with
  | ok f s => cases f <;> rfl
  | err x s => rfl
  | bad => rfl
@[simp ↓] theorem Z_addII : Z (addV (.int i) (.int j) st) QP E = QP (.int (i + j)) st := propext Iff.rfl
@[simp ↓] theorem Z_addSS : Z (addV (.str a) (.str b) st) QP E = if a.length + b.length ≤ 16777216 then QP (.str (a ++ b)) st else False := by unfold addV; dsimp only; rw [Z_ite]; rfl
@[simp ↓] theorem Z_addTT : Z (addV (.tup xs) (.tup ys) st) QP E = if xs.length + ys.length ≤ 16777216 then QP (.tup (xs ++ ys)) st else False := by unfold addV; dsimp only; rw [Z_ite]; rfl
@[simp ↓] theorem Z_addLL : Z (addV (.lst xs) (.lst ys) st) QP E = if xs.length + ys.length ≤ 16777216 then QP (.lst (xs ++ ys)) st else False := by unfold addV; dsimp only [listOf]; rw [Z_iteR]; rfl
@[simp ↓] theorem Z_subII : Z (subV (.int i) (.int j) st) QP E = QP (.int (i - j)) st := propext Iff.rfl
@[simp ↓] theorem Z_mulII : Z (mulV (.int i) (.int j) st) QP E = if mulOk i j = true then QP (.int (i * j)) st else False := by unfold mulV; dsimp only; rw [Z_ite]; rfl
@[simp ↓] theorem Z_mulTI : Z (mulV (.tup xs) (.int i) st) QP E = if xs ≠ [] ∧ -1000000 ≤ i ∧ i ≤ 1000 ∧ xs.length ≤ 1000 then QP (.tup (List.replicate i.toNat xs).flatten) st else False := by unfold mulV; dsimp only; rw [Z_ite]; rfl
@[simp ↓] theorem Z_fdivII : Z (fdivV (.int i) (.int j) st) QP E = if (j ≠ 0 ∧ j.natAbs < 1073741824) ∨ (0 < j ∧ j.natAbs.log2 < 9000) then QP (.int (i.fdiv j)) st else False := by unfold fdivV; dsimp only; rw [Z_ite]; rfl
@[simp ↓] theorem Z_modII : Z (modV (.int i) (.int j) st) QP E = if j ≠ 0 then QP (.int (i.fmod j)) st else False := by unfold modV; dsimp only; rw [Z_ite]; rfl
@[simp ↓] theorem Z_powII : Z (powV (.int i) (.int j) st) QP E = if 0 ≤ j ∧ j ≤ 1000000 ∧ i.natAbs < 18446744073709551616 then QP (.int (i ^ j.toNat)) st else False := by unfold powV; dsimp only; rw [Z_ite]; rfl
@[simp ↓] theorem Z_negI : Z (negV (.int i) st) QP E = QP (.int (-i)) st := propext Iff.rfl
@[simp ↓] theorem Z_ltV {p : Int → Int → Bool} : Z (ltV p (.int i) (.int j) st) QP E = QP (.bl (p i j)) st := propext Iff.rfl
theorem ibeq (i j : Int) : (i == j) = decide (i = j) := by rw [Bool.eq_iff_iff]; simp
@[simp ↓] theorem Z_eqII : Z (eqM (.int i) (.int j) st) QP E = QP (.bl (decide (i = j))) st := by
  unfold eqM; rw [if_pos (by rfl)]; show QP (.bl (i == j)) st = _; rw [ibeq]
@[simp ↓] theorem Z_neII : Z (neM (.int i) (.int j) st) QP E = QP (.bl (decide (i ≠ j))) st := by
  unfold neM; rw [if_pos (by rfl)]; show QP (.bl (!(i == j))) st = _; rw [ibeq]; simp
theorem lbeq {α : Type} [DecidableEq α] (a b : List α) : (a == b) = decide (a = b) := by rw [Bool.eq_iff_iff]; simp
@[simp ↓] theorem Z_eqSS : Z (eqM (.str a) (.str b) st) QP E = QP (.bl (decide (a = b))) st := by
  unfold eqM; rw [if_pos (by rfl)]; show QP (.bl (a == b)) st = _; rw [lbeq]
@[simp ↓] theorem Z_neSS : Z (neM (.str a) (.str b) st) QP E = QP (.bl (decide (a ≠ b))) st := by
  unfold neM; rw [if_pos (by rfl)]; show QP (.bl (!(a == b))) st = _; rw [lbeq]; simp
theorem Z_ne (h : cmpOk x y st = true) : Z (neM x y st) QP E = QP (.bl (!eqb (shal x st) (shal y st))) st := by unfold neM; rw [if_pos h]; rfl
@[simp ↓] theorem Z_isN : Z (isN x .non st) QP E = QP (.bl (nonP x)) st := propext Iff.rfl
@[simp ↓] theorem Z_notN : Z (notN x .non st) QP E = QP (.bl (!nonP x)) st := propext Iff.rfl
@[simp ↓] theorem Z_optS {v : α} : Z (optM (some v) st) Q E = Q v st := propext Iff.rfl
@[simp ↓] theorem Z_optN : Z (optM (none : Option α) st) Q E = False := propext Iff.rfl
@[simp ↓] theorem Z_ixT : Z (ixM (.tup xs) (.int i) st) QP E = Z (optM (L2.atI xs i) st) QP E := propext Iff.rfl
@[simp ↓] theorem Z_ixL : Z (ixM (.lst xs) (.int i) st) QP E = Z (optM (L2.atI xs i) st) QP E := propext Iff.rfl
@[simp ↓] theorem Z_ixZ : Z (ixM (.frz xs) (.int i) st) QP E = Z (optM (L2.atI xs i) st) QP E := propext Iff.rfl
noncomputable def kIS (QP : KP) : Nat → Sto → Prop := fun c s => QP (.str [c]) s
@[simp ↓] theorem kIS_at {c : Nat} : kIS QP c st = QP (.str [c]) st := propext Iff.rfl
@[simp ↓] theorem Z_ixS : Z (ixM (.str a) (.int i) st) QP E = if a.length ≤ 16777216 then Z (optM (L2.atI a i) st) (kIS QP) E else False := by
  show Z (if a.length ≤ 16777216 then (match L2.atI a i with | some c => .ok (.str [c]) st | none => .bad) else .bad) QP E = _
  rw [Z_iteR]
  cases L2.atI a i <;> rfl
@[simp ↓] theorem Z_ixC (h : st[m]? = some (.lst xs)) : Z (ixM (.loc m) (.int i) st) QP E = Z (optM (L2.atI xs i) st) QP E := by
  unfold ixM seqOf; dsimp only; rw [h]
theorem Z_ixD {kvs : List (PV × PV)} (h : st[m]? = some (.dct kvs)) (hk : (keyOf y).isSome = true) : Z (ixM (.loc m) y st) QP E = Z (optM (lookP kvs y) st) QP E := by
  unfold ixM seqOf dctOf; dsimp only; rw [h]; dsimp only; rw [if_pos hk]
@[simp ↓] theorem Z_ixDs {kvs : List (PV × PV)} (h : st[m]? = some (.dct kvs)) : Z (ixM (.loc m) (.str a) st) QP E = Z (optM (lookP kvs (.str a)) st) QP E := Z_ixD h rfl
@[simp ↓] theorem Z_ixDi {kvs : List (PV × PV)} (h : st[m]? = some (.dct kvs)) : Z (ixM (.loc m) (.int i) st) QP E = Z (optM (lookP kvs (.int i)) st) QP E := Z_ixD h rfl
@[simp] theorem keyOf_int : keyOf (.int i) = some (.inl i) := rfl
@[simp] theorem keyOf_str : keyOf (.str a) = some (.inr ⟨a.toArray⟩) := rfl
@[simp ↓] theorem Z_lenT : Z (lenM [.tup xs] st) QP E = QP (.int xs.length) st := propext Iff.rfl
@[simp ↓] theorem Z_lenL : Z (lenM [.lst xs] st) QP E = QP (.int xs.length) st := propext Iff.rfl
@[simp ↓] theorem Z_lenZ : Z (lenM [.frz xs] st) QP E = QP (.int xs.length) st := propext Iff.rfl
@[simp ↓] theorem Z_lenS : Z (lenM [.str a] st) QP E = if a.length ≤ 16777216 then QP (.int a.length) st else False := by
  show Z (if a.length ≤ 16777216 then .ok (.int a.length) st else .bad) QP E = _; rw [Z_iteR]; rfl
@[simp ↓] theorem Z_lenC (h : st[m]? = some (.lst xs)) : Z (lenM [.loc m] st) QP E = QP (.int xs.length) st := by
  unfold lenM seqOf; dsimp only; rw [h]; rfl
@[simp ↓] theorem Z_mkTup : Z (mkTup xs st) QP E = if xs.length ≤ 16777216 then QP (.tup xs) st else False := by unfold mkTup; rw [Z_ite]; rfl
@[simp ↓] theorem Z_mkLst : Z (mkLst xs st) QP E = if xs.length ≤ 16777216 then QP (.lst xs) st else False := by unfold mkLst; rw [Z_ite]; rfl
@[simp ↓] theorem Z_mkLstN : Z (mkLstN xs st) QP E = if xs.length ≤ 16777216 then QP (.loc st.length) (st ++ [.lst xs]) else False := by unfold mkLstN; rw [Z_iteR]; rfl
@[simp ↓] theorem Z_listN (h : seqOf x st = some xs) : Z (listN [x] st) QP E = QP (.loc st.length) (st ++ [.lst xs]) := by unfold listN; dsimp only; rw [h]; rfl
@[simp ↓] theorem Z_listM (h : seqOf x st = some xs) : Z (listM [x] st) QP E = QP (.lst xs) st := by unfold listM; dsimp only; rw [h]; rfl
@[simp ↓] theorem Z_tupleM (h : seqOf x st = some xs) : Z (tupleM [x] st) QP E = QP (.tup xs) st := by unfold tupleM; dsimp only; rw [h]; rfl
@[simp] theorem seqOf_tup : seqOf (.tup xs) st = some xs := rfl
@[simp] theorem seqOf_lst : seqOf (.lst xs) st = some xs := rfl
@[simp] theorem seqOf_frz : seqOf (.frz xs) st = some xs := rfl
@[simp] theorem seqOf_loc (h : st[m]? = some (.lst xs)) : seqOf (.loc m) st = some xs := by unfold seqOf; dsimp only; rw [h]
@[simp ↓] theorem Z_setL {v : PV} {k : Nat} (h : st[m]? = some (.lst xs)) (hi : ixN xs.length i = some k) : Z (setM (.loc m) (.int i) v st) QU E = QU () (st.set m (.lst (xs.set k v))) := by
  unfold setM; dsimp only; rw [h]; dsimp only; rw [hi]; rfl
theorem Z_setD {v : PV} {kvs : List (PV × PV)} (h : st[m]? = some (.dct kvs)) (hk : (keyOf y).isSome = true) (hl : kvs.length < 16777216) : Z (setM (.loc m) y v st) QU E = QU () (st.set m (.dct (putP kvs y v))) := by
  unfold setM; dsimp only; rw [h]; dsimp only; rw [if_pos ⟨hk, hl⟩]; rfl
@[simp ↓] theorem Z_setDs {v : PV} {kvs : List (PV × PV)} (h : st[m]? = some (.dct kvs)) (hl : kvs.length < 16777216) : Z (setM (.loc m) (.str a) v st) QU E = QU () (st.set m (.dct (putP kvs (.str a) v))) := Z_setD h rfl hl
@[simp ↓] theorem Z_setDi {v : PV} {kvs : List (PV × PV)} (h : st[m]? = some (.dct kvs)) (hl : kvs.length < 16777216) : Z (setM (.loc m) (.int i) v st) QU E = QU () (st.set m (.dct (putP kvs (.int i) v))) := Z_setD h rfl hl
@[simp ↓] theorem Z_slS {lo hi : Option Int} : Z (slM (.str a) lo hi st) QP E = if a.length ≤ 16777216 then QP (.str (cutL a lo hi)) st else False := by unfold slM; dsimp only; rw [Z_ite]; rfl
@[simp ↓] theorem Z_slT {lo hi : Option Int} : Z (slM (.tup xs) lo hi st) QP E = QP (.tup (cutL xs lo hi)) st := propext Iff.rfl
@[simp ↓] theorem Z_slL {lo hi : Option Int} : Z (slM (.lst xs) lo hi st) QP E = QP (.lst (cutL xs lo hi)) st := propext Iff.rfl
theorem Z_isi {T t : String} (h : isiOk T = true) (ht : tyP x st = some t) : Z (isiM [x, .ty T] st) QP E = QP (.bl (isiT t T)) st := by unfold isiM; dsimp only; rw [if_pos h, ht]; rfl
@[simp ↓] theorem Z_isi_non_int : Z (isiM [.non, .ty "int"] st) QP E = QP (.bl false) st := Z_isi (t := "NoneType") (by decide) rfl
@[simp ↓] theorem Z_isi_bl_int {k : Bool} : Z (isiM [.bl k, .ty "int"] st) QP E = QP (.bl true) st := Z_isi (t := "bool") (by decide) rfl
@[simp ↓] theorem Z_isi_int_int : Z (isiM [.int i, .ty "int"] st) QP E = QP (.bl true) st := Z_isi (t := "int") (by decide) rfl
@[simp ↓] theorem Z_isi_str_int : Z (isiM [.str a, .ty "int"] st) QP E = QP (.bl false) st := Z_isi (t := "str") (by decide) rfl
@[simp ↓] theorem Z_isi_tup_int : Z (isiM [.tup xs, .ty "int"] st) QP E = QP (.bl false) st := Z_isi (t := "tuple") (by decide) rfl
@[simp ↓] theorem Z_isi_lst_int : Z (isiM [.lst xs, .ty "int"] st) QP E = QP (.bl false) st := Z_isi (t := "list") (by decide) rfl
@[simp ↓] theorem Z_isi_non_bool : Z (isiM [.non, .ty "bool"] st) QP E = QP (.bl false) st := Z_isi (t := "NoneType") (by decide) rfl
@[simp ↓] theorem Z_isi_bl_bool {k : Bool} : Z (isiM [.bl k, .ty "bool"] st) QP E = QP (.bl true) st := Z_isi (t := "bool") (by decide) rfl
@[simp ↓] theorem Z_isi_int_bool : Z (isiM [.int i, .ty "bool"] st) QP E = QP (.bl false) st := Z_isi (t := "int") (by decide) rfl
@[simp ↓] theorem Z_isi_str_bool : Z (isiM [.str a, .ty "bool"] st) QP E = QP (.bl false) st := Z_isi (t := "str") (by decide) rfl
@[simp ↓] theorem Z_isi_tup_bool : Z (isiM [.tup xs, .ty "bool"] st) QP E = QP (.bl false) st := Z_isi (t := "tuple") (by decide) rfl
@[simp ↓] theorem Z_isi_lst_bool : Z (isiM [.lst xs, .ty "bool"] st) QP E = QP (.bl false) st := Z_isi (t := "list") (by decide) rfl
@[simp ↓] theorem Z_isi_non_str : Z (isiM [.non, .ty "str"] st) QP E = QP (.bl false) st := Z_isi (t := "NoneType") (by decide) rfl
@[simp ↓] theorem Z_isi_bl_str {k : Bool} : Z (isiM [.bl k, .ty "str"] st) QP E = QP (.bl false) st := Z_isi (t := "bool") (by decide) rfl
@[simp ↓] theorem Z_isi_int_str : Z (isiM [.int i, .ty "str"] st) QP E = QP (.bl false) st := Z_isi (t := "int") (by decide) rfl
@[simp ↓] theorem Z_isi_str_str : Z (isiM [.str a, .ty "str"] st) QP E = QP (.bl true) st := Z_isi (t := "str") (by decide) rfl
@[simp ↓] theorem Z_isi_tup_str : Z (isiM [.tup xs, .ty "str"] st) QP E = QP (.bl false) st := Z_isi (t := "tuple") (by decide) rfl
@[simp ↓] theorem Z_isi_lst_str : Z (isiM [.lst xs, .ty "str"] st) QP E = QP (.bl false) st := Z_isi (t := "list") (by decide) rfl
@[simp ↓] theorem Z_isi_non_tuple : Z (isiM [.non, .ty "tuple"] st) QP E = QP (.bl false) st := Z_isi (t := "NoneType") (by decide) rfl
@[simp ↓] theorem Z_isi_bl_tuple {k : Bool} : Z (isiM [.bl k, .ty "tuple"] st) QP E = QP (.bl false) st := Z_isi (t := "bool") (by decide) rfl
@[simp ↓] theorem Z_isi_int_tuple : Z (isiM [.int i, .ty "tuple"] st) QP E = QP (.bl false) st := Z_isi (t := "int") (by decide) rfl
@[simp ↓] theorem Z_isi_str_tuple : Z (isiM [.str a, .ty "tuple"] st) QP E = QP (.bl false) st := Z_isi (t := "str") (by decide) rfl
@[simp ↓] theorem Z_isi_tup_tuple : Z (isiM [.tup xs, .ty "tuple"] st) QP E = QP (.bl true) st := Z_isi (t := "tuple") (by decide) rfl
@[simp ↓] theorem Z_isi_lst_tuple : Z (isiM [.lst xs, .ty "tuple"] st) QP E = QP (.bl false) st := Z_isi (t := "list") (by decide) rfl
@[simp ↓] theorem Z_isi_non_list : Z (isiM [.non, .ty "list"] st) QP E = QP (.bl false) st := Z_isi (t := "NoneType") (by decide) rfl
@[simp ↓] theorem Z_isi_bl_list {k : Bool} : Z (isiM [.bl k, .ty "list"] st) QP E = QP (.bl false) st := Z_isi (t := "bool") (by decide) rfl
@[simp ↓] theorem Z_isi_int_list : Z (isiM [.int i, .ty "list"] st) QP E = QP (.bl false) st := Z_isi (t := "int") (by decide) rfl
@[simp ↓] theorem Z_isi_str_list : Z (isiM [.str a, .ty "list"] st) QP E = QP (.bl false) st := Z_isi (t := "str") (by decide) rfl
@[simp ↓] theorem Z_isi_tup_list : Z (isiM [.tup xs, .ty "list"] st) QP E = QP (.bl false) st := Z_isi (t := "tuple") (by decide) rfl
@[simp ↓] theorem Z_isi_lst_list : Z (isiM [.lst xs, .ty "list"] st) QP E = QP (.bl true) st := Z_isi (t := "list") (by decide) rfl
@[simp ↓] theorem Z_isi_non_dict : Z (isiM [.non, .ty "dict"] st) QP E = QP (.bl false) st := Z_isi (t := "NoneType") (by decide) rfl
@[simp ↓] theorem Z_isi_bl_dict {k : Bool} : Z (isiM [.bl k, .ty "dict"] st) QP E = QP (.bl false) st := Z_isi (t := "bool") (by decide) rfl
@[simp ↓] theorem Z_isi_int_dict : Z (isiM [.int i, .ty "dict"] st) QP E = QP (.bl false) st := Z_isi (t := "int") (by decide) rfl
@[simp ↓] theorem Z_isi_str_dict : Z (isiM [.str a, .ty "dict"] st) QP E = QP (.bl false) st := Z_isi (t := "str") (by decide) rfl
@[simp ↓] theorem Z_isi_tup_dict : Z (isiM [.tup xs, .ty "dict"] st) QP E = QP (.bl false) st := Z_isi (t := "tuple") (by decide) rfl
@[simp ↓] theorem Z_isi_lst_dict : Z (isiM [.lst xs, .ty "dict"] st) QP E = QP (.bl false) st := Z_isi (t := "list") (by decide) rfl
@[simp] theorem tyP_non : tyP .non st = some "NoneType" := rfl
@[simp] theorem tyP_bl {b : Bool} : tyP (.bl b) st = some "bool" := rfl
@[simp] theorem tyP_int : tyP (.int i) st = some "int" := rfl
@[simp] theorem tyP_str : tyP (.str a) st = some "str" := rfl
@[simp] theorem tyP_tup : tyP (.tup xs) st = some "tuple" := rfl
@[simp] theorem tyP_lst : tyP (.lst xs) st = some "list" := rfl
@[simp] theorem rangeOk_iff : rangeOk i ↔ -4611686018427387904 ≤ i ∧ i < 4611686018427387904 := Iff.rfl
@[simp ↓] theorem Z_range1 (h : rangeOk i) : Z (range1 [.int i] st) QL E = QL ((List.range i.toNat).map fun (k : Nat) => .int ((0 : Int) + (k : Int))) st := by unfold range1; dsimp only; rw [if_pos h]; rfl
@[simp ↓] theorem Z_rangeN {l : Nat} (h : l ≤ 16777216) : Z (range1 [.int (l : Int)] st) QL E = QL ((List.range l).map fun (k : Nat) => .int (k : Int)) st := by
  rw [Z_range1 ⟨by omega, by omega⟩, Int.toNat_natCast]
  simp only [Int.zero_add]
@[simp ↓] theorem Z_range2 (h : rangeOk i) (h' : rangeOk j) : Z (range2 [.int i, .int j] st) QL E = QL ((List.range (j - i).toNat).map fun (k : Nat) => .int (i + (k : Int))) st := by unfold range2; dsimp only; rw [if_pos ⟨h, h'⟩]; rfl
@[simp ↓] theorem Z_itT : Z (itemsM (.tup xs) st) QL E = QL xs st := propext Iff.rfl
@[simp ↓] theorem Z_itL : Z (itemsM (.lst xs) st) QL E = QL xs st := propext Iff.rfl
@[simp ↓] theorem Z_itF : Z (itemsM (.frz xs) st) QL E = QL xs st := propext Iff.rfl
@[simp ↓] theorem Z_itS : Z (itemsM (.str a) st) QL E = QL (a.map fun c => .str [c]) st := propext Iff.rfl
@[simp ↓] theorem Z_getTab {tab : List (List Nat × PV)} : Z (getTab tab (.str a) st) QP E = QP ((lookT tab a).getD .non) st := propext Iff.rfl
@[simp ↓] theorem Z_min : Z (minM [.int i, .int j] st) QP E = QP (.int (if j < i then j else i)) st := propext Iff.rfl
@[simp ↓] theorem Z_max : Z (maxM [.int i, .int j] st) QP E = QP (.int (if j > i then j else i)) st := propext Iff.rfl
@[simp ↓] theorem Z_intI : Z (intM [.int i] st) QP E = QP (.int i) st := propext Iff.rfl
@[simp ↓] theorem Z_intB {k : Bool} : Z (intM [.bl k] st) QP E = QP (.int (if k then 1 else 0)) st := propext Iff.rfl
@[simp ↓] theorem Z_enumL : Z (enumM [.lst xs] st) QL E = QL (xs.mapIdx fun i p => .tup [.int (i : Nat), p]) st := propext Iff.rfl
@[simp ↓] theorem Z_inS {n : Bool} {c : Nat} : Z (inM n (.str [c]) (.str a) st) QP E = QP (.bl (ng n (decide (c ∈ a)))) st := propext Iff.rfl
@[simp] theorem ng_t {b : Bool} : ng true b = !b := rfl
@[simp] theorem ng_f {b : Bool} : ng false b = b := rfl
@[simp ↓] theorem Z_tyS : Z (tyC "str" (.str a) st) QU E = QU () st := propext Iff.rfl
@[simp ↓] theorem Z_tyL (h : st[m]? = some (.lst xs)) : Z (tyC "list" (.loc m) st) QU E = QU () st := by
  unfold tyC listOf; dsimp only; rw [h]; rfl
@[simp ↓] theorem Z_append (h : st[m]? = some (.lst xs)) (hl : xs.length < 16777216) : Z (appendM (.loc m) [x] st) QP E = QP .non (st.set m (.lst (xs ++ [x]))) := by
  unfold appendM lstCell; dsimp only; rw [h]; dsimp only; rw [if_pos hl]; rfl
theorem cut_from {α : Type} {l : List α} {p : Int} (h0 : 0 ≤ p) (h1 : p ≤ l.length) : cutL l (some p) none = l.drop p.toNat := by
  have hp : ¬ p < 0 := by omega
  have hm : min p.toNat l.length = p.toNat := by omega
  show (l.drop (if p < 0 then (p + (l.length : Int)).toNat else min p.toNat l.length)).take (l.length - (if p < 0 then (p + (l.length : Int)).toNat else min p.toNat l.length)) = _
  rw [if_neg hp, hm]
  exact List.take_of_length_le (by rw [List.length_drop]; omega)
end
theorem getN {st : Sto} {m : Nat} {c : Cell} (h : st[m]? = some c) : m < st.length := by
  rcases Nat.lt_or_ge m st.length with h' | h'
  · exact h'
  · rw [List.getElem?_eq_none h'] at h; cases h
structure Box (st : Sto) (b c : Nat) (k : Int) : Prop where
  dct : ∃ d, st[b]? = some (.dct [(.str [99, 101, 108, 108, 115], .loc c), (.str [99, 111, 117, 110, 116], .int k), (.str [100, 105, 103, 105, 116, 115], .bl d)])
  cel : ∃ ns : List Int, ns ≠ [] ∧ st[c]? = some (.lst (ns.map .int))
theorem Box.app {st : Sto} {b c : Nat} {k : Int} (B : Box st b c k) (ys : Sto) : Box (st ++ ys) b c k := by
  obtain ⟨⟨d, hd⟩, ns, hn, hc⟩ := B
  exact ⟨⟨d, by rw [List.getElem?_append_left (getN hd), hd]⟩, ns, hn, by rw [List.getElem?_append_left (getN hc), hc]⟩
theorem Box.setN {st : Sto} {b c m : Nat} {k : Int} {x : Cell} (B : Box st b c k) (h : m ≠ b) (h' : m ≠ c) : Box (st.set m x) b c k := by
  obtain ⟨⟨d, hd⟩, ns, hn, hc⟩ := B
  exact ⟨⟨d, by rw [List.getElem?_set_ne h, hd]⟩, ns, hn, by rw [List.getElem?_set_ne h', hc]⟩
theorem Box.bl {st : Sto} {b c : Nat} {k : Int} (B : Box st b c k) : b < st.length := let ⟨_, h⟩ := B.dct; getN h
theorem Box.cl {st : Sto} {b c : Nat} {k : Int} (B : Box st b c k) : c < st.length := let ⟨_, _, h⟩ := B.cel; getN h
theorem atI_of {α : Type} {xs : List α} {i : Int} (h0 : 0 ≤ i) (h1 : i < xs.length) : L2.atI xs i = some (xs[i.toNat]'(by omega)) := by
  unfold L2.atI L2.ixN
  rw [if_pos h0, if_pos h1]
  simp [List.getElem?_eq_getElem (show i.toNat < xs.length by omega)]
end MP

set_option maxRecDepth 100000
set_option maxHeartbeats 1000000
namespace MP
open PySem L2
mutual
noncomputable def plP : PV → Bool
  | .non => true
  | .int _ => true
  | .str x => x.all fun c => decide (c < 1114112)
  | .tup xs => plPs xs
  | .lst xs => plPs xs
  | _ => false
noncomputable def plPs : List PV → Bool
  | [] => true
  | x :: xs => plP x && plPs xs
end
theorem plPs_iff {xs : List PV} : plPs xs = true ↔ ∀ x ∈ xs, plP x = true := by
  induction xs with
  | nil => simp [plPs]
  | cons x xs ih => simp [plPs, ih]
mutual
theorem eqb_pl : ∀ (x y : PV), plP x = true → plP y = true → eqb x y = decide (x = y)
  | .non, y, h, h' => by cases y <;> simp [eqb]
  | .int i, y, h, h' => by
    cases y <;> simp [plP] at h' <;> simp [eqb]
    rw [ibeq]
  | .str a, y, h, h' => by
    cases y <;> simp [plP] at h' <;> simp [eqb]
    rw [lbeq]
  | .tup xs, y, h, h' => by
    cases y <;> simp [plP] at h' <;> simp [eqb]
    exact eqbs_pl xs _ (by simpa [plP] using h) h'
  | .lst xs, y, h, h' => by
    cases y <;> simp [plP] at h' <;> simp [eqb]
    exact eqbs_pl xs _ (by simpa [plP] using h) h'
  | .bl _, _, h, _ => by simp [plP] at h
  | .ty _, _, h, _ => by simp [plP] at h
  | .gl _, _, h, _ => by simp [plP] at h
  | .frz _, _, h, _ => by simp [plP] at h
  | .loc _, _, h, _ => by simp [plP] at h
theorem eqbs_pl : ∀ (x y : List PV), plPs x = true → plPs y = true → eqbs x y = decide (x = y)
  | [], y, h, h' => by cases y <;> simp [eqbs]
  | a :: x, [], h, h' => by simp [eqbs]
  | a :: x, b :: y, h, h' => by
    simp [plPs] at h h'
    rw [eqbs, eqb_pl a b h.1 h'.1, eqbs_pl x y h.2 h'.2]
    simp
end
mutual
theorem lay_pl : ∀ (x : PV), plP x = true → layP x = true
  | .non, h => by simp [layP]
  | .int i, h => by simp [layP]
  | .str a, h => by simpa [layP, plP] using h
  | .tup xs, h => by simp [layP]; exact lays_pl xs (by simpa [plP] using h)
  | .lst xs, h => by simp [layP]; exact lays_pl xs (by simpa [plP] using h)
  | .bl _, h => by simp [plP] at h
  | .ty _, h => by simp [plP] at h
  | .gl _, h => by simp [plP] at h
  | .frz _, h => by simp [plP] at h
  | .loc _, h => by simp [plP] at h
theorem lays_pl : ∀ (x : List PV), plPs x = true → layPs x = true
  | [], h => by simp [layPs]
  | a :: x, h => by
    simp [plPs] at h
    simp [layPs, lay_pl a h.1, lays_pl x h.2]
end
theorem shal_pl {x : PV} {st : Sto} (h : plP x = true) : shal x st = x := by
  cases x <;> simp [plP] at h <;> simp [shal]
noncomputable def okP (x : PV) : Bool := plP x && decide (depP x ≤ 64)
theorem cmp_ok {x y : PV} {st : Sto} (hx : okP x = true) (hy : okP y = true) : cmpOk x y st = true := by
  simp [okP] at hx hy
  simp [cmpOk, shal_pl hx.1, shal_pl hy.1, lay_pl _ hx.1, lay_pl _ hy.1, hx.2, hy.2]
theorem Z_neP {x y : PV} {st : Sto} {Q : PV → Sto → Prop} {E : Exn → Sto → Prop} (hx : okP x = true) (hy : okP y = true) : Z (neM x y st) Q E = Q (.bl (!decide (x = y))) st := by
  rw [Z_ne (cmp_ok hx hy)]
  simp [okP] at hx hy
  rw [shal_pl hx.1, shal_pl hy.1, eqb_pl _ _ hx.1 hy.1]
noncomputable def Sg (z : List Nat) (m : Nat) : Prop := z.length ≤ m ∧ ∀ c ∈ z, c < 1114112
theorem Sg.app {a b : List Nat} {m k : Nat} (h : Sg a m) (h' : Sg b k) : Sg (a ++ b) (m + k) := ⟨by have := h.1; have := h'.1; simp; omega, fun c hc => by
  rcases List.mem_append.mp hc with hc | hc
  · exact h.2 c hc
  · exact h'.2 c hc⟩
theorem Sg.mono {a : List Nat} {m k : Nat} (h : Sg a m) (hk : m ≤ k) : Sg a k := ⟨Nat.le_trans h.1 hk, h.2⟩
theorem Sg.cut {a : List Nat} {m : Nat} {x y : Option Int} (h : Sg a m) : Sg (cutL a x y) m := by
  unfold cutL
  exact ⟨Nat.le_trans (by simp; omega) h.1, fun c hc => h.2 c (List.mem_of_mem_drop (List.mem_of_mem_take hc))⟩
@[simp ↓] theorem Z_slF {xs : List PV} {lo hi : Option Int} {st : Sto} {Q : PV → Sto → Prop} {E : Exn → Sto → Prop} : Z (slM (.frz xs) lo hi st) Q E = Q (.lst (cutL xs lo hi)) st := propext Iff.rfl
section
variable {st : Sto} {Q : PV → Sto → Prop} {E : Exn → Sto → Prop} {QL : List PV → Sto → Prop} {i : Int} {a b : List Nat} {xs ys : List PV} {x : PV} {n : Bool} {tab : List (List Nat × PV)}
@[simp ↓] theorem Z_strS : Z (strM [.str a] st) Q E = Q (.str a) st := propext Iff.rfl
@[simp ↓] theorem Z_inTab : Z (inTab n tab (.str a) st) Q E = Q (.bl (ng n (lookT tab a).isSome)) st := propext Iff.rfl
@[simp ↓] theorem Z_zipT : Z (zipM [.tup xs, .tup ys] st) QL E = QL (zipP xs ys) st := propext Iff.rfl
@[simp ↓] theorem Z_zipL : Z (zipM [.lst xs, .lst ys] st) QL E = QL (zipP xs ys) st := propext Iff.rfl
end
noncomputable def kForC (f : List PV → List PV) (g : GM) (b : MS1) (ρ : Rho) (QF : KF) (E : KX) : Nat × List PV → Sto → Prop := fun nx s => Z (forG (gd nx.1 nx.2) g b (f nx.2) ρ s) QF E
@[simp ↓] theorem kForC_at {f : List PV → List PV} {g : GM} {b : MS1} {ρ : Rho} {QF : KF} {E : KX} {n : Nat} {xs : List PV} {s : Sto} : kForC f g b ρ QF E (n, xs) s = Z (forG (gd n xs) g b (f xs) ρ s) QF E := propext Iff.rfl
@[simp ↓] theorem Z_sForC {f : List PV → List PV} {mi : Rho → M (Nat × List PV)} {g : GM} {b : MS1} {ρ : Rho} {st : Sto} {QF : KF} {E : KX} : Z (sForC f mi g b ρ st) QF E = Z (mi ρ st) (kForC f g b ρ QF E) (kX ρ QF) := by
  unfold sForC; rw [Z_onErr]; rfl
noncomputable def kCell (Q : Nat × List PV → Sto → Prop) : PV → Sto → Prop := fun v s => Z (atCell v s) Q E0
@[simp ↓] theorem Z_iCell {m : ME1} {ρ : Rho} {st : Sto} {Q : Nat × List PV → Sto → Prop} {E : KX} : Z (iCell m ρ st) Q E = Z (m ρ st) (kCell Q) E := by
  unfold iCell; rw [Z_bind]
  congr 1; funext v s
  unfold kCell atCell
  cases v with
  | loc n => dsimp only; cases s[n]? with
    | none => rfl
    | some c => cases c <;> rfl
  | _ => rfl
theorem gd_of {n : Nat} {xs : List PV} {st : Sto} (h : st[n]? = some (.lst xs)) : gd n xs st = true := by unfold gd; rw [h]; simp
noncomputable def kLcC (f : List PV → List PV) (k : List PV → M PV) (g : GM) (t : MT1) (e : ME1) (vs : List Nat) (ρ : Rho) (QP : KP) (E : KX) : Nat × List PV → Sto → Prop := fun nx s => Z (lcG (gd nx.1 nx.2) g t e (wipeP ρ vs) (f nx.2) [] s) (kLE k QP E) E
@[simp ↓] theorem kLcC_at {f : List PV → List PV} {k : List PV → M PV} {g : GM} {t : MT1} {e : ME1} {vs : List Nat} {ρ : Rho} {QP : KP} {E : KX} {n : Nat} {xs : List PV} {s : Sto} : kLcC f k g t e vs ρ QP E (n, xs) s = Z (lcG (gd n xs) g t e (wipeP ρ vs) (f xs) [] s) (kLE k QP E) E := propext Iff.rfl
@[simp ↓] theorem Z_eLcC {f : List PV → List PV} {k : List PV → M PV} {mi : Rho → M (Nat × List PV)} {g : GM} {t : MT1} {e : ME1} {vs : List Nat} {ρ : Rho} {st : Sto} {QP : KP} {E : KX} : Z (eLcC f k mi g t e vs ρ st) QP E = Z (mi ρ st) (kLcC f k g t e vs ρ QP E) E := by
  unfold eLcC; rw [Z_bind]; simp only [Z_bind]; rfl
theorem lcG_nil {G : Sto → Bool} {g : GM} {t : MT1} {e : ME1} {ρ0 : Rho} {acc : List PV} {st : Sto} {QL : KLs} {E : KX} (h : G st = true) : Z (lcG G g t e ρ0 [] acc st) QL E = QL acc st := by unfold lcG; rw [if_pos h]; rfl
theorem lcG_cons {G : Sto → Bool} {g : GM} {t : MT1} {e : ME1} {ρ0 : Rho} {p : PV} {ps acc : List PV} {st : Sto} {QL : KLs} {E : KX} (h : G st = true) : Z (lcG G g t e ρ0 (p :: ps) acc st) QL E = Z (g p ρ0 st) (fun ρ1 s => Z (t ρ1 s) (fun c s => if c = true then Z (e ρ1 s) (fun y s => if acc.length < 16777216 then Z (lcG G g t e ρ0 ps (acc ++ [y]) s) QL E else False) E0 else Z (lcG G g t e ρ0 ps acc s) QL E) E0) E0 := by
  rw [lcG]; dsimp only; rw [if_pos h, Z_bind, Z_calm]
  congr 1; funext ρ1 s
  rw [Z_bind, Z_calm]
  congr 1; funext c s
  cases c with
  | false => rfl
  | true =>
    rw [if_pos rfl, if_pos rfl, Z_bind, Z_calm]
    congr 1; funext y s
    rw [Z_ite]
    rfl
section
open PySem.NumText
end
section
variable {κ : Type} [DecidableEq κ]
end
section
variable {st : Sto} {ρ : Rho} {QP : KP} {E : KX} {QF : KF} {n : Nat} {c m f : String} {cs : List String} {fs : List (String × PV)} {v y : PV}
@[simp] theorem lookA_nil : lookA [] f = none := rfl
@[simp] theorem lookA_cons {g : String} {r : List (String × PV)} : lookA ((g, v) :: r) f = if g = f then some v else lookA r f := rfl
@[simp] theorem putA_nil : putA f v [] = [(f, v)] := rfl
@[simp] theorem putA_cons {g : String} {w : PV} {r : List (String × PV)} : putA f v ((g, w) :: r) = if g = f then (g, v) :: r else (g, w) :: putA f v r := rfl
@[simp ↓] theorem Z_attr (h : st[n]? = some (.ins c fs)) (hc : c ∈ cs) (hl : lookA fs f = some v) : Z (attrM cs f (.loc n) st) QP E = QP v st := by
  unfold attrM; dsimp only; rw [h]; dsimp only; rw [if_pos hc, hl]; rfl
noncomputable def kSA1 (cs : List String) (f : String) (mo : ME1) (ρ : Rho) (QF : KF) (E : KX) : PV → Sto → Prop := fun y s => Z (mo ρ s) (fun x s => Z (setA cs f y x s) (fun _ s => QF (.next ρ) s) (kX ρ QF)) (kX ρ QF)
@[simp ↓] theorem Z_sAttr {mo mv : ME1} : Z (sAttr cs f mo mv ρ st) QF E = Z (mv ρ st) (kSA1 cs f mo ρ QF E) (kX ρ QF) := by
  unfold sAttr kSA1; rw [Z_onErr]; congr 1; funext y s; rw [Z_onErr]; congr 1; funext x s; rw [Z_onErr]; rfl
noncomputable def kSA2 (cs : List String) (f : String) (y : PV) (ρ : Rho) (QF : KF) : PV → Sto → Prop := fun x s => Z (setA cs f y x s) (fun _ s => QF (.next ρ) s) (kX ρ QF)
@[simp ↓] theorem kSA1_at {mo : ME1} {s : Sto} : kSA1 cs f mo ρ QF E y s = Z (mo ρ s) (kSA2 cs f y ρ QF) (kX ρ QF) := propext Iff.rfl
@[simp ↓] theorem kSA2_at {s : Sto} (h : s[n]? = some (.ins c fs)) (hc : c ∈ cs) (hl : fs.length < 1000) : kSA2 cs f y ρ QF (.loc n) s = QF (.next ρ) (s.set n (.ins c (putA f y fs))) := by
  unfold kSA2 setA; dsimp only; rw [h]; dsimp only; rw [if_pos ⟨hc, hl⟩]; rfl
noncomputable def kMt3 (mf : List PV → M PV) (o : PV) (QP : KP) (E : KX) : List PV → Sto → Prop := fun xs s => Z (mf (o :: xs) s) QP E
@[simp ↓] theorem kMt3_at {mf : List PV → M PV} {o : PV} {xs : List PV} {s : Sto} : kMt3 mf o QP E xs s = Z (mf (o :: xs) s) QP E := propext Iff.rfl
noncomputable def kMt1 (c m : String) (mf : List PV → M PV) (ma : ML1) (ρ : Rho) (QP : KP) (E : KX) : PV → Sto → Prop := fun o s => Z (insC c m o s) (fun _ s => Z (ma ρ s) (kMt3 mf o QP E) E) E
@[simp ↓] theorem Z_eMth {mf : List PV → M PV} {mo : ME1} {ma : ML1} : Z (eMth c m mf mo ma ρ st) QP E = Z (mo ρ st) (kMt1 c m mf ma ρ QP E) E := by
  unfold eMth kMt1; rw [Z_bind]; congr 1; funext o s; rw [Z_bind]; congr 1; funext u s; rw [Z_bind]; rfl
@[simp ↓] theorem kMt1_at {mf : List PV → M PV} {ma : ML1} {s : Sto} (h : s[n]? = some (.ins c fs)) (hl : lookA fs m = none) : kMt1 c m mf ma ρ QP E (.loc n) s = Z (ma ρ s) (kMt3 mf (.loc n) QP E) E := by
  unfold kMt1 insC; dsimp only; rw [h]; dsimp only; rw [if_pos ⟨rfl, hl⟩]; rfl
noncomputable def kNew (QP : KP) (n : Nat) : PV → Sto → Prop := fun v s => v = .non ∧ QP (.loc n) s
@[simp ↓] theorem kNew_at {s : Sto} : kNew QP n .non s = QP (.loc n) s := by unfold kNew; simp
@[simp ↓] theorem Z_mkIns {mf : List PV → M PV} {xs : List PV} : Z (mkIns c mf xs st) QP E = Z (mf (.loc st.length :: xs) (st ++ [.ins c []])) (kNew QP st.length) E0 := by
  unfold mkIns kNew
  cases mf (.loc st.length :: xs) (st ++ [.ins c []]) with
  | ok v s => cases v <;> simp [Z]
  | err x s => rfl
  | bad => rfl
end
section
variable {st : Sto} {ρ : Rho} {QP : KP} {QL : List PV → Sto → Prop} {E : KX} {xs ys : List PV} {a : List Nat} {n j : Nat} {x y z : PV} {kvs : List (PV × PV)}
@[simp ↓] theorem Z_zipLT : Z (zipM [.lst xs, .tup ys] st) QL E = QL (zipP xs ys) st := propext Iff.rfl
@[simp ↓] theorem Z_zipTL : Z (zipM [.tup xs, .lst ys] st) QL E = QL (zipP xs ys) st := propext Iff.rfl
@[simp ↓] theorem Z_zipTS : Z (zipM [.tup xs, .str a] st) QL E = QL (zipP xs (a.map fun c => .str [c])) st := propext Iff.rfl
@[simp ↓] theorem Z_zipLS : Z (zipM [.lst xs, .str a] st) QL E = QL (zipP xs (a.map fun c => .str [c])) st := propext Iff.rfl
noncomputable def kGd (x z : PV) (QP : KP) (E : KX) : PV → Sto → Prop := fun y s => Z (dgetM x y z s) QP E
noncomputable def kGe1 (me : ME1) (ρ : Rho) (QP : KP) (E : KX) : PV → Sto → Prop := fun x s => Z (isDct x s) (fun _ s => Z (me ρ s) (kGd x .non QP E) E) E
@[simp ↓] theorem Z_eGet1 {mo me : ME1} : Z (eGet1 mo me ρ st) QP E = Z (mo ρ st) (kGe1 me ρ QP E) E := by
  unfold eGet1 kGe1; rw [Z_bind]; congr 1; funext o s; rw [Z_bind]; congr 1; funext u s; rw [Z_bind]; rfl
@[simp ↓] theorem kGe1_at {me : ME1} {s : Sto} (h : s[n]? = some (.dct kvs)) : kGe1 me ρ QP E (.loc n) s = Z (me ρ s) (kGd (.loc n) .non QP E) E := by
  unfold kGe1 isDct dctOf; dsimp only; rw [h]; rfl
@[simp ↓] theorem kGd_at {s : Sto} (h : s[n]? = some (.dct kvs)) (hk : (keyOf y).isSome = true) : kGd (.loc n) z QP E y s = QP ((lookP kvs y).getD z) s := by
  unfold kGd dgetM dctOf; dsimp only; rw [h]; dsimp only; rw [if_pos hk]; rfl
noncomputable def kGe3 (x y : PV) (QP : KP) (E : KX) : PV → Sto → Prop := fun z s => Z (dgetM x y z s) QP E
noncomputable def kGe2 (md : ME1) (x : PV) (ρ : Rho) (QP : KP) (E : KX) : PV → Sto → Prop := fun y s => Z (md ρ s) (kGe3 x y QP E) E
noncomputable def kGeA (me md : ME1) (ρ : Rho) (QP : KP) (E : KX) : PV → Sto → Prop := fun x s => Z (isDct x s) (fun _ s => Z (me ρ s) (kGe2 md x ρ QP E) E) E
@[simp ↓] theorem Z_eGet2 {mo me md : ME1} : Z (eGet2 mo me md ρ st) QP E = Z (mo ρ st) (kGeA me md ρ QP E) E := by
  unfold eGet2 kGeA; rw [Z_bind]; congr 1; funext o s; rw [Z_bind]; congr 1; funext u s; rw [Z_bind]; congr 1; funext w s; rw [Z_bind]; rfl
@[simp ↓] theorem kGeA_at {me md : ME1} {s : Sto} (h : s[n]? = some (.dct kvs)) : kGeA me md ρ QP E (.loc n) s = Z (me ρ s) (kGe2 md (.loc n) ρ QP E) E := by
  unfold kGeA isDct dctOf; dsimp only; rw [h]; rfl
@[simp ↓] theorem kGe2_at {md : ME1} {s : Sto} : kGe2 md x ρ QP E y s = Z (md ρ s) (kGe3 x y QP E) E := propext Iff.rfl
@[simp ↓] theorem kGe3_at {s : Sto} (h : s[n]? = some (.dct kvs)) (hk : (keyOf y).isSome = true) : kGe3 (.loc n) y QP E z s = QP ((lookP kvs y).getD z) s := by
  unfold kGe3 dgetM dctOf; dsimp only; rw [h]; dsimp only; rw [if_pos hk]; rfl
end
@[simp ↓] theorem Z_mulL {xs : List PV} {i : Int} {st : Sto} {Q : PV → Sto → Prop} {E : Exn → Sto → Prop} : Z (mulL (.lst xs) (.int i) st) Q E = if -1000000 ≤ i ∧ i ≤ 1000 ∧ xs.length ≤ 1000 then Q (.lst (List.replicate i.toNat xs).flatten) st else False := by unfold mulL; dsimp only; rw [Z_ite]; rfl
section
variable {st : Sto} {ρ : Rho} {QP : KP} {QU : KU} {E : KX} {m : Nat} {x y v : PV} {kvs : List (PV × PV)} {b : Bool}
theorem Z_ixN (h : st[m]? = some (.dcn kvs)) (hk : (nkT y).isSome = true) : Z (ixM (.loc m) y st) QP E = Z (optM (lookP kvs y) st) QP E := by
  unfold ixM seqOf dctOf gdOf; dsimp only; rw [h]; dsimp only; rw [if_pos hk]
theorem Z_setN (h : st[m]? = some (.dcn kvs)) (hk : (nkT y).isSome = true) (hl : kvs.length < 16777216) : Z (setM (.loc m) y v st) QU E = QU () (st.set m (.dcn (putP kvs y v))) := by
  unfold setM; dsimp only; rw [h]; dsimp only; rw [if_pos ⟨hk, hl⟩]; rfl
noncomputable def kGg (x : PV) (QP : KP) (E : KX) : PV → Sto → Prop := fun y s => Z (ggetM x y s) QP E
noncomputable def kGg1 (me : ME1) (ρ : Rho) (QP : KP) (E : KX) : PV → Sto → Prop := fun x s => Z (isGd x s) (fun _ s => Z (me ρ s) (kGg x QP E) E) E
@[simp ↓] theorem Z_eGetG {mo me : ME1} : Z (eGetG mo me ρ st) QP E = Z (mo ρ st) (kGg1 me ρ QP E) E := by
  unfold eGetG kGg1; rw [Z_bind]; congr 1; funext o s; rw [Z_bind]; congr 1; funext u s; rw [Z_bind]; rfl
@[simp ↓] theorem kGg1_at {me : ME1} {s : Sto} (h : s[m]? = some (.dcn kvs)) : kGg1 me ρ QP E (.loc m) s = Z (me ρ s) (kGg (.loc m) QP E) E := by
  unfold kGg1 isGd; dsimp only; rw [h]; rfl
@[simp ↓] theorem Z_eDcn0 : Z (eDcn0 ρ st) QP E = QP (.loc st.length) (st ++ [.dcn []]) := propext Iff.rfl
@[simp ↓] theorem Z_eDcl0 : Z (eDcl0 ρ st) QP E = QP (.loc st.length) (st ++ [.dcl []]) := propext Iff.rfl
end
@[simp ↓] theorem Z_enumGt {xs : List PV} {st : Sto} {QL : KLs} {E : KX} : Z (enumG [.tup xs] st) QL E = QL (enumP xs) st := propext Iff.rfl
@[simp ↓] theorem Z_enumGl {xs : List PV} {st : Sto} {QL : KLs} {E : KX} : Z (enumG [.lst xs] st) QL E = QL (enumP xs) st := propext Iff.rfl
@[simp ↓] theorem Z_enumGs {a : List Nat} {st : Sto} {QL : KLs} {E : KX} : Z (enumG [.str a] st) QL E = QL (enumP (a.map fun c => .str [c])) st := propext Iff.rfl
@[simp ↓] theorem Z_isB {a b : Bool} {st : Sto} {QP : KP} {E : KX} : Z (isN (.bl a) (.bl b) st) QP E = QP (.bl (decide (a = b))) st := propext Iff.rfl
@[simp ↓] theorem Z_notB {a b : Bool} {st : Sto} {QP : KP} {E : KX} : Z (notN (.bl a) (.bl b) st) QP E = QP (.bl (!decide (a = b))) st := propext Iff.rfl
@[simp ↓] theorem Z_mulS {a : List Nat} {i : Int} {st : Sto} {Q : PV → Sto → Prop} {E : Exn → Sto → Prop} : Z (mulS (.str a) (.int i) st) Q E = if -1000000 ≤ i ∧ i ≤ 1000 ∧ a.length ≤ 1000 then Q (.str (List.replicate i.toNat a).flatten) st else False := by unfold mulS; dsimp only; rw [Z_ite]; rfl
section
variable {g : GM} {b : MS1} {ρ : Rho} {st : Sto} {QF : KF} {E : KX} {QP : KP} {xs ps : List PV} {n : Nat} {a : List Nat}
theorem forG_yes : ∀ (ps : List PV) (ρ : Rho), forG yesG g b ps ρ = forL g b ps ρ
  | [], ρ => by unfold forG forL; rfl
  | p :: ps, ρ => by
    unfold forG forL
    have e : forG yesG g b ps = forL g b ps := funext fun ρ => forG_yes ps ρ
    rw [e]; rfl
theorem lcG_yes {t : MT1} {e : ME1} {ρ0 : Rho} : ∀ (ps acc : List PV), lcG yesG g t e ρ0 ps acc = lcL g t e ρ0 ps acc
  | [], acc => by unfold lcG lcL; rfl
  | p :: ps, acc => by
    unfold lcG lcL
    have e2 : ∀ acc, lcG yesG g t e ρ0 ps acc = lcL g t e ρ0 ps acc := fun acc => lcG_yes ps acc
    simp only [e2]; rfl
noncomputable def kAny (Q : GI → Sto → Prop) (E : KX) : PV → Sto → Prop := fun v s => Z (anyM v s) Q E
noncomputable def kEnA (Q : GI → Sto → Prop) (E : KX) : PV → Sto → Prop := fun v s => Z (enumA v s) Q E
@[simp ↓] theorem Z_iAny {m : ME1} {Q : GI → Sto → Prop} : Z (iAny m ρ st) Q E = Z (m ρ st) (kAny Q E) E := by unfold iAny kAny; rw [Z_bind]
@[simp ↓] theorem Z_iEnumA {m : ME1} {Q : GI → Sto → Prop} : Z (iEnumA m ρ st) Q E = Z (m ρ st) (kEnA Q E) E := by unfold iEnumA kEnA; rw [Z_bind]
@[simp ↓] theorem kAny_t {Q : GI → Sto → Prop} : kAny Q E (.tup xs) st = Q (yesG, xs) st := propext Iff.rfl
@[simp ↓] theorem kAny_l {Q : GI → Sto → Prop} : kAny Q E (.lst xs) st = Q (yesG, xs) st := propext Iff.rfl
@[simp ↓] theorem kAny_f {Q : GI → Sto → Prop} : kAny Q E (.frz xs) st = Q (yesG, xs) st := propext Iff.rfl
@[simp ↓] theorem kAny_s {Q : GI → Sto → Prop} : kAny Q E (.str a) st = Q (yesG, a.map fun c => .str [c]) st := propext Iff.rfl
@[simp ↓] theorem kAny_c {Q : GI → Sto → Prop} (h : st[n]? = some (.lst xs)) : kAny Q E (.loc n) st = Q (gd n xs, xs) st := by unfold kAny anyM; dsimp only; rw [h]; rfl
@[simp ↓] theorem kEnA_t {Q : GI → Sto → Prop} : kEnA Q E (.tup xs) st = Q (yesG, enumP xs) st := propext Iff.rfl
@[simp ↓] theorem kEnA_l {Q : GI → Sto → Prop} : kEnA Q E (.lst xs) st = Q (yesG, enumP xs) st := propext Iff.rfl
@[simp ↓] theorem kEnA_s {Q : GI → Sto → Prop} : kEnA Q E (.str a) st = Q (yesG, enumP (a.map fun c => .str [c])) st := propext Iff.rfl
@[simp ↓] theorem kEnA_c {Q : GI → Sto → Prop} (h : st[n]? = some (.lst xs)) : kEnA Q E (.loc n) st = Q (gd n xs, enumP xs) st := by unfold kEnA enumA; dsimp only; rw [h]; rfl
noncomputable def kForA (g : GM) (b : MS1) (ρ : Rho) (QF : KF) (E : KX) : GI → Sto → Prop := fun gx s => Z (forG gx.1 g b gx.2 ρ s) QF E
@[simp ↓] theorem Z_sForA {mi : Rho → M GI} : Z (sForA mi g b ρ st) QF E = Z (mi ρ st) (kForA g b ρ QF E) (kX ρ QF) := by unfold sForA; rw [Z_onErr]; rfl
@[simp ↓] theorem kForA_y : kForA g b ρ QF E (yesG, ps) st = Z (forL g b ps ρ st) QF E := by unfold kForA; dsimp only; rw [forG_yes]
noncomputable def kLcA (k : List PV → M PV) (g : GM) (t : MT1) (e : ME1) (vs : List Nat) (ρ : Rho) (QP : KP) (E : KX) : GI → Sto → Prop := fun gx s => Z (lcG gx.1 g t e (wipeP ρ vs) gx.2 [] s) (kLE k QP E) E
@[simp ↓] theorem Z_eLcA {k : List PV → M PV} {mi : Rho → M GI} {t : MT1} {e : ME1} {vs : List Nat} : Z (eLcA k mi g t e vs ρ st) QP E = Z (mi ρ st) (kLcA k g t e vs ρ QP E) E := by
  unfold eLcA; rw [Z_bind]; simp only [Z_bind]; rfl
@[simp ↓] theorem kLcA_y {k : List PV → M PV} {t : MT1} {e : ME1} {vs : List Nat} : kLcA k g t e vs ρ QP E (yesG, ps) st = Z (lcL g t e (wipeP ρ vs) ps [] st) (kLE k QP E) E := by unfold kLcA; dsimp only; rw [lcG_yes]
theorem kLcA_g {k : List PV → M PV} {t : MT1} {e : ME1} {vs : List Nat} : kLcA k g t e vs ρ QP E (gd n xs, ps) st = Z (lcG (gd n xs) g t e (wipeP ρ vs) ps [] st) (kLE k QP E) E := rfl
end
section
variable {st : Sto} {a : List Nat} {xs : List PV} {m : Nat} {kvs : List (PV × PV)}
@[simp] theorem itemsA_tup : itemsA (.tup xs) st = some xs := rfl
@[simp] theorem itemsA_lst : itemsA (.lst xs) st = some xs := rfl
@[simp] theorem itemsA_frz : itemsA (.frz xs) st = some xs := rfl
end
noncomputable def kGA2 (cs : List String) (f : String) (p : PV) (ρ : Rho) (QR : KR) (E : KX) : PV → Sto → Prop := fun o s => Z (setA cs f p o s) (fun _ s => QR ρ s) E
@[simp ↓] theorem Z_gAttr {cs : List String} {f : String} {mo : ME1} {p : PV} {ρ : Rho} {st : Sto} {QR : KR} {E : KX} : Z (gAttr cs f mo p ρ st) QR E = Z (mo ρ st) (kGA2 cs f p ρ QR E) E := by
  unfold gAttr kGA2; rw [Z_bind]; congr 1; funext o s; rw [Z_bind]; rfl
@[simp ↓] theorem kGA2_at {cs : List String} {f c : String} {p : PV} {ρ : Rho} {QR : KR} {E : KX} {n : Nat} {fs : List (String × PV)} {s : Sto} (h : s[n]? = some (.ins c fs)) (hc : c ∈ cs) (hl : fs.length < 1000) : kGA2 cs f p ρ QR E (.loc n) s = QR ρ (s.set n (.ins c (putA f p fs))) := by
  unfold kGA2 setA; dsimp only; rw [h]; dsimp only; rw [if_pos ⟨hc, hl⟩]; rfl
@[simp ↓] theorem Z_extend {st : Sto} {m : Nat} {x : PV} {ys zs : List PV} {Q : PV → Sto → Prop} {E : Exn → Sto → Prop} (h : st[m]? = some (.lst ys)) (h2 : listOf x st = some zs) (hz : ys.length + zs.length ≤ 16777216) : Z (extendM (.loc m) [x] st) Q E = Q .non (st.set m (.lst (ys ++ zs))) := by
  unfold extendM lstCell; dsimp only; rw [h]; dsimp only; rw [h2]; dsimp only; rw [if_pos hz]; rfl
end MP

set_option maxRecDepth 100000
namespace MP
open PySem L2
section
variable {c : String} {i j : Nat} {names fs : List String} {ma : Rho → M (List PV)} {mb : Rho → M Fl} {ρ : Rho} {st : Sto} {QF : Fl → Sto → Prop} {E : Exn → Sto → Prop}
noncomputable def kRz (c : String) (names : List String) (ρ : Rho) (QF : Fl → Sto → Prop) : List PV → Sto → Prop := fun ps s => QF (.exc (exnR c names ps) ρ) s
@[simp ↓] theorem kRz_at {ps : List PV} {s : Sto} : kRz c names ρ QF ps s = QF (.exc (exnR c names ps) ρ) s := propext Iff.rfl
@[simp ↓] theorem Z_sRaise : Z (sRaise c names ma ρ st) QF E = Z (ma ρ st) (kRz c names ρ QF) (kX ρ QF) := by
  unfold sRaise; rw [Z_onErr]; rfl
noncomputable def tryQ (c : String) (i j : Nat) (fs : List String) (QF : Fl → Sto → Prop) : Fl → Sto → Prop
  | .exc x ρ', s => x.C = c ∧ i < ρ'.length ∧ ∃ ps, lookAll fs x.fs = some ps ∧ QF (.next ((ρ'.set j (some (.tup ps))).set i none)) s
  | fl, s => QF fl s
@[simp] theorem tryQ_next {ρ' : Rho} : tryQ c i j fs QF (.next ρ') st = QF (.next ρ') st := propext Iff.rfl
@[simp] theorem tryQ_ret {v : PV} : tryQ c i j fs QF (.ret v) st = QF (.ret v) st := propext Iff.rfl
@[simp] theorem tryQ_exc {x : Exn} {ρ' : Rho} : tryQ c i j fs QF (.exc x ρ') st = (x.C = c ∧ i < ρ'.length ∧ ∃ ps, lookAll fs x.fs = some ps ∧ QF (.next ((ρ'.set j (some (.tup ps))).set i none)) st) := propext Iff.rfl
@[simp ↓] theorem Z_sTryT : Z (sTryT c i j fs mb ρ st) QF E = Z (mb ρ st) (tryQ c i j fs QF) E := by
  unfold sTryT
  cases mb ρ st with
  | bad => rfl
  | err y s => rfl
  | ok fl s =>
    cases fl with
    | next ρ' => rfl
    | ret v => rfl
    | brk ρ' => rfl
    | cont ρ' => rfl
    | exc x ρ' =>
      refine propext ?_
      dsimp only
      show _ ↔ (x.C = c ∧ i < ρ'.length ∧ ∃ ps, lookAll fs x.fs = some ps ∧ QF (.next ((ρ'.set j (some (.tup ps))).set i none)) s)
      by_cases h : x.C = c ∧ i < ρ'.length
      · rw [if_pos h]
        cases q : lookAll fs x.fs with
        | none => exact ⟨fun z => z.elim, fun ⟨_, _, ps, e, _⟩ => nomatch e⟩
        | some ps => exact ⟨fun z => ⟨h.1, h.2, ps, rfl, z⟩, fun ⟨_, _, ps', e, z⟩ => by cases e; exact z⟩
      · rw [if_neg h]
        exact ⟨fun z => z.elim, fun ⟨h1, h2, _⟩ => absurd ⟨h1, h2⟩ h⟩
end
section
variable {m n : Nat} {kvs : List (PV × PV)} {me : Rho → M PV} {g : GM} {b : Rho → M Fl} {ρ : Rho} {st st' : Sto} {QF : Fl → Sto → Prop} {E : Exn → Sto → Prop}
end
section
variable {ρ : Rho} {st : Sto} {QR : Rho → Sto → Prop} {E : Exn → Sto → Prop}
theorem Z_gTAo {m : Nat} {r : GsM} {p : PV} {xs : List PV} (h : itA p st = some xs) : Z (gTA m r p ρ st) QR E = if xs.length = m then Z (r xs ρ st) QR E0 else False := by
  unfold gTA; rw [h]; dsimp only; by_cases h : xs.length = m
  · rw [if_pos h, if_pos h, Z_calm]
  · rw [if_neg h, if_neg h]; rfl
@[simp ↓] theorem Z_gTAt {m : Nat} {r : GsM} {xs : List PV} : Z (gTA m r (.tup xs) ρ st) QR E = if xs.length = m then Z (r xs ρ st) QR E0 else False := Z_gTAo rfl
@[simp ↓] theorem Z_gTAl {m : Nat} {r : GsM} {xs : List PV} : Z (gTA m r (.lst xs) ρ st) QR E = if xs.length = m then Z (r xs ρ st) QR E0 else False := Z_gTAo rfl
@[simp ↓] theorem Z_gTAc {m k : Nat} {r : GsM} {xs : List PV} (h : st[k]? = some (.lst xs)) : Z (gTA m r (.loc k) ρ st) QR E = if xs.length = m then Z (r xs ρ st) QR E0 else False := Z_gTAo (by unfold itA; dsimp only; rw [h])
end
section
variable {st : Sto} {Q : PV → Sto → Prop} {E : Exn → Sto → Prop}
@[simp ↓] theorem Z_rvsT {xs : List PV} : Z (rvsM (.tup xs) st) Q E = Q (.tup xs.reverse) st := rfl
@[simp ↓] theorem Z_rvsS {z : List Nat} : Z (rvsM (.str z) st) Q E = if z.length ≤ 16777216 then Q (.str z.reverse) st else False := by
  unfold rvsM; dsimp only
  by_cases h : z.length ≤ 16777216
  · rw [if_pos h, if_pos h]; rfl
  · rw [if_neg h, if_neg h]; rfl
@[simp ↓] theorem Z_notTb {a b : Bool} : Z (notT (.bl a) (.bl b) st) Q E = Q (.bl (!decide (a = b))) st := rfl
@[simp ↓] theorem Z_notTn {b : Bool} : Z (notT .non (.bl b) st) Q E = Q (.bl true) st := rfl
@[simp ↓] theorem Z_notTt {b : Bool} {xs : List PV} : Z (notT (.tup xs) (.bl b) st) Q E = Q (.bl true) st := rfl
end
theorem Z_inD {n : Bool} {x y : PV} {ys : List PV} {st : Sto} {Q : PV → Sto → Prop} {E : Exn → Sto → Prop} (hs : shal y st = .lst ys) (hx : plP x = true) (hy : plPs ys = true) (hd : depP x ≤ 60) : Z (inDM n x y st) Q E = Q (.bl (ng n (decide (x ∈ ys)))) st := by
  have h2 : layPs ys = true := lays_pl _ hy
  have e : (ys.any fun p => eqb p x) = decide (x ∈ ys) := by
    rw [Bool.eq_iff_iff, List.any_eq_true, decide_eq_true_iff]
    constructor
    · rintro ⟨p, hp, q⟩
      rw [eqb_pl p x (plPs_iff.mp hy p hp) hx] at q
      have := of_decide_eq_true q
      exact this ▸ hp
    · intro h
      exact ⟨x, h, by rw [eqb_pl x x hx hx]; simp⟩
  unfold inDM
  rw [hs]
  dsimp only
  rw [if_pos (by simp [lay_pl _ hx, h2, hd]), e]
  rfl
theorem Z_inDc {n : Bool} {x : PV} {m : Nat} {ys : List PV} {st : Sto} {Q : PV → Sto → Prop} {E : Exn → Sto → Prop} (hs : st[m]? = some (.lst ys)) (hx : plP x = true) (hy : plPs ys = true) (hd : depP x ≤ 60) : Z (inDM n x (.loc m) st) Q E = Q (.bl (ng n (decide (x ∈ ys)))) st :=
  Z_inD (by unfold shal; dsimp only; rw [hs]) hx hy hd
@[simp ↓] theorem Z_isTb {a b : Bool} {st : Sto} {Q : PV → Sto → Prop} {E : Exn → Sto → Prop} : Z (isT (.bl a) (.bl b) st) Q E = Q (.bl (decide (a = b))) st := rfl
@[simp ↓] theorem Z_isTn {b : Bool} {st : Sto} {Q : PV → Sto → Prop} {E : Exn → Sto → Prop} : Z (isT .non (.bl b) st) Q E = Q (.bl false) st := rfl
@[simp ↓] theorem Z_isTt {b : Bool} {xs : List PV} {st : Sto} {Q : PV → Sto → Prop} {E : Exn → Sto → Prop} : Z (isT (.tup xs) (.bl b) st) Q E = Q (.bl false) st := rfl
noncomputable def tryN (QF : Fl → Sto → Prop) : Fl → Sto → Prop := fun f s => match f with
  | .exc _ _ => False
  | f => QF f s
@[simp] theorem tryN_next {QF : Fl → Sto → Prop} {ρ : Rho} {st : Sto} : tryN QF (.next ρ) st = QF (.next ρ) st := rfl
@[simp] theorem tryN_ret {QF : Fl → Sto → Prop} {v : PV} {st : Sto} : tryN QF (.ret v) st = QF (.ret v) st := rfl
@[simp ↓] theorem Z_sTryN {mb : Rho → M Fl} {ρ : Rho} {st : Sto} {QF : Fl → Sto → Prop} {E : Exn → Sto → Prop} : Z (sTryN mb ρ st) QF E = Z (mb ρ st) (tryN QF) E := by
  unfold sTryN
  cases mb ρ st with
  | bad => rfl
  | err x s => rfl
  | ok f s => cases f <;> rfl
@[simp ↓] theorem Z_minT {st : Sto} {a b : List Nat} {Q : PV → Sto → Prop} {E : Exn → Sto → Prop} : Z (minTM [.str a, .str b] st) Q E = Q (if ltD (.str b) (.str a) then .str b else .str a) st := rfl
theorem Z_sortSetPN {x : PV} {st : Sto} {Q : PV → Sto → Prop} {E : Exn → Sto → Prop} {ps : List Pr2} (h : MP.listOf x st = some (ps.map encP)) (hl : ps.length < 64) : Z (sortSetPN x st) Q E = Q (.loc st.length) (st ++ [.lst ((sortP (dd ps)).map encP)]) := by
  have : sortSetPN x st = .ok (.loc st.length) (st ++ [.lst ((sortP (dd ps)).map encP)]) := by
    unfold sortSetPN
    rw [h]
    dsimp only
    rw [prsOf_map]
    dsimp only
    rw [if_pos hl]
  unfold Z
  rw [this]
@[simp ↓] theorem Z_ltXi {i j : Int} {st : Sto} {Q : PV → Sto → Prop} {E : Exn → Sto → Prop} : Z (ltX (.int i) (.int j) st) Q E = Q (.bl (decide (i < j))) st := propext Iff.rfl
@[simp ↓] theorem Z_ltXs {a b : List Nat} {st : Sto} {Q : PV → Sto → Prop} {E : Exn → Sto → Prop} : Z (ltX (.str a) (.str b) st) Q E = Q (.bl (decide (a < b))) st := propext Iff.rfl
end MP

set_option maxRecDepth 100000
namespace K55
open PySem L2 MP

noncomputable def L0_names_in (n : Nat) (fr_names_in : List PV → M PV) : Rho → M Fl :=
  (sDrop (eMeth "list" extendA (eVar 1) (aCons (eCall fr_names_in (aCons (eVar 2) aNil)) aNil)))
theorem zL0_names_in {n : Nat} {fr_names_in : List PV → M PV} {ρ : Rho} {st : Sto} {Q : Fl → Sto → Prop} {E : Exn → Sto → Prop} : Z (L0_names_in n fr_names_in ρ st) Q E = Z ((sDrop (eMeth "list" extendA (eVar 1) (aCons (eCall fr_names_in (aCons (eVar 2) aNil)) aNil))) ρ st) Q E := by unfold L0_names_in; rfl
noncomputable def b_names_in (n : Nat) (fr_names_in : List PV → M PV) : Rho → M Fl :=
  (sSeq (sIf (tNotM (eB (eCall isiM (aCons (eVar 0) (aCons (eC (.ty "tuple")) aNil))))) (sRet (eCall mkLstN aNil)) sNext)
  (sSeq (sIf (eB (eCall isiM (aCons (eBin ixM (eVar 0) (eC (.int 0))) (aCons (eC (.ty "int")) aNil)))) (sRet (eCall mkLstN (aCons (eVar 0) aNil))) sNext)
  (sSeq (sSet 1 (eCall mkLstN aNil))
  (sSeq (sForA (iAny (eSl slM (eVar 0) (oSome (eC (.int 1))) oNone)) (gN 2) (L0_names_in n fr_names_in))
  (sRet (eUn sortSetPN (eVar 1)))))))
noncomputable def G_names_in (n : Nat) : Nat → List PV → M PV
  | 0 => fun _ => M.fail
  | d + 1 => runB (b_names_in n (G_names_in n d)) 3
@[irreducible] noncomputable def F_names_in (n d : Nat) : List PV → M PV := G_names_in n d
theorem z_names_in {n d : Nat} {p0 : PV} {st : Sto} {Q : PV → Sto → Prop} {E : Exn → Sto → Prop} : Z (F_names_in n (d + 1) [p0] st) Q E = Z (b_names_in n (F_names_in n d) [some p0, none, none] st) (runQ Q E) E0 := by unfold F_names_in; exact Z_run rfl
noncomputable def b_put_in (n : Nat) (fr_put_in : List PV → M PV) : Rho → M Fl :=
  (sSeq (sIf (tNotM (eB (eCall isiM (aCons (eVar 0) (aCons (eC (.ty "tuple")) aNil))))) (sRet (eVar 0)) sNext)
  (sSeq (sIf (eB (eCall isiM (aCons (eBin ixM (eVar 0) (eC (.int 0))) (aCons (eC (.ty "int")) aNil)))) (sRet (eBin ixM (eVar 1) (eVar 0))) sNext)
  (sRet (eBin addV (eCall mkTup (aCons (eBin ixM (eVar 0) (eC (.int 0))) aNil)) (eCall tupleM (aCons (eLcA lcV (iAny (eSl slM (eVar 0) (oSome (eC (.int 1))) oNone)) (gN 2) tYesM (eCall fr_put_in (aCons (eVar 2) (aCons (eVar 1) aNil))) [2]) aNil))))))
noncomputable def G_put_in (n : Nat) : Nat → List PV → M PV
  | 0 => fun _ => M.fail
  | d + 1 => runB (b_put_in n (G_put_in n d)) 3
@[irreducible] noncomputable def F_put_in (n d : Nat) : List PV → M PV := G_put_in n d
theorem z_put_in {n d : Nat} {p0 p1 : PV} {st : Sto} {Q : PV → Sto → Prop} {E : Exn → Sto → Prop} : Z (F_put_in n (d + 1) [p0, p1] st) Q E = Z (b_put_in n (F_put_in n d) [some p0, some p1, none] st) (runQ Q E) E0 := by unfold F_put_in; exact Z_run rfl
noncomputable def b__law_box (n : Nat) : Rho → M Fl :=
  (sSeq (sSet 2 (eBin mulV (eC (.int 7919)) (eVar 1)))
  (sSeq (sIf (eB (eBin gtI (eCall lenM (aCons (eVar 0) aNil)) (eC (.int 0)))) (sSet 2 (eBin addV (eBin ixM (eVar 0) (eBin modV (eVar 1) (eCall lenM (aCons (eVar 0) aNil)))) (eBin mulV (eC (.int 1009)) (eBin fdivV (eVar 1) (eCall lenM (aCons (eVar 0) aNil)))))) sNext)
  (sRet (eCall mkLstN (aCons (eBin fdivV (eVar 2) (eC (.int 2))) (aCons (eBin modV (eVar 2) (eC (.int 2))) (aCons (eC (.int 0)) (aCons (eVar 2) aNil))))))))
@[irreducible] noncomputable def F__law_box (n : Nat) : List PV → M PV := runB (b__law_box n) 3
theorem z__law_box {n : Nat} {p0 p1 : PV} {st : Sto} {Q : PV → Sto → Prop} {E : Exn → Sto → Prop} : Z (F__law_box n [p0, p1] st) Q E = Z (b__law_box n [some p0, some p1, none] st) (runQ Q E) E0 := by unfold F__law_box; exact Z_run rfl
noncomputable def b__law_take (n : Nat) : Rho → M Fl :=
  (sSeq (sAsg (eBin addV (eBin ixM (eVar 0) (eC (.int 2))) (eC (.int 1))) (gSubM (eVar 0) (eC (.int 2))))
  (sSeq (sIf (tAndM (eB (eBin eqM (eBin ixM (eVar 0) (eC (.int 1))) (eC (.int 0)))) (tAndM (eB (eBin (inM true) (eBin ixM (eVar 0) (eC (.int 0))) (eCall mkTup (aCons (eC (.int 0)) (aCons (eUn negV (eC (.int 1))) aNil))))) (eB (eBin ltI (eBin ixM (eVar 0) (eC (.int 2))) (eC (.int 61)))))) (sSeq (sSet 2 (eBin modV (eBin ixM (eVar 0) (eC (.int 0))) (eVar 1)))
  (sSeq (sAsg (eBin fdivV (eBin ixM (eVar 0) (eC (.int 0))) (eVar 1)) (gSubM (eVar 0) (eC (.int 0))))
  (sRet (eVar 2)))) sNext)
  (sSeq (sSet 3 (eBin modV (eBin mulV (eBin addV (eBin modV (eBin ixM (eVar 0) (eC (.int 3))) (eC (.int 2147483647))) (eBin mulV (eC (.int 31)) (eBin ixM (eVar 0) (eC (.int 2))))) (eC (.int 48271))) (eC (.int 2147483629))))
  (sSeq (sSet 3 (eBin modV (eBin mulV (eBin addV (eBin fdivV (eVar 3) (eC (.int 11))) (eBin mulV (eC (.int 17)) (eBin ixM (eVar 0) (eC (.int 2))))) (eC (.int 69621))) (eC (.int 2147483587))))
  (sRet (eBin modV (eBin fdivV (eVar 3) (eC (.int 7))) (eVar 1)))))))
@[irreducible] noncomputable def F__law_take (n : Nat) : List PV → M PV := runB (b__law_take n) 4
theorem z__law_take {n : Nat} {p0 p1 : PV} {st : Sto} {Q : PV → Sto → Prop} {E : Exn → Sto → Prop} : Z (F__law_take n [p0, p1] st) Q E = Z (b__law_take n [some p0, some p1, none, none] st) (runQ Q E) E0 := by unfold F__law_take; exact Z_run rfl
noncomputable def b__law_leaf (n : Nat) : Rho → M Fl :=
  (sSeq (sIf (tAndM (eB (eBin eqM (eVar 1) (eC (.str [110])))) (eB (eBin eqM (eCall (F__law_take n) (aCons (eVar 0) (aCons (eC (.int 3)) aNil))) (eC (.int 0))))) (sRet (eBin ixM (eCall mkLst (aCons (eC (.int 0)) (aCons (eC (.int 1)) (aCons (eUn negV (eC (.int 1))) (aCons (eC (.int 5)) (aCons (eC (.int 32767)) (aCons (eUn negV (eC (.int 32768))) aNil))))))) (eCall (F__law_take n) (aCons (eVar 0) (aCons (eC (.int 6)) aNil))))) sNext)
  (sRet (eCall mkTup (aCons (eCall (F__law_take n) (aCons (eVar 0) (aCons (eC (.int 4)) aNil))) (aCons (eBin addV (eVar 1) (eBin ixM (eCall mkLst (aCons (eC (.str [48])) (aCons (eC (.str [49])) (aCons (eC (.str [55])) (aCons (eC (.str [49, 50])) (aCons (eC (.str [51, 52, 53])) aNil)))))) (eCall (F__law_take n) (aCons (eVar 0) (aCons (eC (.int 5)) aNil))))) aNil)))))
@[irreducible] noncomputable def F__law_leaf (n : Nat) : List PV → M PV := runB (b__law_leaf n) 2
theorem z__law_leaf {n : Nat} {p0 p1 : PV} {st : Sto} {Q : PV → Sto → Prop} {E : Exn → Sto → Prop} : Z (F__law_leaf n [p0, p1] st) Q E = Z (b__law_leaf n [some p0, some p1] st) (runQ Q E) E0 := by unfold F__law_leaf; exact Z_run rfl
noncomputable def b__law_term (n : Nat) (fr__law_term : List PV → M PV) : Rho → M Fl :=
  (sSeq (sIf (tOrM (eB (eBin eqM (eVar 2) (eC (.int 0)))) (eB (eBin eqM (eCall (F__law_take n) (aCons (eVar 0) (aCons (eC (.int 3)) aNil))) (eC (.int 0))))) (sRet (eCall (F__law_leaf n) (aCons (eVar 0) (aCons (eVar 1) aNil)))) sNext)
  (sSeq (sSet 3 (eCall mkLst (aCons (eCall mkTup (aCons (eC (.str [97, 100, 100])) (aCons (eC (.str [110, 110])) aNil))) (aCons (eCall mkTup (aCons (eC (.str [112, 105, 99, 107])) (aCons (eC (.str [110, 110, 110])) aNil))) (aCons (eCall mkTup (aCons (eC (.str [97, 116])) (aCons (eC (.str [114, 110])) aNil))) (aCons (eCall mkTup (aCons (eC (.str [115, 105, 122, 101])) (aCons (eC (.str [114])) aNil))) (aCons (eCall mkTup (aCons (eC (.str [99, 111, 112, 121])) (aCons (eC (.str [110])) aNil))) (aCons (eCall mkTup (aCons (eC (.str [115, 97, 109, 101])) (aCons (eC (.str [110, 110])) aNil))) aNil))))))))
  (sSeq (sIf (eB (eBin eqM (eVar 1) (eC (.str [114])))) (sSet 3 (eCall mkLst (aCons (eCall mkTup (aCons (eC (.str [112, 117, 116])) (aCons (eC (.str [114, 110, 110])) aNil))) (aCons (eCall mkTup (aCons (eC (.str [109, 97, 110, 121])) (aCons (eC (.str [110, 110])) aNil))) (aCons (eCall mkTup (aCons (eC (.str [109, 97, 107, 101])) (aCons (eC (.str [])) aNil))) (aCons (eCall mkTup (aCons (eC (.str [109, 97, 107, 101])) (aCons (eC (.str [110, 110, 110])) aNil))) (aCons (eCall mkTup (aCons (eC (.str [107, 101, 101, 112])) (aCons (eC (.str [114])) aNil))) (aCons (eCall mkTup (aCons (eC (.str [109, 97, 107, 101])) (aCons (eC (.str [110])) aNil))) aNil)))))))) sNext)
  (sSeq (sAsg (eBin ixM (eVar 3) (eCall (F__law_take n) (aCons (eVar 0) (aCons (eC (.int 6)) aNil)))) (gT 2 (gsCons (gN 4) (gsCons (gN 5) gsNil))))
  (sRet (eBin addV (eCall mkTup (aCons (eVar 4) aNil)) (eCall tupleM (aCons (eLcA lcV (iAny (eVar 5)) (gN 6) tYesM (eCall fr__law_term (aCons (eVar 0) (aCons (eVar 6) (aCons (eBin subV (eVar 2) (eC (.int 1))) aNil)))) [6]) aNil))))))))
noncomputable def G__law_term (n : Nat) : Nat → List PV → M PV
  | 0 => fun _ => M.fail
  | d + 1 => runB (b__law_term n (G__law_term n d)) 7
@[irreducible] noncomputable def F__law_term (n d : Nat) : List PV → M PV := G__law_term n d
theorem z__law_term {n d : Nat} {p0 p1 p2 : PV} {st : Sto} {Q : PV → Sto → Prop} {E : Exn → Sto → Prop} : Z (F__law_term n (d + 1) [p0, p1, p2] st) Q E = Z (b__law_term n (F__law_term n d) [some p0, some p1, some p2, none, none, none, none] st) (runQ Q E) E0 := by unfold F__law_term; exact Z_run rfl
noncomputable def L0__law_names (n : Nat) (fr__law_names : List PV → M PV) : Rho → M Fl :=
  (sSet 1 (eBin addV (eVar 1) (eLcA lcV (iAny (eCall fr__law_names (aCons (eVar 2) aNil))) (gN 3) (eB (eBin (inDM true) (eVar 3) (eVar 1))) (eVar 3) [3])))
theorem zL0__law_names {n : Nat} {fr__law_names : List PV → M PV} {ρ : Rho} {st : Sto} {Q : Fl → Sto → Prop} {E : Exn → Sto → Prop} : Z (L0__law_names n fr__law_names ρ st) Q E = Z ((sSet 1 (eBin addV (eVar 1) (eLcA lcV (iAny (eCall fr__law_names (aCons (eVar 2) aNil))) (gN 3) (eB (eBin (inDM true) (eVar 3) (eVar 1))) (eVar 3) [3]))) ρ st) Q E := by unfold L0__law_names; rfl
noncomputable def b__law_names (n : Nat) (fr__law_names : List PV → M PV) : Rho → M Fl :=
  (sSeq (sIf (eB (eCall isiM (aCons (eVar 0) (aCons (eC (.ty "int")) aNil)))) (sRet (eCall mkLst aNil)) sNext)
  (sSeq (sIf (eB (eCall isiM (aCons (eBin ixM (eVar 0) (eC (.int 0))) (aCons (eC (.ty "int")) aNil)))) (sRet (eCall mkLst (aCons (eVar 0) aNil))) sNext)
  (sSeq (sSet 1 (eCall mkLst aNil))
  (sSeq (sForA (iAny (eSl slM (eVar 0) (oSome (eC (.int 1))) oNone)) (gN 2) (L0__law_names n fr__law_names))
  (sRet (eVar 1))))))
noncomputable def G__law_names (n : Nat) : Nat → List PV → M PV
  | 0 => fun _ => M.fail
  | d + 1 => runB (b__law_names n (G__law_names n d)) 4
@[irreducible] noncomputable def F__law_names (n d : Nat) : List PV → M PV := G__law_names n d
theorem z__law_names {n d : Nat} {p0 : PV} {st : Sto} {Q : PV → Sto → Prop} {E : Exn → Sto → Prop} : Z (F__law_names n (d + 1) [p0] st) Q E = Z (b__law_names n (F__law_names n d) [some p0, none, none, none] st) (runQ Q E) E0 := by unfold F__law_names; exact Z_run rfl
noncomputable def b__law_before (n : Nat) : Rho → M Fl :=
  (sSeq (sIf (eB (eBin neM (eBin ixM (eVar 0) (eC (.int 0))) (eBin ixM (eVar 1) (eC (.int 0))))) (sRet (eBin ltX (eBin ixM (eVar 0) (eC (.int 0))) (eBin ixM (eVar 1) (eC (.int 0))))) sNext)
  (sRet (eBin ltX (eBin ixM (eVar 0) (eC (.int 1))) (eBin ixM (eVar 1) (eC (.int 1))))))
@[irreducible] noncomputable def F__law_before (n : Nat) : List PV → M PV := runB (b__law_before n) 2
theorem z__law_before {n : Nat} {p0 p1 : PV} {st : Sto} {Q : PV → Sto → Prop} {E : Exn → Sto → Prop} : Z (F__law_before n [p0, p1] st) Q E = Z (b__law_before n [some p0, some p1] st) (runQ Q E) E0 := by unfold F__law_before; exact Z_run rfl
noncomputable def L0__law_put (n : Nat) (fr__law_put : List PV → M PV) : Rho → M Fl :=
  (sDrop (eMeth "list" appendM (eVar 2) (aCons (eCall fr__law_put (aCons (eVar 3) (aCons (eVar 1) aNil))) aNil)))
theorem zL0__law_put {n : Nat} {fr__law_put : List PV → M PV} {ρ : Rho} {st : Sto} {Q : Fl → Sto → Prop} {E : Exn → Sto → Prop} : Z (L0__law_put n fr__law_put ρ st) Q E = Z ((sDrop (eMeth "list" appendM (eVar 2) (aCons (eCall fr__law_put (aCons (eVar 3) (aCons (eVar 1) aNil))) aNil))) ρ st) Q E := by unfold L0__law_put; rfl
noncomputable def b__law_put (n : Nat) (fr__law_put : List PV → M PV) : Rho → M Fl :=
  (sSeq (sIf (eB (eCall isiM (aCons (eVar 0) (aCons (eC (.ty "int")) aNil)))) (sRet (eVar 0)) sNext)
  (sSeq (sIf (eB (eCall isiM (aCons (eBin ixM (eVar 0) (eC (.int 0))) (aCons (eC (.ty "int")) aNil)))) (sRet (eBin ixM (eVar 1) (eVar 0))) sNext)
  (sSeq (sSet 2 (eCall mkLstN (aCons (eBin ixM (eVar 0) (eC (.int 0))) aNil)))
  (sSeq (sForA (iAny (eSl slM (eVar 0) (oSome (eC (.int 1))) oNone)) (gN 3) (L0__law_put n fr__law_put))
  (sRet (eCall tupleM (aCons (eVar 2) aNil)))))))
noncomputable def G__law_put (n : Nat) : Nat → List PV → M PV
  | 0 => fun _ => M.fail
  | d + 1 => runB (b__law_put n (G__law_put n d)) 4
@[irreducible] noncomputable def F__law_put (n d : Nat) : List PV → M PV := G__law_put n d
theorem z__law_put {n d : Nat} {p0 p1 : PV} {st : Sto} {Q : PV → Sto → Prop} {E : Exn → Sto → Prop} : Z (F__law_put n (d + 1) [p0, p1] st) Q E = Z (b__law_put n (F__law_put n d) [some p0, some p1, none, none] st) (runQ Q E) E0 := by unfold F__law_put; exact Z_run rfl
noncomputable def b__law_rises (n : Nat) : Rho → M Fl :=
  (sRet (eCall (allM false) (aCons (eLc lcV (iCall range1 (aCons (eBin subV (eCall lenM (aCons (eVar 0) aNil)) (eC (.int 1))) aNil)) (gN 1) tYesM (eCall (F__law_before n) (aCons (eBin ixM (eVar 0) (eVar 1)) (aCons (eBin ixM (eVar 0) (eBin addV (eVar 1) (eC (.int 1)))) aNil))) [1]) aNil)))
@[irreducible] noncomputable def F__law_rises (n : Nat) : List PV → M PV := runB (b__law_rises n) 2
theorem z__law_rises {n : Nat} {p0 : PV} {st : Sto} {Q : PV → Sto → Prop} {E : Exn → Sto → Prop} : Z (F__law_rises n [p0] st) Q E = Z (b__law_rises n [some p0, none] st) (runQ Q E) E0 := by unfold F__law_rises; exact Z_run rfl
noncomputable def L1_law (n : Nat) : Rho → M Fl :=
  (sAsg (eCall (F__law_term n 20) (aCons (eCall (F__law_box n) (aCons (eVar 0) (aCons (eBin addV (eBin addV (eBin mulV (eC (.int 7)) (eVar 1)) (eC (.int 1))) (eBin modV (eVar 7) (eC (.int 6)))) aNil))) (aCons (eBin ixM (eBin ixM (eBin ixM (eVar 4) (eVar 7)) (eC (.int 1))) (eC (.int 0))) (aCons (eC (.int 2)) aNil)))) (gSubM (eVar 6) (eBin ixM (eVar 4) (eVar 7))))
noncomputable def L0_law (n : Nat) : Rho → M Fl :=
  (sSeq (sSet 2 (eCall (F__law_box n) (aCons (eVar 0) (aCons (eBin mulV (eC (.int 7)) (eVar 1)) aNil))))
  (sSeq (sSet 3 (eCall (F__law_term n 20) (aCons (eVar 2) (aCons (eBin ixM (eCall mkLst (aCons (eC (.str [110])) (aCons (eC (.str [114])) aNil))) (eCall (F__law_take n) (aCons (eVar 2) (aCons (eC (.int 2)) aNil)))) (aCons (eC (.int 3)) aNil)))))
  (sSeq (sSet 4 (eCall (F__law_names n 20) (aCons (eVar 3) aNil)))
  (sSeq (sSet 5 (eCall (F_names_in n 20) (aCons (eVar 3) aNil)))
  (sSeq (sIf (tOrM (tNotM (eB (eCall isiM (aCons (eVar 5) (aCons (eC (.ty "list")) aNil))))) (tOrM (eB (eBin neM (eCall lenM (aCons (eVar 5) aNil)) (eCall lenM (aCons (eVar 4) aNil)))) (tNotM (eB (eCall (F__law_rises n) (aCons (eVar 5) aNil)))))) (sRet (eC (.bl false))) sNext)
  (sSeq (sIf (tNotM (eB (eCall (allM false) (aCons (eLcA lcV (iAny (eVar 5)) (gN 8) tYesM (eAndV (eBin (inDM false) (eVar 8) (eVar 4)) (eCall isiM (aCons (eVar 8) (aCons (eC (.ty "tuple")) aNil)))) [8]) aNil)))) (sRet (eC (.bl false))) sNext)
  (sSeq (sDrop (eMeth "list" appendM (eVar 5) (aCons (eC (.int 5)) aNil)))
  (sSeq (sSet 6 eDcn0)
  (sSeq (sFor (iCall range1 (aCons (eCall lenM (aCons (eVar 4) aNil)) aNil)) (gN 7) (L1_law n))
  (sIf (tOrM (eB (eBin neM (eCall (F_put_in n 20) (aCons (eVar 3) (aCons (eVar 6) aNil))) (eCall (F__law_put n 20) (aCons (eVar 3) (aCons (eVar 6) aNil))))) (eB (eBin (inDM false) (eC (.int 5)) (eCall (F_names_in n 20) (aCons (eVar 3) aNil))))) (sRet (eC (.bl false))) sNext))))))))))
theorem zL0_law {n : Nat} {ρ : Rho} {st : Sto} {Q : Fl → Sto → Prop} {E : Exn → Sto → Prop} : Z (L0_law n ρ st) Q E = Z ((sSeq (sSet 2 (eCall (F__law_box n) (aCons (eVar 0) (aCons (eBin mulV (eC (.int 7)) (eVar 1)) aNil))))   (sSeq (sSet 3 (eCall (F__law_term n 20) (aCons (eVar 2) (aCons (eBin ixM (eCall mkLst (aCons (eC (.str [110])) (aCons (eC (.str [114])) aNil))) (eCall (F__law_take n) (aCons (eVar 2) (aCons (eC (.int 2)) aNil)))) (aCons (eC (.int 3)) aNil)))))   (sSeq (sSet 4 (eCall (F__law_names n 20) (aCons (eVar 3) aNil)))   (sSeq (sSet 5 (eCall (F_names_in n 20) (aCons (eVar 3) aNil)))   (sSeq (sIf (tOrM (tNotM (eB (eCall isiM (aCons (eVar 5) (aCons (eC (.ty "list")) aNil))))) (tOrM (eB (eBin neM (eCall lenM (aCons (eVar 5) aNil)) (eCall lenM (aCons (eVar 4) aNil)))) (tNotM (eB (eCall (F__law_rises n) (aCons (eVar 5) aNil)))))) (sRet (eC (.bl false))) sNext)   (sSeq (sIf (tNotM (eB (eCall (allM false) (aCons (eLcA lcV (iAny (eVar 5)) (gN 8) tYesM (eAndV (eBin (inDM false) (eVar 8) (eVar 4)) (eCall isiM (aCons (eVar 8) (aCons (eC (.ty "tuple")) aNil)))) [8]) aNil)))) (sRet (eC (.bl false))) sNext)   (sSeq (sDrop (eMeth "list" appendM (eVar 5) (aCons (eC (.int 5)) aNil)))   (sSeq (sSet 6 eDcn0)   (sSeq (sFor (iCall range1 (aCons (eCall lenM (aCons (eVar 4) aNil)) aNil)) (gN 7) (L1_law n))   (sIf (tOrM (eB (eBin neM (eCall (F_put_in n 20) (aCons (eVar 3) (aCons (eVar 6) aNil))) (eCall (F__law_put n 20) (aCons (eVar 3) (aCons (eVar 6) aNil))))) (eB (eBin (inDM false) (eC (.int 5)) (eCall (F_names_in n 20) (aCons (eVar 3) aNil))))) (sRet (eC (.bl false))) sNext)))))))))) ρ st) Q E := by unfold L0_law; rfl
theorem zL1_law {n : Nat} {ρ : Rho} {st : Sto} {Q : Fl → Sto → Prop} {E : Exn → Sto → Prop} : Z (L1_law n ρ st) Q E = Z ((sAsg (eCall (F__law_term n 20) (aCons (eCall (F__law_box n) (aCons (eVar 0) (aCons (eBin addV (eBin addV (eBin mulV (eC (.int 7)) (eVar 1)) (eC (.int 1))) (eBin modV (eVar 7) (eC (.int 6)))) aNil))) (aCons (eBin ixM (eBin ixM (eBin ixM (eVar 4) (eVar 7)) (eC (.int 1))) (eC (.int 0))) (aCons (eC (.int 2)) aNil)))) (gSubM (eVar 6) (eBin ixM (eVar 4) (eVar 7)))) ρ st) Q E := by unfold L1_law; rfl
noncomputable def b_law (n : Nat) : Rho → M Fl :=
  (sSeq (sFor (iCall range1 (aCons (eC (.int 8)) aNil)) (gN 1) (L0_law n))
  (sRet (eC (.bl true))))
@[irreducible] noncomputable def F_law (n : Nat) : List PV → M PV := runB (b_law n) 9
theorem z_law {n : Nat} {p0 : PV} {st : Sto} {Q : PV → Sto → Prop} {E : Exn → Sto → Prop} : Z (F_law n [p0] st) Q E = Z (b_law n [some p0, none, none, none, none, none, none, none, none] st) (runQ Q E) E0 := by unfold F_law; exact Z_run rfl
end K55

set_option maxRecDepth 100000
namespace K55
open PySem L2 MP
noncomputable def topS (i : Nat) : Stmt := PySem.Challenge.pw_samepaper_k55_terms_put.main.body.getD i (.Pass ⟨0, 0, 0, 0⟩)
noncomputable abbrev s_names_in : Stmt := topS 1
noncomputable abbrev s_put_in : Stmt := topS 2
noncomputable abbrev s__law_box : Stmt := topS 4
noncomputable abbrev s__law_take : Stmt := topS 5
noncomputable abbrev s__law_leaf : Stmt := topS 6
noncomputable abbrev s__law_term : Stmt := topS 7
noncomputable abbrev s__law_names : Stmt := topS 8
noncomputable abbrev s__law_before : Stmt := topS 9
noncomputable abbrev s__law_put : Stmt := topS 10
noncomputable abbrev s__law_rises : Stmt := topS 11
noncomputable abbrev s_law : Stmt := topS 12
set_option genInjectivity false in
structure Adr where
  a_names_in : Addr
  d_names_in : FuncData
  a_put_in : Addr
  d_put_in : FuncData
  a__law_box : Addr
  d__law_box : FuncData
  a__law_take : Addr
  d__law_take : FuncData
  a__law_leaf : Addr
  d__law_leaf : FuncData
  a__law_term : Addr
  d__law_term : FuncData
  a__law_names : Addr
  d__law_names : FuncData
  a__law_before : Addr
  d__law_before : FuncData
  a__law_put : Addr
  d__law_put : FuncData
  a__law_rises : Addr
  d__law_rises : FuncData
  a_law : Addr
  d_law : FuncData
structure Txt (w : World) (K : PySem.W.Frag) (mg : Str → Option Value) (A : Adr) : Prop where
  f_names_in : Fun K "names_in" "names_in" s_names_in A.a_names_in A.d_names_in
  m_names_in : mg "names_in" = some (.ref A.a_names_in)
  b_names_in : Binds K A.d_names_in ["term"] []
  f_put_in : Fun K "put_in" "put_in" s_put_in A.a_put_in A.d_put_in
  m_put_in : mg "put_in" = some (.ref A.a_put_in)
  b_put_in : Binds K A.d_put_in ["term", "terms"] []
  f__law_box : Fun K "_law_box" "_law_box" s__law_box A.a__law_box A.d__law_box
  m__law_box : mg "_law_box" = some (.ref A.a__law_box)
  b__law_box : Binds K A.d__law_box ["_law_script", "_law_k"] []
  f__law_take : Fun K "_law_take" "_law_take" s__law_take A.a__law_take A.d__law_take
  m__law_take : mg "_law_take" = some (.ref A.a__law_take)
  b__law_take : Binds K A.d__law_take ["_law_box_here", "_law_many"] []
  f__law_leaf : Fun K "_law_leaf" "_law_leaf" s__law_leaf A.a__law_leaf A.d__law_leaf
  m__law_leaf : mg "_law_leaf" = some (.ref A.a__law_leaf)
  b__law_leaf : Binds K A.d__law_leaf ["_law_box_here", "_law_kind"] []
  f__law_term : Fun K "_law_term" "_law_term" s__law_term A.a__law_term A.d__law_term
  m__law_term : mg "_law_term" = some (.ref A.a__law_term)
  b__law_term : Binds K A.d__law_term ["_law_box_here", "_law_kind", "_law_deep"] []
  f__law_names : Fun K "_law_names" "_law_names" s__law_names A.a__law_names A.d__law_names
  m__law_names : mg "_law_names" = some (.ref A.a__law_names)
  b__law_names : Binds K A.d__law_names ["_law_term_here"] []
  f__law_before : Fun K "_law_before" "_law_before" s__law_before A.a__law_before A.d__law_before
  m__law_before : mg "_law_before" = some (.ref A.a__law_before)
  b__law_before : Binds K A.d__law_before ["_law_one", "_law_other"] []
  f__law_put : Fun K "_law_put" "_law_put" s__law_put A.a__law_put A.d__law_put
  m__law_put : mg "_law_put" = some (.ref A.a__law_put)
  b__law_put : Binds K A.d__law_put ["_law_term_here", "_law_terms"] []
  f__law_rises : Fun K "_law_rises" "_law_rises" s__law_rises A.a__law_rises A.d__law_rises
  m__law_rises : mg "_law_rises" = some (.ref A.a__law_rises)
  b__law_rises : Binds K A.d__law_rises ["_law_found"] []
  f_law : Fun K "law" "law" s_law A.a_law A.d_law
  m_law : mg "law" = some (.ref A.a_law)
  b_law : Binds K A.d_law ["_law_script"] []
  z_isinstance : mg "isinstance" = none
  z_tuple : mg "tuple" = none
  z_int : mg "int" = none
  z_sorted : mg "sorted" = none
  z_set : mg "set" = none
  z_len : mg "len" = none
  z_all : mg "all" = none
  z_range : mg "range" = none
  z_list : mg "list" = none
section
variable {P : Program} {w : World} {K : PySem.W.Frag} {mg : Str → Option Value} {base : Heap} {A : Adr}
theorem sc_names_in : FnScope ["term", "found", "part"] ["term"] (defScope s_names_in) := ⟨by kernel_rfl, by kernel_rfl, by kernel_rfl, by decide +kernel, by kernel_rfl, by decide +kernel, by decide +kernel⟩
set_option maxHeartbeats 4000000 in
theorem st_names_in (T : Txt w K mg A) (n d : Nat) (rc_names_in : FnOk P w K mg base (L2.CX P w) (0 + d) A.a_names_in A.d_names_in ["term"] (spM ⟨w, K⟩ (F_names_in n d) 1)) : FnOk P w K mg base (L2.CX P w) (0 + (d + 1)) A.a_names_in A.d_names_in ["term"] (spM ⟨w, K⟩ (F_names_in n (d + 1)) 1) :=
  def_okF ["term", "found", "part"] ["term"] (b_names_in n (F_names_in n d)) (k := 0 + d) (kk := 3) (nn := 1) (g := F_names_in n (d + 1)) (by unfold F_names_in; first | rfl | rw [G_names_in]) (by kernel_rfl) (by kernel_rfl) T.f_names_in sc_names_in fun cdv Ar outer s H E hr => by
  have hu := hr.units
  have tk : Takes (cxOf (L2.CX P w) P w K mg base ["term", "found", "part"] "names_in" (defScope s_names_in) A.a_names_in cdv Ar outer s H E) (fun c d _ H => E c d H) := takes_of rfl rfl rfl rfl
  exact (mss_cons (ms_if (mt_not (mt_val (me_isinst (gl_of (by kernel_rfl)) T.z_isinstance (ma_cons (me_var 0 (hv := Or.inl (by kernel_rfl))) (ma_cons (me_ty (gl_of (by kernel_rfl)) T.z_tuple (by decide +kernel)) ma_nil))))) (mss_one (ms_ret (me_lstN ma_nil))) mss_nil)
  (mss_cons (ms_if (mt_val (me_isinst (gl_of (by kernel_rfl)) T.z_isinstance (ma_cons (me_sub_ix hu (me_var 0 (hv := Or.inl (by kernel_rfl))) me_int (fun _ _ => by kernel_rfl)) (ma_cons (me_ty (gl_of (by kernel_rfl)) T.z_int (by decide +kernel)) ma_nil)))) (mss_one (ms_ret (me_lstN (ma_cons (me_var 0 (hv := Or.inl (by kernel_rfl))) ma_nil)))) mss_nil)
  (mss_cons (ms_s (i := 1) (hx := Or.inl (by kernel_rfl)) (hf := Or.inr (by kernel_rfl)) sc_names_in.nd (me_lstN ma_nil))
  (mss_cons (ms_forA (passes_of rfl) rfl (mig_any (me_slice (me_var 0 (hv := Or.inl (by kernel_rfl))) (mo_some me_int) mo_none)) (mg_n (i := 2) (hx := Or.inl (by kernel_rfl)) (hf := Or.inr (by kernel_rfl)) sc_names_in.nd) (mss_one (ms_expr (me_extendA (me_var 1 (hv := Or.inl (by kernel_rfl))) (ma_cons (me_call (rc_names_in) (hr.mono (by omega)) (gl_of (by kernel_rfl)) T.m_names_in T.f_names_in.kp T.b_names_in tk (ma_cons (me_var 2 (hv := Or.inl (by kernel_rfl))) ma_nil) (aLen_cons aLen_nil)) ma_nil)))))
  (mss_one (ms_ret (me_sortSetPN hu rfl (gl_of (by kernel_rfl)) T.z_sorted (gl_of (by kernel_rfl)) T.z_set (me_var 1 (hv := Or.inl (by kernel_rfl))))))))))
theorem all_names_in (T : Txt w K mg A) (n : Nat) : ∀ d : Nat, FnOk P w K mg base (L2.CX P w) (0 + d) A.a_names_in A.d_names_in ["term"] (spM ⟨w, K⟩ (F_names_in n d) 1)
  | 0 => (by unfold F_names_in; first | exact fnOk_no | (rw [G_names_in]; exact fnOk_no))
  | d + 1 => st_names_in T n d (all_names_in T n d)
theorem ok_names_in (T : Txt w K mg A) (n d : Nat) : FnOk P w K mg base (L2.CX P w) (0 + d) A.a_names_in A.d_names_in ["term"] (spM ⟨w, K⟩ (F_names_in n d) 1) := (all_names_in T n d)
theorem sc_put_in : FnScope ["term", "terms", "part"] ["term", "terms"] (defScope s_put_in) := ⟨by kernel_rfl, by kernel_rfl, by kernel_rfl, by decide +kernel, by kernel_rfl, by decide +kernel, by decide +kernel⟩
set_option maxHeartbeats 4000000 in
theorem st_put_in (T : Txt w K mg A) (n d : Nat) (rc_put_in : FnOk P w K mg base (L2.CX P w) (0 + d) A.a_put_in A.d_put_in ["term", "terms"] (spM ⟨w, K⟩ (F_put_in n d) 2)) : FnOk P w K mg base (L2.CX P w) (0 + (d + 1)) A.a_put_in A.d_put_in ["term", "terms"] (spM ⟨w, K⟩ (F_put_in n (d + 1)) 2) :=
  def_okF ["term", "terms", "part"] ["term", "terms"] (b_put_in n (F_put_in n d)) (k := 0 + d) (kk := 3) (nn := 2) (g := F_put_in n (d + 1)) (by unfold F_put_in; first | rfl | rw [G_put_in]) (by kernel_rfl) (by kernel_rfl) T.f_put_in sc_put_in fun cdv Ar outer s H E hr => by
  have hu := hr.units
  have tk : Takes (cxOf (L2.CX P w) P w K mg base ["term", "terms", "part"] "put_in" (defScope s_put_in) A.a_put_in cdv Ar outer s H E) (fun c d _ H => E c d H) := takes_of rfl rfl rfl rfl
  exact (mss_cons (ms_if (mt_not (mt_val (me_isinst (gl_of (by kernel_rfl)) T.z_isinstance (ma_cons (me_var 0 (hv := Or.inl (by kernel_rfl))) (ma_cons (me_ty (gl_of (by kernel_rfl)) T.z_tuple (by decide +kernel)) ma_nil))))) (mss_one (ms_ret (me_var 0 (hv := Or.inl (by kernel_rfl))))) mss_nil)
  (mss_cons (ms_if (mt_val (me_isinst (gl_of (by kernel_rfl)) T.z_isinstance (ma_cons (me_sub_ix hu (me_var 0 (hv := Or.inl (by kernel_rfl))) me_int (fun _ _ => by kernel_rfl)) (ma_cons (me_ty (gl_of (by kernel_rfl)) T.z_int (by decide +kernel)) ma_nil)))) (mss_one (ms_ret (me_sub_ix hu (me_var 1 (hv := Or.inr (Or.inl (by kernel_rfl)))) (me_var 0 (hv := Or.inl (by kernel_rfl))) (fun _ _ => by kernel_rfl)))) mss_nil)
  (mss_one (ms_ret (me_add (me_tup (ma_cons (me_sub_ix hu (me_var 0 (hv := Or.inl (by kernel_rfl))) me_int (fun _ _ => by kernel_rfl)) ma_nil)) (me_tupleOf (gl_of (by kernel_rfl)) T.z_tuple (ma_cons (me_lcA (own := [("part", 2)]) rfl sc_put_in.nd (mig_any (me_slice (me_var 0 (hv := Or.inl (by kernel_rfl))) (mo_some me_int) mo_none)) (blkOk_by (by kernel_rfl)) (tgo_name (by decide)) lcV_end (fun _ _ _ _ _ => (pg_n (i := 2) (hx := Or.inl (by kernel_rfl)) (hf := Or.inr (by kernel_rfl)) sc_put_in.nd)) (fun _ _ _ _ _ => mts_nil) (fun _ _ _ _ _ => (me_call (rc_put_in) (hr.mono (by omega)) (gl_of (by kernel_rfl)) T.m_put_in T.f_put_in.kp T.b_put_in takes0 (ma_cons (me_var 2 (hv := Or.inl (by kernel_rfl))) (ma_cons (me_var 1 (hv := Or.inr (Or.inl (by kernel_rfl)))) ma_nil)) (aLen_cons (aLen_cons aLen_nil))))) ma_nil)))))))
theorem all_put_in (T : Txt w K mg A) (n : Nat) : ∀ d : Nat, FnOk P w K mg base (L2.CX P w) (0 + d) A.a_put_in A.d_put_in ["term", "terms"] (spM ⟨w, K⟩ (F_put_in n d) 2)
  | 0 => (by unfold F_put_in; first | exact fnOk_no | (rw [G_put_in]; exact fnOk_no))
  | d + 1 => st_put_in T n d (all_put_in T n d)
theorem ok_put_in (T : Txt w K mg A) (n d : Nat) : FnOk P w K mg base (L2.CX P w) (0 + d) A.a_put_in A.d_put_in ["term", "terms"] (spM ⟨w, K⟩ (F_put_in n d) 2) := (all_put_in T n d)
theorem sc__law_box : FnScope ["_law_script", "_law_k", "_law_cell"] ["_law_script", "_law_k"] (defScope s__law_box) := ⟨by kernel_rfl, by kernel_rfl, by kernel_rfl, by decide +kernel, by kernel_rfl, by decide +kernel, by decide +kernel⟩
set_option maxHeartbeats 4000000 in
theorem ok__law_box (T : Txt w K mg A) (n : Nat) : FnOk P w K mg base (L2.CX P w) 1 A.a__law_box A.d__law_box ["_law_script", "_law_k"] (spM ⟨w, K⟩ (F__law_box n) 2) :=
  def_okF ["_law_script", "_law_k", "_law_cell"] ["_law_script", "_law_k"] (b__law_box n) (k := 0) (kk := 3) (nn := 2) (g := F__law_box n) (by kernel_rfl) (by kernel_rfl) (by kernel_rfl) T.f__law_box sc__law_box fun cdv Ar outer s H E hr => by
  have hu := hr.units
  have tk : Takes (cxOf (L2.CX P w) P w K mg base ["_law_script", "_law_k", "_law_cell"] "_law_box" (defScope s__law_box) A.a__law_box cdv Ar outer s H E) (fun c d _ H => E c d H) := takes_of rfl rfl rfl rfl
  exact (mss_cons (ms_s (i := 2) (hx := Or.inl (by kernel_rfl)) (hf := Or.inr (by kernel_rfl)) sc__law_box.nd (me_mul me_int (me_var 1 (hv := Or.inl (by kernel_rfl)))))
  (mss_cons (ms_if (mt_gt (me_len (gl_of (by kernel_rfl)) T.z_len (ma_cons (me_var 0 (hv := Or.inl (by kernel_rfl))) ma_nil)) me_int) (mss_one (ms_s (i := 2) (hx := Or.inl (by kernel_rfl)) (hf := Or.inr (by kernel_rfl)) sc__law_box.nd (me_add (me_sub_ix hu (me_var 0 (hv := Or.inl (by kernel_rfl))) (me_mod (me_var 1 (hv := Or.inl (by kernel_rfl))) (me_len (gl_of (by kernel_rfl)) T.z_len (ma_cons (me_var 0 (hv := Or.inl (by kernel_rfl))) ma_nil))) (fun _ _ => by kernel_rfl)) (me_mul me_int (me_fdiv (me_var 1 (hv := Or.inl (by kernel_rfl))) (me_len (gl_of (by kernel_rfl)) T.z_len (ma_cons (me_var 0 (hv := Or.inl (by kernel_rfl))) ma_nil))))))) mss_nil)
  (mss_one (ms_ret (me_lstN (ma_cons (me_fdiv (me_var 2 (hv := Or.inl (by kernel_rfl))) me_int) (ma_cons (me_mod (me_var 2 (hv := Or.inl (by kernel_rfl))) me_int) (ma_cons me_int (ma_cons (me_var 2 (hv := Or.inl (by kernel_rfl))) ma_nil)))))))))
theorem sc__law_take : FnScope ["_law_box_here", "_law_many", "_law_found", "_law_mixed"] ["_law_box_here", "_law_many"] (defScope s__law_take) := ⟨by kernel_rfl, by kernel_rfl, by kernel_rfl, by decide +kernel, by kernel_rfl, by decide +kernel, by decide +kernel⟩
set_option maxHeartbeats 4000000 in
theorem ok__law_take (T : Txt w K mg A) (n : Nat) : FnOk P w K mg base (L2.CX P w) 1 A.a__law_take A.d__law_take ["_law_box_here", "_law_many"] (spM ⟨w, K⟩ (F__law_take n) 2) :=
  def_okF ["_law_box_here", "_law_many", "_law_found", "_law_mixed"] ["_law_box_here", "_law_many"] (b__law_take n) (k := 0) (kk := 4) (nn := 2) (g := F__law_take n) (by kernel_rfl) (by kernel_rfl) (by kernel_rfl) T.f__law_take sc__law_take fun cdv Ar outer s H E hr => by
  have hu := hr.units
  have tk : Takes (cxOf (L2.CX P w) P w K mg base ["_law_box_here", "_law_many", "_law_found", "_law_mixed"] "_law_take" (defScope s__law_take) A.a__law_take cdv Ar outer s H E) (fun c d _ H => E c d H) := takes_of rfl rfl rfl rfl
  exact (mss_cons (ms_asg (me_add (me_sub_ix hu (me_var 0 (hv := Or.inl (by kernel_rfl))) me_int (fun _ _ => by kernel_rfl)) me_int) (mg_sub hu (me_var 0 (hv := Or.inl (by kernel_rfl))) me_int))
  (mss_cons (ms_if (mt_of (mw_and (mt_eq hr.units (me_sub_ix hu (me_var 0 (hv := Or.inl (by kernel_rfl))) me_int (fun _ _ => by kernel_rfl)) me_int) (mw_and (mt_notin hu (me_sub_ix hu (me_var 0 (hv := Or.inl (by kernel_rfl))) me_int (fun _ _ => by kernel_rfl)) (me_tup (ma_cons me_int (ma_cons (me_neg me_int) ma_nil))) (by kernel_rfl)) (mw_and1 (mt_lt (me_sub_ix hu (me_var 0 (hv := Or.inl (by kernel_rfl))) me_int (fun _ _ => by kernel_rfl)) me_int))))) (mss_cons (ms_s (i := 2) (hx := Or.inl (by kernel_rfl)) (hf := Or.inr (by kernel_rfl)) sc__law_take.nd (me_mod (me_sub_ix hu (me_var 0 (hv := Or.inl (by kernel_rfl))) me_int (fun _ _ => by kernel_rfl)) (me_var 1 (hv := Or.inl (by kernel_rfl)))))
  (mss_cons (ms_asg (me_fdiv (me_sub_ix hu (me_var 0 (hv := Or.inl (by kernel_rfl))) me_int (fun _ _ => by kernel_rfl)) (me_var 1 (hv := Or.inl (by kernel_rfl)))) (mg_sub hu (me_var 0 (hv := Or.inl (by kernel_rfl))) me_int))
  (mss_one (ms_ret (me_var 2 (hv := Or.inl (by kernel_rfl))))))) mss_nil)
  (mss_cons (ms_s (i := 3) (hx := Or.inl (by kernel_rfl)) (hf := Or.inr (by kernel_rfl)) sc__law_take.nd (me_mod (me_mul (me_add (me_mod (me_sub_ix hu (me_var 0 (hv := Or.inl (by kernel_rfl))) me_int (fun _ _ => by kernel_rfl)) me_int) (me_mul me_int (me_sub_ix hu (me_var 0 (hv := Or.inl (by kernel_rfl))) me_int (fun _ _ => by kernel_rfl)))) me_int) me_int))
  (mss_cons (ms_s (i := 3) (hx := Or.inl (by kernel_rfl)) (hf := Or.inr (by kernel_rfl)) sc__law_take.nd (me_mod (me_mul (me_add (me_fdiv (me_var 3 (hv := Or.inl (by kernel_rfl))) me_int) (me_mul me_int (me_sub_ix hu (me_var 0 (hv := Or.inl (by kernel_rfl))) me_int (fun _ _ => by kernel_rfl)))) me_int) me_int))
  (mss_one (ms_ret (me_mod (me_fdiv (me_var 3 (hv := Or.inl (by kernel_rfl))) me_int) (me_var 1 (hv := Or.inl (by kernel_rfl))))))))))
theorem sc__law_leaf : FnScope ["_law_box_here", "_law_kind"] ["_law_box_here", "_law_kind"] (defScope s__law_leaf) := ⟨by kernel_rfl, by kernel_rfl, by kernel_rfl, by decide +kernel, by kernel_rfl, by decide +kernel, by decide +kernel⟩
set_option maxHeartbeats 4000000 in
theorem ok__law_leaf (T : Txt w K mg A) (n : Nat) : FnOk P w K mg base (L2.CX P w) 2 A.a__law_leaf A.d__law_leaf ["_law_box_here", "_law_kind"] (spM ⟨w, K⟩ (F__law_leaf n) 2) :=
  def_okF ["_law_box_here", "_law_kind"] ["_law_box_here", "_law_kind"] (b__law_leaf n) (k := 1) (kk := 2) (nn := 2) (g := F__law_leaf n) (by kernel_rfl) (by kernel_rfl) (by kernel_rfl) T.f__law_leaf sc__law_leaf fun cdv Ar outer s H E hr => by
  have hu := hr.units
  have tk : Takes (cxOf (L2.CX P w) P w K mg base ["_law_box_here", "_law_kind"] "_law_leaf" (defScope s__law_leaf) A.a__law_leaf cdv Ar outer s H E) (fun c d _ H => E c d H) := takes_of rfl rfl rfl rfl
  exact (mss_cons (ms_if (mt_of (mw_and (mt_eq hr.units (me_var 1 (hv := Or.inl (by kernel_rfl))) (me_str [110] (by decide +kernel))) (mw_and1 (mt_eq hr.units (me_call (ok__law_take T n) (hr.mono (by decide)) (gl_of (by kernel_rfl)) T.m__law_take T.f__law_take.kp T.b__law_take tk (ma_cons (me_var 0 (hv := Or.inl (by kernel_rfl))) (ma_cons me_int ma_nil)) (aLen_cons (aLen_cons aLen_nil))) me_int)))) (mss_one (ms_ret (me_sub_ix hu (me_lst (ma_cons me_int (ma_cons me_int (ma_cons (me_neg me_int) (ma_cons me_int (ma_cons me_int (ma_cons (me_neg me_int) ma_nil))))))) (me_call (ok__law_take T n) (hr.mono (by decide)) (gl_of (by kernel_rfl)) T.m__law_take T.f__law_take.kp T.b__law_take tk (ma_cons (me_var 0 (hv := Or.inl (by kernel_rfl))) (ma_cons me_int ma_nil)) (aLen_cons (aLen_cons aLen_nil))) (fun _ _ => by kernel_rfl)))) mss_nil)
  (mss_one (ms_ret (me_tup (ma_cons (me_call (ok__law_take T n) (hr.mono (by decide)) (gl_of (by kernel_rfl)) T.m__law_take T.f__law_take.kp T.b__law_take tk (ma_cons (me_var 0 (hv := Or.inl (by kernel_rfl))) (ma_cons me_int ma_nil)) (aLen_cons (aLen_cons aLen_nil))) (ma_cons (me_add (me_var 1 (hv := Or.inl (by kernel_rfl))) (me_sub_ix hu (me_lst (ma_cons (me_str [48] (by decide +kernel)) (ma_cons (me_str [49] (by decide +kernel)) (ma_cons (me_str [55] (by decide +kernel)) (ma_cons (me_str [49, 50] (by decide +kernel)) (ma_cons (me_str [51, 52, 53] (by decide +kernel)) ma_nil)))))) (me_call (ok__law_take T n) (hr.mono (by decide)) (gl_of (by kernel_rfl)) T.m__law_take T.f__law_take.kp T.b__law_take tk (ma_cons (me_var 0 (hv := Or.inl (by kernel_rfl))) (ma_cons me_int ma_nil)) (aLen_cons (aLen_cons aLen_nil))) (fun _ _ => by kernel_rfl))) ma_nil))))))
theorem sc__law_term : FnScope ["_law_box_here", "_law_kind", "_law_deep", "_law_some", "_law_op", "_law_kinds", "_law_one"] ["_law_box_here", "_law_kind", "_law_deep"] (defScope s__law_term) := ⟨by kernel_rfl, by kernel_rfl, by kernel_rfl, by decide +kernel, by kernel_rfl, by decide +kernel, by decide +kernel⟩
set_option maxHeartbeats 4000000 in
theorem st__law_term (T : Txt w K mg A) (n d : Nat) (rc__law_term : FnOk P w K mg base (L2.CX P w) (2 + d) A.a__law_term A.d__law_term ["_law_box_here", "_law_kind", "_law_deep"] (spM ⟨w, K⟩ (F__law_term n d) 3)) : FnOk P w K mg base (L2.CX P w) (2 + (d + 1)) A.a__law_term A.d__law_term ["_law_box_here", "_law_kind", "_law_deep"] (spM ⟨w, K⟩ (F__law_term n (d + 1)) 3) :=
  def_okF ["_law_box_here", "_law_kind", "_law_deep", "_law_some", "_law_op", "_law_kinds", "_law_one"] ["_law_box_here", "_law_kind", "_law_deep"] (b__law_term n (F__law_term n d)) (k := 2 + d) (kk := 7) (nn := 3) (g := F__law_term n (d + 1)) (by unfold F__law_term; first | rfl | rw [G__law_term]) (by kernel_rfl) (by kernel_rfl) T.f__law_term sc__law_term fun cdv Ar outer s H E hr => by
  have hu := hr.units
  have tk : Takes (cxOf (L2.CX P w) P w K mg base ["_law_box_here", "_law_kind", "_law_deep", "_law_some", "_law_op", "_law_kinds", "_law_one"] "_law_term" (defScope s__law_term) A.a__law_term cdv Ar outer s H E) (fun c d _ H => E c d H) := takes_of rfl rfl rfl rfl
  exact (mss_cons (ms_if (mt_of (mw_or (mt_eq hr.units (me_var 2 (hv := Or.inr (Or.inl (by kernel_rfl)))) me_int) (mw_or1 (mt_eq hr.units (me_call (ok__law_take T n) (hr.mono (by omega)) (gl_of (by kernel_rfl)) T.m__law_take T.f__law_take.kp T.b__law_take tk (ma_cons (me_var 0 (hv := Or.inr (Or.inl (by kernel_rfl)))) (ma_cons me_int ma_nil)) (aLen_cons (aLen_cons aLen_nil))) me_int)))) (mss_one (ms_ret (me_call (ok__law_leaf T n) (hr.mono (by omega)) (gl_of (by kernel_rfl)) T.m__law_leaf T.f__law_leaf.kp T.b__law_leaf tk (ma_cons (me_var 0 (hv := Or.inr (Or.inl (by kernel_rfl)))) (ma_cons (me_var 1 (hv := Or.inl (by kernel_rfl))) ma_nil)) (aLen_cons (aLen_cons aLen_nil))))) mss_nil)
  (mss_cons (ms_s (i := 3) (hx := Or.inl (by kernel_rfl)) (hf := Or.inr (by kernel_rfl)) sc__law_term.nd (me_lst (ma_cons (me_tup (ma_cons (me_str [97, 100, 100] (by decide +kernel)) (ma_cons (me_str [110, 110] (by decide +kernel)) ma_nil))) (ma_cons (me_tup (ma_cons (me_str [112, 105, 99, 107] (by decide +kernel)) (ma_cons (me_str [110, 110, 110] (by decide +kernel)) ma_nil))) (ma_cons (me_tup (ma_cons (me_str [97, 116] (by decide +kernel)) (ma_cons (me_str [114, 110] (by decide +kernel)) ma_nil))) (ma_cons (me_tup (ma_cons (me_str [115, 105, 122, 101] (by decide +kernel)) (ma_cons (me_str [114] (by decide +kernel)) ma_nil))) (ma_cons (me_tup (ma_cons (me_str [99, 111, 112, 121] (by decide +kernel)) (ma_cons (me_str [110] (by decide +kernel)) ma_nil))) (ma_cons (me_tup (ma_cons (me_str [115, 97, 109, 101] (by decide +kernel)) (ma_cons (me_str [110, 110] (by decide +kernel)) ma_nil))) ma_nil))))))))
  (mss_cons (ms_if (mt_eq hr.units (me_var 1 (hv := Or.inl (by kernel_rfl))) (me_str [114] (by decide +kernel))) (mss_one (ms_s (i := 3) (hx := Or.inl (by kernel_rfl)) (hf := Or.inr (by kernel_rfl)) sc__law_term.nd (me_lst (ma_cons (me_tup (ma_cons (me_str [112, 117, 116] (by decide +kernel)) (ma_cons (me_str [114, 110, 110] (by decide +kernel)) ma_nil))) (ma_cons (me_tup (ma_cons (me_str [109, 97, 110, 121] (by decide +kernel)) (ma_cons (me_str [110, 110] (by decide +kernel)) ma_nil))) (ma_cons (me_tup (ma_cons (me_str [109, 97, 107, 101] (by decide +kernel)) (ma_cons (me_str [] (by decide +kernel)) ma_nil))) (ma_cons (me_tup (ma_cons (me_str [109, 97, 107, 101] (by decide +kernel)) (ma_cons (me_str [110, 110, 110] (by decide +kernel)) ma_nil))) (ma_cons (me_tup (ma_cons (me_str [107, 101, 101, 112] (by decide +kernel)) (ma_cons (me_str [114] (by decide +kernel)) ma_nil))) (ma_cons (me_tup (ma_cons (me_str [109, 97, 107, 101] (by decide +kernel)) (ma_cons (me_str [110] (by decide +kernel)) ma_nil))) ma_nil))))))))) mss_nil)
  (mss_cons (ms_asg (me_sub_ix hu (me_var 3 (hv := Or.inl (by kernel_rfl))) (me_call (ok__law_take T n) (hr.mono (by omega)) (gl_of (by kernel_rfl)) T.m__law_take T.f__law_take.kp T.b__law_take tk (ma_cons (me_var 0 (hv := Or.inr (Or.inl (by kernel_rfl)))) (ma_cons me_int ma_nil)) (aLen_cons (aLen_cons aLen_nil))) (fun _ _ => by kernel_rfl)) (mg_tup rfl (mgs_cons (mg_n (i := 4) (hx := Or.inl (by kernel_rfl)) (hf := Or.inr (by kernel_rfl)) sc__law_term.nd) (mgs_cons (mg_n (i := 5) (hx := Or.inl (by kernel_rfl)) (hf := Or.inr (by kernel_rfl)) sc__law_term.nd) mgs_nil))))
  (mss_one (ms_ret (me_add (me_tup (ma_cons (me_var 4 (hv := Or.inl (by kernel_rfl))) ma_nil)) (me_tupleOf (gl_of (by kernel_rfl)) T.z_tuple (ma_cons (me_lcA (own := [("_law_one", 6)]) rfl sc__law_term.nd (mig_any (me_var 5 (hv := Or.inl (by kernel_rfl)))) (blkOk_by (by kernel_rfl)) (tgo_name (by decide)) lcV_end (fun _ _ _ _ _ => (pg_n (i := 6) (hx := Or.inl (by kernel_rfl)) (hf := Or.inr (by kernel_rfl)) sc__law_term.nd)) (fun _ _ _ _ _ => mts_nil) (fun _ _ _ _ _ => (me_call (rc__law_term) (hr.mono (by omega)) (gl_of (by kernel_rfl)) T.m__law_term T.f__law_term.kp T.b__law_term takes0 (ma_cons (me_var 0 (hv := Or.inr (Or.inl (by kernel_rfl)))) (ma_cons (me_var 6 (hv := Or.inl (by kernel_rfl))) (ma_cons (me_sub (me_var 2 (hv := Or.inr (Or.inl (by kernel_rfl)))) me_int) ma_nil))) (aLen_cons (aLen_cons (aLen_cons aLen_nil)))))) ma_nil)))))))))
theorem all__law_term (T : Txt w K mg A) (n : Nat) : ∀ d : Nat, FnOk P w K mg base (L2.CX P w) (2 + d) A.a__law_term A.d__law_term ["_law_box_here", "_law_kind", "_law_deep"] (spM ⟨w, K⟩ (F__law_term n d) 3)
  | 0 => (by unfold F__law_term; first | exact fnOk_no | (rw [G__law_term]; exact fnOk_no))
  | d + 1 => st__law_term T n d (all__law_term T n d)
theorem ok__law_term (T : Txt w K mg A) (n d : Nat) : FnOk P w K mg base (L2.CX P w) (2 + d) A.a__law_term A.d__law_term ["_law_box_here", "_law_kind", "_law_deep"] (spM ⟨w, K⟩ (F__law_term n d) 3) := (all__law_term T n d)
theorem sc__law_names : FnScope ["_law_term_here", "_law_found", "_law_part", "_law_pair"] ["_law_term_here"] (defScope s__law_names) := ⟨by kernel_rfl, by kernel_rfl, by kernel_rfl, by decide +kernel, by kernel_rfl, by decide +kernel, by decide +kernel⟩
set_option maxHeartbeats 4000000 in
theorem st__law_names (T : Txt w K mg A) (n d : Nat) (rc__law_names : FnOk P w K mg base (L2.CX P w) (0 + d) A.a__law_names A.d__law_names ["_law_term_here"] (spM ⟨w, K⟩ (F__law_names n d) 1)) : FnOk P w K mg base (L2.CX P w) (0 + (d + 1)) A.a__law_names A.d__law_names ["_law_term_here"] (spM ⟨w, K⟩ (F__law_names n (d + 1)) 1) :=
  def_okF ["_law_term_here", "_law_found", "_law_part", "_law_pair"] ["_law_term_here"] (b__law_names n (F__law_names n d)) (k := 0 + d) (kk := 4) (nn := 1) (g := F__law_names n (d + 1)) (by unfold F__law_names; first | rfl | rw [G__law_names]) (by kernel_rfl) (by kernel_rfl) T.f__law_names sc__law_names fun cdv Ar outer s H E hr => by
  have hu := hr.units
  have tk : Takes (cxOf (L2.CX P w) P w K mg base ["_law_term_here", "_law_found", "_law_part", "_law_pair"] "_law_names" (defScope s__law_names) A.a__law_names cdv Ar outer s H E) (fun c d _ H => E c d H) := takes_of rfl rfl rfl rfl
  exact (mss_cons (ms_if (mt_val (me_isinst (gl_of (by kernel_rfl)) T.z_isinstance (ma_cons (me_var 0 (hv := Or.inl (by kernel_rfl))) (ma_cons (me_ty (gl_of (by kernel_rfl)) T.z_int (by decide +kernel)) ma_nil)))) (mss_one (ms_ret (me_lst ma_nil))) mss_nil)
  (mss_cons (ms_if (mt_val (me_isinst (gl_of (by kernel_rfl)) T.z_isinstance (ma_cons (me_sub_ix hu (me_var 0 (hv := Or.inl (by kernel_rfl))) me_int (fun _ _ => by kernel_rfl)) (ma_cons (me_ty (gl_of (by kernel_rfl)) T.z_int (by decide +kernel)) ma_nil)))) (mss_one (ms_ret (me_lst (ma_cons (me_var 0 (hv := Or.inl (by kernel_rfl))) ma_nil)))) mss_nil)
  (mss_cons (ms_s (i := 1) (hx := Or.inr (by kernel_rfl)) (hf := Or.inl (by kernel_rfl)) sc__law_names.nd (me_lst ma_nil))
  (mss_cons (ms_forA (passes_of rfl) rfl (mig_any (me_slice (me_var 0 (hv := Or.inl (by kernel_rfl))) (mo_some me_int) mo_none)) (mg_n (i := 2) (hx := Or.inl (by kernel_rfl)) (hf := Or.inr (by kernel_rfl)) sc__law_names.nd) (mss_one (ms_s (i := 1) (hx := Or.inr (by kernel_rfl)) (hf := Or.inl (by kernel_rfl)) sc__law_names.nd (me_add (me_var 1 (hv := Or.inr (Or.inl (by kernel_rfl)))) (me_lcA (own := [("_law_pair", 3)]) rfl sc__law_names.nd (mig_any (me_call (rc__law_names) (hr.mono (by omega)) (gl_of (by kernel_rfl)) T.m__law_names T.f__law_names.kp T.b__law_names tk (ma_cons (me_var 2 (hv := Or.inl (by kernel_rfl))) ma_nil) (aLen_cons aLen_nil))) (blkOk_by (by kernel_rfl)) (tgo_name (by decide)) lcV_end (fun _ _ _ _ _ => (pg_n (i := 3) (hx := Or.inl (by kernel_rfl)) (hf := Or.inr (by kernel_rfl)) sc__law_names.nd)) (fun _ _ _ _ _ => (mts_one (mt_notinD hu (me_var 3 (hv := Or.inl (by kernel_rfl))) (me_var 1 (hv := Or.inr (Or.inl (by kernel_rfl)))) (by kernel_rfl)))) (fun _ _ _ _ _ => (me_var 3 (hv := Or.inl (by kernel_rfl)))))))))
  (mss_one (ms_ret (me_var 1 (hv := Or.inr (Or.inl (by kernel_rfl))))))))))
theorem all__law_names (T : Txt w K mg A) (n : Nat) : ∀ d : Nat, FnOk P w K mg base (L2.CX P w) (0 + d) A.a__law_names A.d__law_names ["_law_term_here"] (spM ⟨w, K⟩ (F__law_names n d) 1)
  | 0 => (by unfold F__law_names; first | exact fnOk_no | (rw [G__law_names]; exact fnOk_no))
  | d + 1 => st__law_names T n d (all__law_names T n d)
theorem ok__law_names (T : Txt w K mg A) (n d : Nat) : FnOk P w K mg base (L2.CX P w) (0 + d) A.a__law_names A.d__law_names ["_law_term_here"] (spM ⟨w, K⟩ (F__law_names n d) 1) := (all__law_names T n d)
theorem sc__law_before : FnScope ["_law_one", "_law_other"] ["_law_one", "_law_other"] (defScope s__law_before) := ⟨by kernel_rfl, by kernel_rfl, by kernel_rfl, by decide +kernel, by kernel_rfl, by decide +kernel, by decide +kernel⟩
set_option maxHeartbeats 4000000 in
theorem ok__law_before (T : Txt w K mg A) (n : Nat) : FnOk P w K mg base (L2.CX P w) 1 A.a__law_before A.d__law_before ["_law_one", "_law_other"] (spM ⟨w, K⟩ (F__law_before n) 2) :=
  def_okF ["_law_one", "_law_other"] ["_law_one", "_law_other"] (b__law_before n) (k := 0) (kk := 2) (nn := 2) (g := F__law_before n) (by kernel_rfl) (by kernel_rfl) (by kernel_rfl) T.f__law_before sc__law_before fun cdv Ar outer s H E hr => by
  have hu := hr.units
  have tk : Takes (cxOf (L2.CX P w) P w K mg base ["_law_one", "_law_other"] "_law_before" (defScope s__law_before) A.a__law_before cdv Ar outer s H E) (fun c d _ H => E c d H) := takes_of rfl rfl rfl rfl
  exact (mss_cons (ms_if (mt_ne hr.units (me_sub_ix hu (me_var 0 (hv := Or.inl (by kernel_rfl))) me_int (fun _ _ => by kernel_rfl)) (me_sub_ix hu (me_var 1 (hv := Or.inl (by kernel_rfl))) me_int (fun _ _ => by kernel_rfl))) (mss_one (ms_ret (me_ltX (me_sub_ix hu (me_var 0 (hv := Or.inl (by kernel_rfl))) me_int (fun _ _ => by kernel_rfl)) (me_sub_ix hu (me_var 1 (hv := Or.inl (by kernel_rfl))) me_int (fun _ _ => by kernel_rfl))))) mss_nil)
  (mss_one (ms_ret (me_ltX (me_sub_ix hu (me_var 0 (hv := Or.inl (by kernel_rfl))) me_int (fun _ _ => by kernel_rfl)) (me_sub_ix hu (me_var 1 (hv := Or.inl (by kernel_rfl))) me_int (fun _ _ => by kernel_rfl))))))
theorem sc__law_put : FnScope ["_law_term_here", "_law_terms", "_law_found", "_law_part"] ["_law_term_here", "_law_terms"] (defScope s__law_put) := ⟨by kernel_rfl, by kernel_rfl, by kernel_rfl, by decide +kernel, by kernel_rfl, by decide +kernel, by decide +kernel⟩
set_option maxHeartbeats 4000000 in
theorem st__law_put (T : Txt w K mg A) (n d : Nat) (rc__law_put : FnOk P w K mg base (L2.CX P w) (0 + d) A.a__law_put A.d__law_put ["_law_term_here", "_law_terms"] (spM ⟨w, K⟩ (F__law_put n d) 2)) : FnOk P w K mg base (L2.CX P w) (0 + (d + 1)) A.a__law_put A.d__law_put ["_law_term_here", "_law_terms"] (spM ⟨w, K⟩ (F__law_put n (d + 1)) 2) :=
  def_okF ["_law_term_here", "_law_terms", "_law_found", "_law_part"] ["_law_term_here", "_law_terms"] (b__law_put n (F__law_put n d)) (k := 0 + d) (kk := 4) (nn := 2) (g := F__law_put n (d + 1)) (by unfold F__law_put; first | rfl | rw [G__law_put]) (by kernel_rfl) (by kernel_rfl) T.f__law_put sc__law_put fun cdv Ar outer s H E hr => by
  have hu := hr.units
  have tk : Takes (cxOf (L2.CX P w) P w K mg base ["_law_term_here", "_law_terms", "_law_found", "_law_part"] "_law_put" (defScope s__law_put) A.a__law_put cdv Ar outer s H E) (fun c d _ H => E c d H) := takes_of rfl rfl rfl rfl
  exact (mss_cons (ms_if (mt_val (me_isinst (gl_of (by kernel_rfl)) T.z_isinstance (ma_cons (me_var 0 (hv := Or.inl (by kernel_rfl))) (ma_cons (me_ty (gl_of (by kernel_rfl)) T.z_int (by decide +kernel)) ma_nil)))) (mss_one (ms_ret (me_var 0 (hv := Or.inl (by kernel_rfl))))) mss_nil)
  (mss_cons (ms_if (mt_val (me_isinst (gl_of (by kernel_rfl)) T.z_isinstance (ma_cons (me_sub_ix hu (me_var 0 (hv := Or.inl (by kernel_rfl))) me_int (fun _ _ => by kernel_rfl)) (ma_cons (me_ty (gl_of (by kernel_rfl)) T.z_int (by decide +kernel)) ma_nil)))) (mss_one (ms_ret (me_sub_ix hu (me_var 1 (hv := Or.inl (by kernel_rfl))) (me_var 0 (hv := Or.inl (by kernel_rfl))) (fun _ _ => by kernel_rfl)))) mss_nil)
  (mss_cons (ms_s (i := 2) (hx := Or.inl (by kernel_rfl)) (hf := Or.inr (by kernel_rfl)) sc__law_put.nd (me_lstN (ma_cons (me_sub_ix hu (me_var 0 (hv := Or.inl (by kernel_rfl))) me_int (fun _ _ => by kernel_rfl)) ma_nil)))
  (mss_cons (ms_forA (passes_of rfl) rfl (mig_any (me_slice (me_var 0 (hv := Or.inl (by kernel_rfl))) (mo_some me_int) mo_none)) (mg_n (i := 3) (hx := Or.inl (by kernel_rfl)) (hf := Or.inr (by kernel_rfl)) sc__law_put.nd) (mss_one (ms_expr (me_append (me_var 2 (hv := Or.inl (by kernel_rfl))) (ma_cons (me_call (rc__law_put) (hr.mono (by omega)) (gl_of (by kernel_rfl)) T.m__law_put T.f__law_put.kp T.b__law_put tk (ma_cons (me_var 3 (hv := Or.inl (by kernel_rfl))) (ma_cons (me_var 1 (hv := Or.inl (by kernel_rfl))) ma_nil)) (aLen_cons (aLen_cons aLen_nil))) ma_nil)))))
  (mss_one (ms_ret (me_tupleOf (gl_of (by kernel_rfl)) T.z_tuple (ma_cons (me_var 2 (hv := Or.inl (by kernel_rfl))) ma_nil))))))))
theorem all__law_put (T : Txt w K mg A) (n : Nat) : ∀ d : Nat, FnOk P w K mg base (L2.CX P w) (0 + d) A.a__law_put A.d__law_put ["_law_term_here", "_law_terms"] (spM ⟨w, K⟩ (F__law_put n d) 2)
  | 0 => (by unfold F__law_put; first | exact fnOk_no | (rw [G__law_put]; exact fnOk_no))
  | d + 1 => st__law_put T n d (all__law_put T n d)
theorem ok__law_put (T : Txt w K mg A) (n d : Nat) : FnOk P w K mg base (L2.CX P w) (0 + d) A.a__law_put A.d__law_put ["_law_term_here", "_law_terms"] (spM ⟨w, K⟩ (F__law_put n d) 2) := (all__law_put T n d)
theorem sc__law_rises : FnScope ["_law_found", "_law_k"] ["_law_found"] (defScope s__law_rises) := ⟨by kernel_rfl, by kernel_rfl, by kernel_rfl, by decide +kernel, by kernel_rfl, by decide +kernel, by decide +kernel⟩
set_option maxHeartbeats 4000000 in
theorem ok__law_rises (T : Txt w K mg A) (n : Nat) : FnOk P w K mg base (L2.CX P w) 2 A.a__law_rises A.d__law_rises ["_law_found"] (spM ⟨w, K⟩ (F__law_rises n) 1) :=
  def_okF ["_law_found", "_law_k"] ["_law_found"] (b__law_rises n) (k := 1) (kk := 2) (nn := 1) (g := F__law_rises n) (by kernel_rfl) (by kernel_rfl) (by kernel_rfl) T.f__law_rises sc__law_rises fun cdv Ar outer s H E hr => by
  have hu := hr.units
  have tk : Takes (cxOf (L2.CX P w) P w K mg base ["_law_found", "_law_k"] "_law_rises" (defScope s__law_rises) A.a__law_rises cdv Ar outer s H E) (fun c d _ H => E c d H) := takes_of rfl rfl rfl rfl
  exact (mss_one (ms_ret (me_all rfl (gl_of (by kernel_rfl)) T.z_all (ma_cons (me_lc (own := [("_law_k", 1)]) rfl sc__law_rises.nd (mi_range1 (gl_of (by kernel_rfl)) T.z_range (ma_cons (me_sub (me_len (gl_of (by kernel_rfl)) T.z_len (ma_cons (me_var 0 (hv := Or.inr (Or.inl (by kernel_rfl)))) ma_nil)) me_int) ma_nil)) (blkOk_by (by kernel_rfl)) (tgo_name (by decide)) lcV_end (fun _ _ _ _ _ => (pg_n (i := 1) (hx := Or.inl (by kernel_rfl)) (hf := Or.inr (by kernel_rfl)) sc__law_rises.nd)) (fun _ _ _ _ _ => mts_nil) (fun _ _ _ _ _ => (me_call (ok__law_before T n) (hr.mono (by decide)) (gl_of (by kernel_rfl)) T.m__law_before T.f__law_before.kp T.b__law_before takes0 (ma_cons (me_sub_ix hu (me_var 0 (hv := Or.inr (Or.inl (by kernel_rfl)))) (me_var 1 (hv := Or.inl (by kernel_rfl))) (fun _ _ => by kernel_rfl)) (ma_cons (me_sub_ix hu (me_var 0 (hv := Or.inr (Or.inl (by kernel_rfl)))) (me_add (me_var 1 (hv := Or.inl (by kernel_rfl))) me_int) (fun _ _ => by kernel_rfl)) ma_nil)) (aLen_cons (aLen_cons aLen_nil))))) ma_nil))))
theorem sc_law : FnScope ["_law_script", "_law_k", "_law_box_here", "_law_term_here", "_law_names_here", "_law_found", "_law_terms", "_law_j", "_law_pair"] ["_law_script"] (defScope s_law) := ⟨by kernel_rfl, by kernel_rfl, by kernel_rfl, by decide +kernel, by kernel_rfl, by decide +kernel, by decide +kernel⟩
set_option maxHeartbeats 4000000 in
theorem ok_law (T : Txt w K mg A) (n : Nat) : FnOk P w K mg base (L2.CX P w) 23 A.a_law A.d_law ["_law_script"] (spM ⟨w, K⟩ (F_law n) 1) :=
  def_okF ["_law_script", "_law_k", "_law_box_here", "_law_term_here", "_law_names_here", "_law_found", "_law_terms", "_law_j", "_law_pair"] ["_law_script"] (b_law n) (k := 22) (kk := 9) (nn := 1) (g := F_law n) (by kernel_rfl) (by kernel_rfl) (by kernel_rfl) T.f_law sc_law fun cdv Ar outer s H E hr => by
  have hu := hr.units
  have tk : Takes (cxOf (L2.CX P w) P w K mg base ["_law_script", "_law_k", "_law_box_here", "_law_term_here", "_law_names_here", "_law_found", "_law_terms", "_law_j", "_law_pair"] "law" (defScope s_law) A.a_law cdv Ar outer s H E) (fun c d _ H => E c d H) := takes_of rfl rfl rfl rfl
  exact (mss_cons (ms_for (passes_of rfl) rfl (mi_range1 (gl_of (by kernel_rfl)) T.z_range (ma_cons me_int ma_nil)) (mg_n (i := 1) (hx := Or.inl (by kernel_rfl)) (hf := Or.inr (by kernel_rfl)) sc_law.nd) (mss_cons (ms_s (i := 2) (hx := Or.inl (by kernel_rfl)) (hf := Or.inr (by kernel_rfl)) sc_law.nd (me_call (ok__law_box T n) (hr.mono (by decide)) (gl_of (by kernel_rfl)) T.m__law_box T.f__law_box.kp T.b__law_box tk (ma_cons (me_var 0 (hv := Or.inl (by kernel_rfl))) (ma_cons (me_mul me_int (me_var 1 (hv := Or.inl (by kernel_rfl)))) ma_nil)) (aLen_cons (aLen_cons aLen_nil))))
  (mss_cons (ms_s (i := 3) (hx := Or.inl (by kernel_rfl)) (hf := Or.inr (by kernel_rfl)) sc_law.nd (me_call (ok__law_term T n 20) (hr.mono (by decide)) (gl_of (by kernel_rfl)) T.m__law_term T.f__law_term.kp T.b__law_term tk (ma_cons (me_var 2 (hv := Or.inl (by kernel_rfl))) (ma_cons (me_sub_ix hu (me_lst (ma_cons (me_str [110] (by decide +kernel)) (ma_cons (me_str [114] (by decide +kernel)) ma_nil))) (me_call (ok__law_take T n) (hr.mono (by decide)) (gl_of (by kernel_rfl)) T.m__law_take T.f__law_take.kp T.b__law_take tk (ma_cons (me_var 2 (hv := Or.inl (by kernel_rfl))) (ma_cons me_int ma_nil)) (aLen_cons (aLen_cons aLen_nil))) (fun _ _ => by kernel_rfl)) (ma_cons me_int ma_nil))) (aLen_cons (aLen_cons (aLen_cons aLen_nil)))))
  (mss_cons (ms_s (i := 4) (hx := Or.inr (by kernel_rfl)) (hf := Or.inl (by kernel_rfl)) sc_law.nd (me_call (ok__law_names T n 20) (hr.mono (by decide)) (gl_of (by kernel_rfl)) T.m__law_names T.f__law_names.kp T.b__law_names tk (ma_cons (me_var 3 (hv := Or.inl (by kernel_rfl))) ma_nil) (aLen_cons aLen_nil)))
  (mss_cons (ms_s (i := 5) (hx := Or.inl (by kernel_rfl)) (hf := Or.inr (by kernel_rfl)) sc_law.nd (me_call (ok_names_in T n 20) (hr.mono (by decide)) (gl_of (by kernel_rfl)) T.m_names_in T.f_names_in.kp T.b_names_in tk (ma_cons (me_var 3 (hv := Or.inl (by kernel_rfl))) ma_nil) (aLen_cons aLen_nil)))
  (mss_cons (ms_if (mt_of (mw_or (mt_not (mt_val (me_isinst (gl_of (by kernel_rfl)) T.z_isinstance (ma_cons (me_var 5 (hv := Or.inl (by kernel_rfl))) (ma_cons (me_ty (gl_of (by kernel_rfl)) T.z_list (by decide +kernel)) ma_nil))))) (mw_or (mt_ne hr.units (me_len (gl_of (by kernel_rfl)) T.z_len (ma_cons (me_var 5 (hv := Or.inl (by kernel_rfl))) ma_nil)) (me_len (gl_of (by kernel_rfl)) T.z_len (ma_cons (me_var 4 (hv := Or.inr (Or.inl (by kernel_rfl)))) ma_nil))) (mw_or1 (mt_not (mt_val (me_call (ok__law_rises T n) (hr.mono (by decide)) (gl_of (by kernel_rfl)) T.m__law_rises T.f__law_rises.kp T.b__law_rises tk (ma_cons (me_var 5 (hv := Or.inl (by kernel_rfl))) ma_nil) (aLen_cons aLen_nil)))))))) (mss_one (ms_ret me_bl)) mss_nil)
  (mss_cons (ms_if (mt_not (mt_val (me_all rfl (gl_of (by kernel_rfl)) T.z_all (ma_cons (me_lcA (own := [("_law_pair", 8)]) rfl sc_law.nd (mig_any (me_var 5 (hv := Or.inl (by kernel_rfl)))) (blkOk_by (by kernel_rfl)) (tgo_name (by decide)) lcV_end (fun _ _ _ _ _ => (pg_n (i := 8) (hx := Or.inl (by kernel_rfl)) (hf := Or.inr (by kernel_rfl)) sc_law.nd)) (fun _ _ _ _ _ => mts_nil) (fun _ _ _ _ _ => (me_and (me_inD hu (me_var 8 (hv := Or.inl (by kernel_rfl))) (me_var 4 (hv := Or.inr (Or.inl (by kernel_rfl)))) (by kernel_rfl)) (me_one (me_isinst (gl_of (by kernel_rfl)) T.z_isinstance (ma_cons (me_var 8 (hv := Or.inl (by kernel_rfl))) (ma_cons (me_ty (gl_of (by kernel_rfl)) T.z_tuple (by decide +kernel)) ma_nil))))))) ma_nil)))) (mss_one (ms_ret me_bl)) mss_nil)
  (mss_cons (ms_expr (me_append (me_var 5 (hv := Or.inl (by kernel_rfl))) (ma_cons me_int ma_nil)))
  (mss_cons (ms_s (i := 6) (hx := Or.inl (by kernel_rfl)) (hf := Or.inr (by kernel_rfl)) sc_law.nd me_dictN)
  (mss_cons (ms_for (passes_of rfl) rfl (mi_range1 (gl_of (by kernel_rfl)) T.z_range (ma_cons (me_len (gl_of (by kernel_rfl)) T.z_len (ma_cons (me_var 4 (hv := Or.inr (Or.inl (by kernel_rfl)))) ma_nil)) ma_nil)) (mg_n (i := 7) (hx := Or.inl (by kernel_rfl)) (hf := Or.inr (by kernel_rfl)) sc_law.nd) (mss_one (ms_asg (me_call (ok__law_term T n 20) (hr.mono (by decide)) (gl_of (by kernel_rfl)) T.m__law_term T.f__law_term.kp T.b__law_term tk (ma_cons (me_call (ok__law_box T n) (hr.mono (by decide)) (gl_of (by kernel_rfl)) T.m__law_box T.f__law_box.kp T.b__law_box tk (ma_cons (me_var 0 (hv := Or.inl (by kernel_rfl))) (ma_cons (me_add (me_add (me_mul me_int (me_var 1 (hv := Or.inl (by kernel_rfl)))) me_int) (me_mod (me_var 7 (hv := Or.inl (by kernel_rfl))) me_int)) ma_nil)) (aLen_cons (aLen_cons aLen_nil))) (ma_cons (me_sub_ix hu (me_sub_ix hu (me_sub_ix hu (me_var 4 (hv := Or.inr (Or.inl (by kernel_rfl)))) (me_var 7 (hv := Or.inl (by kernel_rfl))) (fun _ _ => by kernel_rfl)) me_int (fun _ _ => by kernel_rfl)) me_int (fun _ _ => by kernel_rfl)) (ma_cons me_int ma_nil))) (aLen_cons (aLen_cons (aLen_cons aLen_nil)))) (mg_sub hu (me_var 6 (hv := Or.inl (by kernel_rfl))) (me_sub_ix hu (me_var 4 (hv := Or.inr (Or.inl (by kernel_rfl)))) (me_var 7 (hv := Or.inl (by kernel_rfl))) (fun _ _ => by kernel_rfl))))))
  (mss_one (ms_if (mt_of (mw_or (mt_ne hr.units (me_call (ok_put_in T n 20) (hr.mono (by decide)) (gl_of (by kernel_rfl)) T.m_put_in T.f_put_in.kp T.b_put_in tk (ma_cons (me_var 3 (hv := Or.inl (by kernel_rfl))) (ma_cons (me_var 6 (hv := Or.inl (by kernel_rfl))) ma_nil)) (aLen_cons (aLen_cons aLen_nil))) (me_call (ok__law_put T n 20) (hr.mono (by decide)) (gl_of (by kernel_rfl)) T.m__law_put T.f__law_put.kp T.b__law_put tk (ma_cons (me_var 3 (hv := Or.inl (by kernel_rfl))) (ma_cons (me_var 6 (hv := Or.inl (by kernel_rfl))) ma_nil)) (aLen_cons (aLen_cons aLen_nil)))) (mw_or1 (mt_inD hu me_int (me_call (ok_names_in T n 20) (hr.mono (by decide)) (gl_of (by kernel_rfl)) T.m_names_in T.f_names_in.kp T.b_names_in tk (ma_cons (me_var 3 (hv := Or.inl (by kernel_rfl))) ma_nil) (aLen_cons aLen_nil)) (by kernel_rfl))))) (mss_one (ms_ret me_bl)) mss_nil))))))))))))
  (mss_one (ms_ret me_bl)))
end
set_option maxHeartbeats 8000000 in
theorem len1 {us : List Value} (hl : us.length = 1) : ∃ a0, us = [a0] := match us, hl with | [a0], _ => ⟨a0, rfl⟩
theorem len2 {us : List Value} (hl : us.length = 2) : ∃ a0 a1, us = [a0, a1] := match us, hl with | [a0, a1], _ => ⟨a0, a1, rfl⟩
theorem len3 {us : List Value} (hl : us.length = 3) : ∃ a0 a1 a2, us = [a0, a1, a2] := match us, hl with | [a0, a1, a2], _ => ⟨a0, a1, a2, rfl⟩
set_option maxHeartbeats 0 in
theorem all_mk {l : PySem.W.OpenLaw} {w : World} {K : PySem.W.Frag} {h : Heap} {mg : Str → Option Value} {fa f_names_in f_put_in f__law_box f__law_take f__law_leaf f__law_term f__law_names f__law_before f__law_put f__law_rises f_law : Addr} (X : K.In h) (G : h.Ns mainGlobals mg) (hfa : mg "law" = some (.ref fa))
    {od_names_in an_names_in od_put_in an_put_in od__law_box an__law_box od__law_take an__law_take od__law_leaf an__law_leaf od__law_term an__law_term od__law_names an__law_names od__law_before an__law_before od__law_put an__law_put od__law_rises an__law_rises od_law an_law : Option Addr} {sl_names_in sl_put_in sl__law_box sl__law_take sl__law_leaf sl__law_term sl__law_names sl__law_before sl__law_put sl__law_rises sl_law : Array (Option Value)} {oc_names_in kV_names_in dc_names_in pm_names_in cd_names_in ct_names_in oc_put_in kV_put_in dc_put_in pm_put_in cd_put_in ct_put_in oc__law_box kV__law_box dc__law_box pm__law_box cd__law_box ct__law_box oc__law_take kV__law_take dc__law_take pm__law_take cd__law_take ct__law_take oc__law_leaf kV__law_leaf dc__law_leaf pm__law_leaf cd__law_leaf ct__law_leaf oc__law_term kV__law_term dc__law_term pm__law_term cd__law_term ct__law_term oc__law_names kV__law_names dc__law_names pm__law_names cd__law_names ct__law_names oc__law_before kV__law_before dc__law_before pm__law_before cd__law_before ct__law_before oc__law_put kV__law_put dc__law_put pm__law_put cd__law_put ct__law_put oc__law_rises kV__law_rises dc__law_rises pm__law_rises cd__law_rises ct__law_rises oc_law kV_law dc_law pm_law cd_law ct_law : Value}
    (a_names_in : PySem.W.nsIn K mainGlobals "names_in" = some (some (.ref f_names_in))) (l_names_in : K.lookup f_names_in = some ⟨oc_names_in, od_names_in, .func (PySem.W.fnOf "names_in" "names_in" (defArgs s_names_in) (defBody s_names_in) (defScope s_names_in) .none kV_names_in dc_names_in pm_names_in an_names_in cd_names_in ct_names_in), sl_names_in⟩) (c_names_in : PySem.W.codeIn K cd_names_in "names_in" = true) (k_names_in : PySem.W.keepIn K (.ref f_names_in) = true)
    (a_put_in : PySem.W.nsIn K mainGlobals "put_in" = some (some (.ref f_put_in))) (l_put_in : K.lookup f_put_in = some ⟨oc_put_in, od_put_in, .func (PySem.W.fnOf "put_in" "put_in" (defArgs s_put_in) (defBody s_put_in) (defScope s_put_in) .none kV_put_in dc_put_in pm_put_in an_put_in cd_put_in ct_put_in), sl_put_in⟩) (c_put_in : PySem.W.codeIn K cd_put_in "put_in" = true) (k_put_in : PySem.W.keepIn K (.ref f_put_in) = true)
    (a__law_box : PySem.W.nsIn K mainGlobals "_law_box" = some (some (.ref f__law_box))) (l__law_box : K.lookup f__law_box = some ⟨oc__law_box, od__law_box, .func (PySem.W.fnOf "_law_box" "_law_box" (defArgs s__law_box) (defBody s__law_box) (defScope s__law_box) .none kV__law_box dc__law_box pm__law_box an__law_box cd__law_box ct__law_box), sl__law_box⟩) (c__law_box : PySem.W.codeIn K cd__law_box "_law_box" = true) (k__law_box : PySem.W.keepIn K (.ref f__law_box) = true)
    (a__law_take : PySem.W.nsIn K mainGlobals "_law_take" = some (some (.ref f__law_take))) (l__law_take : K.lookup f__law_take = some ⟨oc__law_take, od__law_take, .func (PySem.W.fnOf "_law_take" "_law_take" (defArgs s__law_take) (defBody s__law_take) (defScope s__law_take) .none kV__law_take dc__law_take pm__law_take an__law_take cd__law_take ct__law_take), sl__law_take⟩) (c__law_take : PySem.W.codeIn K cd__law_take "_law_take" = true) (k__law_take : PySem.W.keepIn K (.ref f__law_take) = true)
    (a__law_leaf : PySem.W.nsIn K mainGlobals "_law_leaf" = some (some (.ref f__law_leaf))) (l__law_leaf : K.lookup f__law_leaf = some ⟨oc__law_leaf, od__law_leaf, .func (PySem.W.fnOf "_law_leaf" "_law_leaf" (defArgs s__law_leaf) (defBody s__law_leaf) (defScope s__law_leaf) .none kV__law_leaf dc__law_leaf pm__law_leaf an__law_leaf cd__law_leaf ct__law_leaf), sl__law_leaf⟩) (c__law_leaf : PySem.W.codeIn K cd__law_leaf "_law_leaf" = true) (k__law_leaf : PySem.W.keepIn K (.ref f__law_leaf) = true)
    (a__law_term : PySem.W.nsIn K mainGlobals "_law_term" = some (some (.ref f__law_term))) (l__law_term : K.lookup f__law_term = some ⟨oc__law_term, od__law_term, .func (PySem.W.fnOf "_law_term" "_law_term" (defArgs s__law_term) (defBody s__law_term) (defScope s__law_term) .none kV__law_term dc__law_term pm__law_term an__law_term cd__law_term ct__law_term), sl__law_term⟩) (c__law_term : PySem.W.codeIn K cd__law_term "_law_term" = true) (k__law_term : PySem.W.keepIn K (.ref f__law_term) = true)
    (a__law_names : PySem.W.nsIn K mainGlobals "_law_names" = some (some (.ref f__law_names))) (l__law_names : K.lookup f__law_names = some ⟨oc__law_names, od__law_names, .func (PySem.W.fnOf "_law_names" "_law_names" (defArgs s__law_names) (defBody s__law_names) (defScope s__law_names) .none kV__law_names dc__law_names pm__law_names an__law_names cd__law_names ct__law_names), sl__law_names⟩) (c__law_names : PySem.W.codeIn K cd__law_names "_law_names" = true) (k__law_names : PySem.W.keepIn K (.ref f__law_names) = true)
    (a__law_before : PySem.W.nsIn K mainGlobals "_law_before" = some (some (.ref f__law_before))) (l__law_before : K.lookup f__law_before = some ⟨oc__law_before, od__law_before, .func (PySem.W.fnOf "_law_before" "_law_before" (defArgs s__law_before) (defBody s__law_before) (defScope s__law_before) .none kV__law_before dc__law_before pm__law_before an__law_before cd__law_before ct__law_before), sl__law_before⟩) (c__law_before : PySem.W.codeIn K cd__law_before "_law_before" = true) (k__law_before : PySem.W.keepIn K (.ref f__law_before) = true)
    (a__law_put : PySem.W.nsIn K mainGlobals "_law_put" = some (some (.ref f__law_put))) (l__law_put : K.lookup f__law_put = some ⟨oc__law_put, od__law_put, .func (PySem.W.fnOf "_law_put" "_law_put" (defArgs s__law_put) (defBody s__law_put) (defScope s__law_put) .none kV__law_put dc__law_put pm__law_put an__law_put cd__law_put ct__law_put), sl__law_put⟩) (c__law_put : PySem.W.codeIn K cd__law_put "_law_put" = true) (k__law_put : PySem.W.keepIn K (.ref f__law_put) = true)
    (a__law_rises : PySem.W.nsIn K mainGlobals "_law_rises" = some (some (.ref f__law_rises))) (l__law_rises : K.lookup f__law_rises = some ⟨oc__law_rises, od__law_rises, .func (PySem.W.fnOf "_law_rises" "_law_rises" (defArgs s__law_rises) (defBody s__law_rises) (defScope s__law_rises) .none kV__law_rises dc__law_rises pm__law_rises an__law_rises cd__law_rises ct__law_rises), sl__law_rises⟩) (c__law_rises : PySem.W.codeIn K cd__law_rises "_law_rises" = true) (k__law_rises : PySem.W.keepIn K (.ref f__law_rises) = true)
    (a_law : PySem.W.nsIn K mainGlobals "law" = some (some (.ref f_law))) (l_law : K.lookup f_law = some ⟨oc_law, od_law, .func (PySem.W.fnOf "law" "law" (defArgs s_law) (defBody s_law) (defScope s_law) .none kV_law dc_law pm_law an_law cd_law ct_law), sl_law⟩) (c_law : PySem.W.codeIn K cd_law "law" = true) (k_law : PySem.W.keepIn K (.ref f_law) = true)
    (z_isinstance : PySem.W.nsIn K mainGlobals "isinstance" = some none)
    (z_tuple : PySem.W.nsIn K mainGlobals "tuple" = some none)
    (z_int : PySem.W.nsIn K mainGlobals "int" = some none)
    (z_sorted : PySem.W.nsIn K mainGlobals "sorted" = some none)
    (z_set : PySem.W.nsIn K mainGlobals "set" = some none)
    (z_len : PySem.W.nsIn K mainGlobals "len" = some none)
    (z_all : PySem.W.nsIn K mainGlobals "all" = some none)
    (z_range : PySem.W.nsIn K mainGlobals "range" = some none)
    (z_list : PySem.W.nsIn K mainGlobals "list" = some none)
    : ∃ fd : FuncData, (∀ (s : Shared) (v : Value), BindsTo s fd ⟨[v], []⟩ [("_law_script", v)]) ∧ ∀ base : Heap, K.In base → base.Ns mainGlobals mg → FnOk l.prog w K mg base (L2.CX l.prog w) 23 fa fd ["_law_script"] (fun vs H Q E => ∃ n, spM ⟨w, K⟩ (F_law n) 1 vs H Q E) := by
  have e := hfa.symm.trans (PySem.W.mg_of X G a_law)
  cases e
  have F_names_in := fun_mk (st := s_names_in) l_names_in c_names_in k_names_in
  have B_names_in := F_names_in.binds (ps := ["term"]) fun _ _ _ _ _ _ us hl => by obtain ⟨_, rfl⟩ := len1 hl; exact rfl
  have F_put_in := fun_mk (st := s_put_in) l_put_in c_put_in k_put_in
  have B_put_in := F_put_in.binds (ps := ["term", "terms"]) fun _ _ _ _ _ _ us hl => by obtain ⟨_, _, rfl⟩ := len2 hl; exact rfl
  have F__law_box := fun_mk (st := s__law_box) l__law_box c__law_box k__law_box
  have B__law_box := F__law_box.binds (ps := ["_law_script", "_law_k"]) fun _ _ _ _ _ _ us hl => by obtain ⟨_, _, rfl⟩ := len2 hl; exact rfl
  have F__law_take := fun_mk (st := s__law_take) l__law_take c__law_take k__law_take
  have B__law_take := F__law_take.binds (ps := ["_law_box_here", "_law_many"]) fun _ _ _ _ _ _ us hl => by obtain ⟨_, _, rfl⟩ := len2 hl; exact rfl
  have F__law_leaf := fun_mk (st := s__law_leaf) l__law_leaf c__law_leaf k__law_leaf
  have B__law_leaf := F__law_leaf.binds (ps := ["_law_box_here", "_law_kind"]) fun _ _ _ _ _ _ us hl => by obtain ⟨_, _, rfl⟩ := len2 hl; exact rfl
  have F__law_term := fun_mk (st := s__law_term) l__law_term c__law_term k__law_term
  have B__law_term := F__law_term.binds (ps := ["_law_box_here", "_law_kind", "_law_deep"]) fun _ _ _ _ _ _ us hl => by obtain ⟨_, _, _, rfl⟩ := len3 hl; exact rfl
  have F__law_names := fun_mk (st := s__law_names) l__law_names c__law_names k__law_names
  have B__law_names := F__law_names.binds (ps := ["_law_term_here"]) fun _ _ _ _ _ _ us hl => by obtain ⟨_, rfl⟩ := len1 hl; exact rfl
  have F__law_before := fun_mk (st := s__law_before) l__law_before c__law_before k__law_before
  have B__law_before := F__law_before.binds (ps := ["_law_one", "_law_other"]) fun _ _ _ _ _ _ us hl => by obtain ⟨_, _, rfl⟩ := len2 hl; exact rfl
  have F__law_put := fun_mk (st := s__law_put) l__law_put c__law_put k__law_put
  have B__law_put := F__law_put.binds (ps := ["_law_term_here", "_law_terms"]) fun _ _ _ _ _ _ us hl => by obtain ⟨_, _, rfl⟩ := len2 hl; exact rfl
  have F__law_rises := fun_mk (st := s__law_rises) l__law_rises c__law_rises k__law_rises
  have B__law_rises := F__law_rises.binds (ps := ["_law_found"]) fun _ _ _ _ _ _ us hl => by obtain ⟨_, rfl⟩ := len1 hl; exact rfl
  have F_law := fun_mk (st := s_law) l_law c_law k_law
  have B_law := F_law.binds (ps := ["_law_script"]) fun _ _ _ _ _ _ us hl => by obtain ⟨_, rfl⟩ := len1 hl; exact rfl
  have T : Txt w K mg ⟨f_names_in, _, f_put_in, _, f__law_box, _, f__law_take, _, f__law_leaf, _, f__law_term, _, f__law_names, _, f__law_before, _, f__law_put, _, f__law_rises, _, fa, _⟩ := ⟨F_names_in, PySem.W.mg_of X G a_names_in, B_names_in, F_put_in, PySem.W.mg_of X G a_put_in, B_put_in, F__law_box, PySem.W.mg_of X G a__law_box, B__law_box, F__law_take, PySem.W.mg_of X G a__law_take, B__law_take, F__law_leaf, PySem.W.mg_of X G a__law_leaf, B__law_leaf, F__law_term, PySem.W.mg_of X G a__law_term, B__law_term, F__law_names, PySem.W.mg_of X G a__law_names, B__law_names, F__law_before, PySem.W.mg_of X G a__law_before, B__law_before, F__law_put, PySem.W.mg_of X G a__law_put, B__law_put, F__law_rises, PySem.W.mg_of X G a__law_rises, B__law_rises, F_law, PySem.W.mg_of X G a_law, B_law, PySem.W.mg_none_of X G z_isinstance, PySem.W.mg_none_of X G z_tuple, PySem.W.mg_none_of X G z_int, PySem.W.mg_none_of X G z_sorted, PySem.W.mg_none_of X G z_set, PySem.W.mg_none_of X G z_len, PySem.W.mg_none_of X G z_all, PySem.W.mg_none_of X G z_range, PySem.W.mg_none_of X G z_list⟩
  exact ⟨_, fun s v => .of_eq rfl, fun base _ _ => FnOk.ex fun n => ok_law T n⟩
theorem walk {l : PySem.W.OpenLaw} {q : Program} {loose : List Str} {XP : (Str → Option Value) → Heap → Prop} {YP : World → Heap → Prop} {d : DefRec} {K : Params → PySem.W.Frag} (hn : l.most = some 63) (hdf : d.params.defaults = [])
    (hY : ∀ (w : World) (h : Heap), YP w h → (K w.params).In h) (pure : ∀ ns : List Int, ns.length ≤ 63 → ∃ n st, F_law n [.frz (ns.map .int)] [] = .ok (.bl true) st)
    (F : ∀ (w : World) (mg : Str → Option Value) (fa : Addr) (h : Heap), (K w.params).In h → h.Ns mainGlobals mg → mg d.name = some (.ref fa) →
      ∃ fd : FuncData, (∀ (s : Shared) (u : Value), BindsTo s fd ⟨[u], []⟩ [("_law_script", u)]) ∧ ∀ base : Heap, (K w.params).In base → base.Ns mainGlobals mg → FnOk l.prog w (K w.params) mg base (L2.CX l.prog w) 23 fa fd ["_law_script"] (fun vs H Q E => ∃ n, spM ⟨w, K w.params⟩ (F_law n) 1 vs H Q E)) :
    PySem.W.WalkO q loose XP YP l.row.toRowW d [] (fun f vs => PySem.call f vs) :=
  L2.walk_of (n := 63) (k := 23) (x := "_law_script") (CX := fun w => L2.CX l.prog w) (sp := fun w vs H Q E => ∃ n, spM ⟨w, K w.params⟩ (F_law n) 1 vs H Q E) hn (by decide) hdf ⟨rfl, by decide, by decide⟩ hY F (fun w H a ns hl _ hS => by
    obtain ⟨n, st, e⟩ := pure ns hl
    exact law_sp (K := ⟨w, K w.params⟩) hS e) fun w H s e s' => cx_false H s e s'
end K55

set_option maxRecDepth 100000
namespace K55
open PySem L2 MP
-- no box
section
theorem fmod_lt {i m : Int} (h : 0 < m) : 0 ≤ i.fmod m ∧ i.fmod m < m := by
  rw [Int.fmod_eq_emod_of_nonneg i (by omega)]
  exact ⟨Int.emod_nonneg _ (by omega), Int.emod_lt_of_pos _ h⟩
theorem atI_all {α : Type} {xs : List α} {i : Int} (h0 : 0 ≤ i) (h1 : i < xs.length) {P : α → Prop} (hP : ∀ x ∈ xs, P x) : ∃ x, L2.atI xs i = some x ∧ P x := ⟨_, atI_of h0 h1, hP _ (List.getElem_mem _)⟩
theorem Z_inT {n : Bool} {x : PV} {xs : List PV} {st : Sto} {Q : PV → Sto → Prop} {E : Exn → Sto → Prop} (h : (flatP x && xs.all flatP) = true) : Z (inM n x (.tup xs) st) Q E = Q (.bl (ng n (xs.any fun p => eqb p x))) st := by
  unfold inM; dsimp only [seqOf]; rw [if_pos h]; rfl

noncomputable def BB (st : Sto) (b : Nat) : Prop := ∃ w x y z : Int, st[b]? = some (.lst [.int w, .int x, .int y, .int z])
theorem BB.bl {st : Sto} {b : Nat} (B : BB st b) : b < st.length := let ⟨_, _, _, _, h⟩ := B; getN h
theorem BB.app {st : Sto} {b : Nat} (B : BB st b) (ys : Sto) : BB (st ++ ys) b := by
  obtain ⟨w, x, y, z, h⟩ := B
  exact ⟨w, x, y, z, by rw [List.getElem?_append_left (getN h), h]⟩
theorem BB.setN {st : Sto} {b m : Nat} {c : Cell} (B : BB st b) (h : m ≠ b) : BB (st.set m c) b := by
  obtain ⟨w, x, y, z, e⟩ := B
  exact ⟨w, x, y, z, by rw [List.getElem?_set_ne h, e]⟩
theorem takeB {n : Nat} {st : Sto} {b : Nat} {m : Int} {Q : PV → Sto → Prop} {E : Exn → Sto → Prop} (B : BB st b) (h : ∀ i s, 0 ≤ i → i < m → BB s b → s.length = st.length → (∀ k, k ≠ b → s[k]? = st[k]?) → Q (.int i) s) (hm : 0 < m := by omega) (hm2 : m.natAbs.log2 < 9000 := by decide +kernel) :
    Z (F__law_take n [.loc b, .int m] st) Q E := by
  obtain ⟨w, x, y, z, hb⟩ := B
  have hl := getN hb
  have g1 : ∀ X, (st.set b X)[b]? = some X := fun X => by rw [List.getElem?_set_self hl]
  have g2 : ∀ X Y : Cell, (st.set b X).set b Y = st.set b Y := fun X Y => by rw [List.set_set]
  have hmne : m ≠ 0 := by omega
  clear hl
  have f1 := fun i : Int => fmod_lt (i := i) hm
  have fin : ∀ (i : Int) (w x y z : Int), Q (.int (i.fmod m)) (st.set b (.lst [.int w, .int x, .int y, .int z])) := fun i w x y z => h _ _ (f1 i).1 (f1 i).2 ⟨w, x, y, z, g1 _⟩ (List.length_set ..) (fun k hk => by rw [List.getElem?_set_ne (Ne.symm hk)])
  have m1 : ∀ j : Int, mulOk 7 j = true := fun j => by simp [mulOk]
  have m4 : ∀ j : Int, mulOk 31 j = true := fun j => by simp [mulOk]
  have m5 : ∀ j : Int, mulOk 17 j = true := fun j => by simp [mulOk]
  have m2 : ∀ i : Int, mulOk i 48271 = true := fun i => by simp [mulOk]
  have m3 : ∀ i : Int, mulOk i 69621 = true := fun i => by simp [mulOk]
  rw [z__law_take]
  unfold b__law_take
  simp [hb, L2.ixN, g1]
  by_cases hx : x = 0
  · by_cases hw : w = 0 ∨ w = -1
    · rcases hw with rfl | rfl <;> simp [hx, Z_inT, flatP, ng, eqb, g1, g2, L2.ixN, m1, m2, m3, m4, m5, hmne, fin]
    · have hw1 : ((0 : Int) == w) = false := by simp; omega
      have hw2 : ((-1 : Int) == w) = false := by simp; omega
      by_cases hy : y + 1 < 61
      · simp [hx, Z_inT, flatP, ng, eqb, g1, g2, L2.ixN, hw1, hw2, hmne, hm, hm2, fin, hy]
      · simp [hx, Z_inT, flatP, ng, eqb, g1, g2, L2.ixN, hw1, hw2, m1, m2, m3, m4, m5, hmne, hm, hm2, fin, hy]
  · simp [hx, g1, g2, L2.ixN, m1, m2, m3, m4, m5, hmne, fin]
theorem box_at {n : Nat} {st : Sto} {ns : List Int} {k : Int} {Q : PV → Sto → Prop} {E : Exn → Sto → Prop} (hl : ns.length ≤ 63) (h : ∀ c, BB (st ++ [c]) st.length → Q (.loc st.length) (st ++ [c])) : Z (F__law_box n [.frz (ns.map .int), .int k] st) Q E := by
  have fin : ∀ w x y z : Int, Q (.loc st.length) (st ++ [.lst [.int w, .int x, .int y, .int z]]) := fun w x y z => h _ ⟨w, x, y, z, by simp⟩
  rw [z__law_box]
  unfold b__law_box
  cases ns with
  | nil =>
    have m0 : mulOk 7919 k = true := by simp [mulOk]
    simp [m0, fin]
  | cons i ns =>
    simp at hl
    have hp : (0 : Int) < ((ns.length + 1 : Nat) : Int) := by omega
    have f1 := fmod_lt (i := k) hp
    obtain ⟨x, hx, a1⟩ := atI_all (xs := i :: ns) (i := k.fmod ((ns.length + 1 : Nat) : Int)) f1.1 (by simpa using f1.2) (P := fun _ => True) (fun _ _ => trivial)
    have a2 : L2.atI ((i :: ns).map PV.int) (k.fmod ((ns.length + 1 : Nat) : Int)) = some (.int x) := by
      have : ∀ (xs : List Int) (j : Int), L2.atI xs j = some x → L2.atI (xs.map PV.int) j = some (.int x) := fun xs j hj => by
        unfold L2.atI at hj ⊢
        simp only [List.length_map, List.getElem?_map] at hj ⊢
        cases q : L2.ixN xs.length j with
        | none => rw [q] at hj; cases hj
        | some i => rw [q] at hj; simp at hj ⊢; exact hj
      exact this _ _ hx
    have m0 : mulOk 7919 k = true := by simp [mulOk]
    have m1 : ∀ j : Int, mulOk 1009 j = true := fun j => by simp [mulOk]
    have hp2 : (0 : Int) < (ns.length : Int) + 1 := by omega
    have hp3 : ¬ ((ns.length : Int) + 1 = 0) := by omega
    simp only [List.map_cons, Int.natCast_add, Int.natCast_one] at a2
    have hz : ((ns.length : Int) + 1).natAbs < 1073741824 := by omega
    simp [L2.ixN, hp2, hp3, m0, m1, a2, fin, hz]

variable {n b : Nat} {st : Sto} {Q : PV → Sto → Prop} {E : Exn → Sto → Prop}
structure BX (b : Nat) (st s : Sto) : Prop where
  le : st.length ≤ s.length
  eq : ∀ k, k < st.length → k ≠ b → s[k]? = st[k]?
  bb : BB s b
theorem BX.rfl (B : BB st b) : BX b st st := ⟨Nat.le_refl _, fun _ _ _ => Eq.refl _, B⟩
theorem BX.tr {A C D : Sto} (h : BX b A C) (g : BX b C D) : BX b A D := ⟨Nat.le_trans h.le g.le, fun k a c => (g.eq k (Nat.lt_of_lt_of_le a h.le) c).trans (h.eq k a c), g.bb⟩
theorem BX.at {s : Sto} {k : Nat} {c : Cell} (h : BX b st s) (e : st[k]? = some c) (hk : k ≠ b) : s[k]? = some c := by rw [h.eq k (getN e) hk, e]
theorem BX.app (h : BB st b) (ys : Sto) : BX b st (st ++ ys) := ⟨by simp, fun k a _ => by rw [List.getElem?_append_left a], h.app ys⟩
theorem tkN {m : Nat} (B : BB st b) (hm : 0 < m) (hm4 : m ≤ 20) (h : ∀ (i : Nat) s, i < m → BX b st s → Q (.int i) s) : Z (F__law_take n [.loc b, .int (m : Int)] st) Q E := by
  refine takeB B (fun i s h0 h1 b' l e => ?_) (by omega) ?_
  · obtain ⟨j, rfl⟩ := Int.eq_ofNat_of_zero_le h0
    exact h j s (by omega) ⟨by omega, fun k _ c => e k c, b'⟩
  · have := Nat.log2_le_self m
    simp; omega

end
section
variable {n b : Nat} {st : Sto} {Q : PV → Sto → Prop} {E : Exn → Sto → Prop}
noncomputable def NmOK (p : Pr2) : Prop := 0 ≤ p.1 ∧ p.1 < 4 ∧ ∃ c r, p.2 = c :: r ∧ (c = 110 ∨ c = 114) ∧ r.length ≤ 3 ∧ ∀ x ∈ r, x < 128
noncomputable def Lf (x : PV) : Prop := (∃ w, x = .int w) ∨ ∃ p, x = encP p ∧ NmOK p
noncomputable def TP : Nat → PV → Prop
  | 0, x => Lf x
  | d + 1, x => Lf x ∨ ∃ o xs, x = .tup (.str o :: xs) ∧ xs.length ≤ 3 ∧ (∀ c ∈ o, c < 128) ∧ ∀ y ∈ xs, TP d y
theorem leaf_draw {k : Nat} (hk : k = 110 ∨ k = 114) (B : BB st b) (h : ∀ x s, Lf x → BX b st s → Q x s) : Z (F__law_leaf n [.loc b, .str [k]] st) Q E := by
  have nam : ∀ (s : Sto), BX b st s → ∀ (i : Nat) (s2 : Sto), i < 4 → BX b s s2 → ∀ (j : Nat) (s3 : Sto), j < 5 → BX b s2 s3 → ∃ t, L2.atI [PV.str [48], .str [49], .str [55], .str [49, 50], .str [51, 52, 53]] (j : Int) = some (.str t) ∧ t.length ≤ 3 ∧ Q (.tup [.int (i : Nat), .str (k :: t)]) s3 := by
    intro s bx i s2 hi bx2 j s3 hj bx3
    have fin : ∀ t : List Nat, t.length ≤ 3 → (∀ x ∈ t, x < 128) → Q (.tup [.int (i : Nat), .str (k :: t)]) s3 := fun t tl ht => h _ s3 (.inr ⟨((i : Int), k :: t), rfl, by simp, by simp; omega, k, t, rfl, hk, tl, ht⟩) ((bx.tr bx2).tr bx3)
    have : j = 0 ∨ j = 1 ∨ j = 2 ∨ j = 3 ∨ j = 4 := by omega
    rcases this with rfl | rfl | rfl | rfl | rfl
    · exact ⟨_, rfl, by decide, fin _ (by decide) (by decide)⟩
    · exact ⟨_, rfl, by decide, fin _ (by decide) (by decide)⟩
    · exact ⟨_, rfl, by decide, fin _ (by decide) (by decide)⟩
    · exact ⟨_, rfl, by decide, fin _ (by decide) (by decide)⟩
    · exact ⟨_, rfl, by decide, fin _ (by decide) (by decide)⟩
  have go : ∀ (s : Sto), BX b st s → ∀ (Q2 : PV → Sto → Prop), (∀ x s, Q x s → Q2 x s) → Z (F__law_take n [.loc b, .int 4] s) (fun v s2 => ∃ i : Nat, v = .int i ∧ Z (F__law_take n [.loc b, .int 5] s2) (fun u s3 => ∃ j : Nat, u = .int j ∧ ∃ t, L2.atI [PV.str [48], .str [49], .str [55], .str [49, 50], .str [51, 52, 53]] (j : Int) = some (.str t) ∧ t.length ≤ 3 ∧ Q2 (.tup [.int (i : Nat), .str (k :: t)]) s3) E0) E0 := by
    intro s bx Q2 hq
    refine tkN (m := 4) bx.bb (by decide) (by decide) fun i s2 hi bx2 => ⟨i, rfl, ?_⟩
    refine tkN (m := 5) bx2.bb (by decide) (by decide) fun j s3 hj bx3 => ⟨j, rfl, ?_⟩
    obtain ⟨t, a, c, q⟩ := nam s bx i s2 hi bx2 j s3 hj bx3
    exact ⟨t, a, c, hq _ _ q⟩
  rw [z__law_leaf]
  unfold b__law_leaf
  have fin : ∀ (s : Sto), BX b st s → Z (sRet (eCall mkTup (aCons (eCall (F__law_take n) (aCons (eVar 0) (aCons (eC (.int 4)) aNil))) (aCons (eBin addV (eVar 1) (eBin ixM (eCall mkLst (aCons (eC (.str [48])) (aCons (eC (.str [49])) (aCons (eC (.str [55])) (aCons (eC (.str [49, 50])) (aCons (eC (.str [51, 52, 53])) aNil)))))) (eCall (F__law_take n) (aCons (eVar 0) (aCons (eC (.int 5)) aNil))))) aNil))) [some (.loc b), some (.str [k])] s) (runQ Q E) E0 := by
    intro s bx
    simp
    refine tkN (m := 4) bx.bb (by decide) (by decide) fun i s2 hi bx2 => ?_
    simp
    refine tkN (m := 5) bx2.bb (by decide) (by decide) fun j s3 hj bx3 => ?_
    obtain ⟨t, a, c, q⟩ := nam s bx i s2 hi bx2 j s3 hj bx3
    have tz : 1 + t.length ≤ 16777216 := by omega
    simp [a, L2.ixN]
    first
    | exact ⟨by omega, q⟩
    | exact q
  rcases hk with rfl | rfl
  · simp
    refine tkN (m := 3) B (by decide) (by decide) fun i s hi bx => ?_
    by_cases e : i = 0
    · subst e
      simp
      refine tkN (m := 6) bx.bb (by decide) (by decide) fun j s2 hj bx2 => ?_
      obtain ⟨w, a⟩ : ∃ w, L2.atI [PV.int 0, .int 1, .int (-1), .int 5, .int 32767, .int (-32768)] (j : Int) = some (.int w) := by
        have : j = 0 ∨ j = 1 ∨ j = 2 ∨ j = 3 ∨ j = 4 ∨ j = 5 := by omega
        rcases this with rfl | rfl | rfl | rfl | rfl | rfl <;> exact ⟨_, rfl⟩
      simp [a, L2.ixN]
      exact h _ s2 (.inl ⟨w, rfl⟩) (bx.tr bx2)
    · have e' : ¬ ((i : Int) = 0) := by omega
      have := fin s bx
      simp at this
      simp [e, e']
      exact this
  · have := fin st (BX.rfl B)
    simp at this
    simp
    exact this
theorem kinds_of_row {i : Nat} (hi : i < 6) : ∃ o ks : List Nat, L2.atI [PV.tup [.str [112, 117, 116], .str [114, 110, 110]], .tup [.str [109, 97, 110, 121], .str [110, 110]], .tup [.str [109, 97, 107, 101], .str []], .tup [.str [109, 97, 107, 101], .str [110, 110, 110]], .tup [.str [107, 101, 101, 112], .str [114]], .tup [.str [109, 97, 107, 101], .str [110]]] (i : Int) = some (.tup [.str o, .str ks]) ∧ ks.length ≤ 3 ∧ (∀ c ∈ o, c < 128) ∧ ∀ c ∈ ks, c = 110 ∨ c = 114 := by
  have : i = 0 ∨ i = 1 ∨ i = 2 ∨ i = 3 ∨ i = 4 ∨ i = 5 := by omega
  rcases this with rfl | rfl | rfl | rfl | rfl | rfl <;> exact ⟨_, _, rfl, by decide, by decide, by decide⟩
theorem kinds_of_num {i : Nat} (hi : i < 6) : ∃ o ks : List Nat, L2.atI [PV.tup [.str [97, 100, 100], .str [110, 110]], .tup [.str [112, 105, 99, 107], .str [110, 110, 110]], .tup [.str [97, 116], .str [114, 110]], .tup [.str [115, 105, 122, 101], .str [114]], .tup [.str [99, 111, 112, 121], .str [110]], .tup [.str [115, 97, 109, 101], .str [110, 110]]] (i : Int) = some (.tup [.str o, .str ks]) ∧ ks.length ≤ 3 ∧ (∀ c ∈ o, c < 128) ∧ ∀ c ∈ ks, c = 110 ∨ c = 114 := by
  have : i = 0 ∨ i = 1 ∨ i = 2 ∨ i = 3 ∨ i = 4 ∨ i = 5 := by omega
  rcases this with rfl | rfl | rfl | rfl | rfl | rfl <;> exact ⟨_, _, rfl, by decide, by decide, by decide⟩
theorem parts_loop {d : Nat} {f : List PV → M PV} {x0 x1 x3 x4 x5 : Option PV} {QL : List PV → Sto → Prop} {EE : Exn → Sto → Prop}
    (hf : ∀ (k : Nat) (st : Sto) (Q : PV → Sto → Prop) (E : Exn → Sto → Prop), (k = 110 ∨ k = 114) → BB st b → (∀ x s, TP d x → BX b st s → Q x s) → Z (f [.loc b, .str [k], .int (d : Nat)] st) Q E) : ∀ (ks : List Nat) (acc : List PV) (st : Sto) (x6 : Option PV), (∀ c ∈ ks, c = 110 ∨ c = 114) → BB st b → acc.length + ks.length < 1000 → (∀ xs s, xs.length = ks.length → (∀ x ∈ xs, TP d x) → BX b st s → QL (acc ++ xs) s) →
    Z (lcL (gN 6) tYesM (eCall f (aCons (eVar 0) (aCons (eVar 6) (aCons (eBin subV (eVar 2) (eC (.int 1))) aNil)))) [some (.loc b), x1, some (.int ((d : Int) + 1)), x3, x4, x5, x6] (ks.map fun c => .str [c]) acc st) QL EE
  | [], acc, st, x6, hk, B, hl, h => by
    rw [List.map_nil, lc_nil]
    have := h [] st rfl (by simp) (BX.rfl B)
    simpa using this
  | k :: ks, acc, st, x6, hk, B, hl, h => by
    simp only [List.length_cons] at hl
    have ha : acc.length < 16777216 := by omega
    rw [List.map_cons, lc_cons]
    simp
    refine hf k st _ _ (hk k (by simp)) B fun x s hx bx => ?_
    simp [ha]
    have := parts_loop (x0 := x0) (x1 := x1) (x3 := x3) (x4 := x4) (x5 := x5) (QL := QL) (EE := EE) hf ks (acc ++ [x]) s x6 (fun c hc => hk c (by simp [hc])) bx.bb (by simp; omega) fun xs s2 l hxs bx2 => by
      have := h (x :: xs) s2 (by simp [l]) (fun y hy => by
        rcases List.mem_cons.mp hy with rfl | hy
        · exact hx
        · exact hxs y hy) (bx.tr bx2)
      simpa using this
    simpa using this
theorem term_draw : ∀ (d e : Nat) (k : Nat) (st : Sto) (Q : PV → Sto → Prop) (E : Exn → Sto → Prop), d < e → (k = 110 ∨ k = 114) → BB st b → (∀ x s, TP d x → BX b st s → Q x s) → Z (F__law_term n e [.loc b, .str [k], .int (d : Nat)] st) Q E
  | 0, e + 1, k, st, Q, E, he, hk, B, h => by
    rw [z__law_term]
    unfold b__law_term
    simp
    refine leaf_draw hk B fun x s hx bx => ?_
    simpa using h x s hx bx
  | d + 1, e + 1, k, st, Q, E, he, hk, B, h => by
    have ez : ¬ ((d + 1 : Nat) : Int) = 0 := by omega
    have ez' : ¬ ((d : Int) + 1) = 0 := by omega
    rw [z__law_term]
    unfold b__law_term
    simp [ez, ez']
    refine tkN (m := 3) B (by decide) (by decide) fun i s hi bx => ?_
    by_cases e0 : i = 0
    · subst e0
      simp
      refine leaf_draw hk bx.bb fun x s2 hx bx2 => ?_
      simpa using h x s2 (.inl hx) (bx.tr bx2)
    · have e0' : ¬ ((i : Int) = 0) := by omega
      have fin : ∀ (o ks : List Nat) (s2 : Sto) (x3 x4 x5 : Option PV) (EE : Exn → Sto → Prop), ks.length ≤ 3 → (∀ c ∈ o, c < 128) → (∀ c ∈ ks, c = 110 ∨ c = 114) → BX b st s2 → ∀ (QL : List PV → Sto → Prop), (∀ xs s3, xs.length ≤ 3 → Q (.tup (.str o :: xs)) s3 → QL xs s3) →
          Z (lcL (gN 6) tYesM (eCall (F__law_term n e) (aCons (eVar 0) (aCons (eVar 6) (aCons (eBin subV (eVar 2) (eC (.int 1))) aNil)))) [some (.loc b), some (.str [k]), some (.int ((d : Int) + 1)), x3, x4, x5, none] (ks.map fun c => .str [c]) [] s2) QL EE := fun o ks s2 x3 x4 x5 EE kl ho hks bx2 QL hQL => by
        refine parts_loop (x0 := none) (fun k st Q E hk B h => term_draw d e k st Q E (by omega) hk B h) ks [] s2 none hks bx2.bb (by simp; omega) fun xs s3 l hxs bx3 => ?_
        rw [List.nil_append]
        exact hQL xs s3 (by omega) (h _ s3 (.inr ⟨o, xs, rfl, by omega, ho, hxs⟩) (bx2.tr bx3))
      rcases hk with rfl | rfl
      · simp [e0, e0']
        refine tkN (m := 6) bx.bb (by decide) (by decide) fun j s2 hj bx2 => ?_
        obtain ⟨o, ks, a, kl, ho, hks⟩ := kinds_of_num hj
        simp [a, L2.ixN]
        refine fin o ks s2 _ _ _ _ kl ho hks (bx.tr bx2) _ fun xs s3 l q => ?_
        have xz : xs.length ≤ 16777216 := by omega
        have xz2 : 1 + xs.length ≤ 16777216 := by omega
        simp [xz, xz2]
        exact q
      · simp [e0, e0']
        refine tkN (m := 6) bx.bb (by decide) (by decide) fun j s2 hj bx2 => ?_
        obtain ⟨o, ks, a, kl, ho, hks⟩ := kinds_of_row hj
        simp [a, L2.ixN]
        refine fin o ks s2 _ _ _ _ kl ho hks (bx.tr bx2) _ fun xs s3 l q => ?_
        have xz : xs.length ≤ 16777216 := by omega
        have xz2 : 1 + xs.length ≤ 16777216 := by omega
        simp [xz, xz2]
        exact q

end
section
variable {n b : Nat} {st : Sto} {Q : PV → Sto → Prop} {E : Exn → Sto → Prop}
structure Bw (l : Nat) (A C : Sto) : Prop where
  le : A.length ≤ C.length
  eq : ∀ k, k < l → C[k]? = A[k]?
theorem Bw.tr {l : Nat} {A C D : Sto} (h : Bw l A C) (g : Bw l C D) : Bw l A D := ⟨Nat.le_trans h.le g.le, fun k a => (g.eq k a).trans (h.eq k a)⟩
noncomputable def nms : Nat → PV → List Pr2
  | 0, x => (prOf x).toList
  | d + 1, x => match x with
    | .tup (.str _ :: xs) => xs.flatMap (nms d)
    | x => (prOf x).toList
theorem nms_nam (d : Nat) (p : Pr2) : nms d (encP p) = [p] := by cases d <;> rfl
theorem nms_int (d : Nat) (w : Int) : nms d (.int w) = [] := by cases d <;> rfl
theorem nms_op (d : Nat) (o : List Nat) (xs : List PV) : nms (d + 1) (.tup (.str o :: xs)) = xs.flatMap (nms d) := rfl
theorem TP.cases {d : Nat} {x : PV} (h : TP d x) : Lf x ∨ ∃ e o xs, d = e + 1 ∧ x = .tup (.str o :: xs) ∧ xs.length ≤ 3 ∧ (∀ c ∈ o, c < 128) ∧ ∀ y ∈ xs, TP e y := by
  cases d with
  | zero => exact .inl h
  | succ e => exact h.imp id fun ⟨o, xs, r⟩ => ⟨e, o, xs, rfl, r⟩
theorem flat_len {d : Nat} {m : Nat} : ∀ {xs : List PV}, (∀ y ∈ xs, (nms d y).length ≤ m) → (xs.flatMap (nms d)).length ≤ xs.length * m
  | [], _ => by simp
  | x :: xs, h => by
    rw [List.flatMap_cons, List.length_append, List.length_cons, Nat.add_mul]
    have := flat_len (xs := xs) fun y hy => h y (by simp [hy])
    have := h x (by simp)
    omega
theorem nms_len : ∀ (d : Nat) {x : PV}, TP d x → (nms d x).length ≤ 3 ^ d
  | d, x, h => by
    rcases h.cases with l | ⟨e, o, xs, rfl, rfl, l3, _, hy⟩
    · have : 0 < 3 ^ d := Nat.pow_pos (by omega)
      rcases l with ⟨w, rfl⟩ | ⟨p, rfl, _⟩
      · rw [nms_int]; simp
      · rw [nms_nam]; simp; omega
    · rw [nms_op]
      have := flat_len (d := e) (m := 3 ^ e) fun y h => nms_len e (hy y h)
      have h2 : xs.length * 3 ^ e ≤ 3 * 3 ^ e := Nat.mul_le_mul_right _ l3
      rw [Nat.pow_succ]
      omega
theorem nms_ok : ∀ (d : Nat) {x : PV}, TP d x → ∀ p ∈ nms d x, NmOK p
  | d, x, h, p, hp => by
    rcases h.cases with l | ⟨e, o, xs, rfl, rfl, l3, _, hy⟩
    · rcases l with ⟨w, rfl⟩ | ⟨q, rfl, hq⟩
      · rw [nms_int] at hp; cases hp
      · rw [nms_nam, List.mem_singleton] at hp; subst hp; exact hq
    · rw [nms_op, List.mem_flatMap] at hp
      obtain ⟨y, h1, h2⟩ := hp
      exact nms_ok e (hy y h1) p h2
theorem same_sort {l m : List Pr2} (h : ∀ p, p ∈ l ↔ p ∈ m) : sortP (dd l) = sortP (dd m) := by
  refine sortP_of ((sortP_perm _).trans ?_) (sortP_pw _)
  rw [List.perm_iff_count]
  intro z
  rw [(dd_nd l).count, (dd_nd m).count]
  by_cases q : z ∈ l
  · rw [if_pos (mem_dd.mpr q), if_pos (mem_dd.mpr ((h z).mp q))]
  · rw [if_neg fun y => q (mem_dd.mp y), if_neg fun y => q ((h z).mpr (mem_dd.mp y))]
noncomputable abbrev snm (d : Nat) (x : PV) : List Pr2 := sortP (dd (nms d x))
theorem mem_snm {d : Nat} {x : PV} {p : Pr2} : p ∈ snm d x ↔ p ∈ nms d x := by rw [(sortP_perm _).mem_iff, mem_dd]
theorem snm_nd {d : Nat} {x : PV} : (snm d x).Nodup := (sortP_perm _).nodup_iff.mpr (dd_nd _)
theorem nodup_len {α : Type} [DecidableEq α] : ∀ {l m : List α}, l.Nodup → (∀ x ∈ l, x ∈ m) → l.length ≤ m.length
  | [], m, _, _ => by simp
  | a :: l, m, h, hs => by
    have h' := List.nodup_cons.mp h
    have ham := hs a (by simp)
    have := nodup_len (l := l) (m := m.erase a) h'.2 (fun x hx => by
      have hne : x ≠ a := fun e => h'.1 (e ▸ hx)
      exact (List.mem_erase_of_ne hne).mpr (hs x (by simp [hx])))
    rw [List.length_erase_of_mem ham] at this
    have := List.length_pos_of_mem ham
    simp
    omega
theorem snm_len {d : Nat} {x : PV} (h : TP d x) : (snm d x).length ≤ 3 ^ d := Nat.le_trans (nodup_len snm_nd fun p hp => mem_snm.mp hp) (nms_len d h)
theorem Z_extC {c m : Nat} {ys zs : List PV} (h1 : st[c]? = some (.lst ys)) (h2 : st[m]? = some (.lst zs)) (hz : ys.length + zs.length ≤ 16777216) : Z (extendA (.loc c) [.loc m] st) Q E = Q .non (st.set c (.lst (ys ++ zs))) := by
  have : extendA (.loc c) [.loc m] st = .ok .non (st.set c (.lst (ys ++ zs))) := by
    unfold extendA lstCell
    simp only [h1]
    have e1 : tupOf (.loc m) = none := rfl
    have e2 : MP.listOf (.loc m) st = some zs := by unfold MP.listOf; dsimp only; rw [h2]
    rw [e1]
    dsimp only
    rw [e2]
    dsimp only
    rw [if_pos hz]
  unfold Z
  rw [this]
theorem ni_loop {d c : Nat} {f : List PV → M PV} {x0 : Option PV} {QF : Fl → Sto → Prop} {EE : Exn → Sto → Prop}
    (hf : ∀ (y : PV) (st : Sto) (Q : PV → Sto → Prop) (E : Exn → Sto → Prop), TP d y → (∀ m s, s[m]? = some (.lst ((snm d y).map encP)) → st.length ≤ m → Bw st.length st s → Q (.loc m) s) → Z (f [y] st) Q E) : ∀ (xs : List PV) (acc : List Pr2) (st : Sto) (x2 : Option PV), (∀ y ∈ xs, TP d y) → st[c]? = some (.lst (acc.map encP)) → acc.length + xs.length * 3 ^ d ≤ 1000 →
    (∀ (acc' : List Pr2) s x2, s[c]? = some (.lst (acc'.map encP)) → (∀ p, p ∈ acc' ↔ p ∈ acc ∨ p ∈ xs.flatMap (nms d)) → acc'.length ≤ acc.length + xs.length * 3 ^ d → Bw c st s → QF (.next [x0, some (.loc c), x2]) s) →
    Z (forL (gN 2) (L0_names_in n f) xs [x0, some (.loc c), x2] st) QF EE
  | [], acc, st, x2, hT, hm, hl, h => by
    rw [Z_forL_nil]
    exact h acc st x2 hm (fun p => by simp) (by simp) ⟨Nat.le_refl _, fun _ _ => rfl⟩
  | y :: xs, acc, st, x2, hT, hm, hl, h => by
    have hy := hT y (by simp)
    have sl := snm_len hy
    rw [List.length_cons, Nat.add_mul] at hl
    rw [Z_forL]
    simp [zL0_names_in, hm]
    refine hf y st _ _ hy fun m s h1 h2 bw => ?_
    have lc := getN hm
    have hm1 : s[c]? = some (.lst (acc.map encP)) := by rw [bw.eq c lc]; exact hm
    simp
    rw [Z_extC hm1 h1 (by simp; omega)]
    simp
    have e : acc.map encP ++ (snm d y).map encP = (acc ++ snm d y).map encP := by simp
    rw [e]
    refine ni_loop hf xs (acc ++ snm d y) _ _ (fun z hz => hT z (by simp [hz])) (by rw [List.getElem?_set_self (getN hm1)]) (by rw [List.length_append]; omega) fun acc' s2 y2 g1 g2 g3 g4 => ?_
    refine h acc' s2 _ g1 (fun p => ?_) (by rw [List.length_append] at g3; rw [List.length_cons, Nat.add_mul]; omega) (Bw.tr ⟨by have := bw.le; simp; omega, fun k hk => by rw [List.getElem?_set_ne (by omega), bw.eq k (by omega)]⟩ g4)
    rw [g2, List.mem_append, mem_snm, List.flatMap_cons, List.mem_append, or_assoc]
theorem names_run : ∀ (d e : Nat) (x : PV) (st : Sto) (Q : PV → Sto → Prop) (E : Exn → Sto → Prop), d < e → d ≤ 3 → TP d x → (∀ m s, s[m]? = some (.lst ((snm d x).map encP)) → st.length ≤ m → Bw st.length st s → Q (.loc m) s) → Z (F_names_in n e [x] st) Q E
  | d, 0, x, st, Q, E, he, _, _, _ => by omega
  | d, e + 1, x, st, Q, E, he, h3, hx, h => by
    rw [z_names_in]
    unfold b_names_in
    rcases hx.cases with l | ⟨e', o, xs, rfl, rfl, l3, _, hy⟩
    · rcases l with ⟨w, rfl⟩ | ⟨p, rfl, hp⟩
      · simp
        have e0 : snm d (.int w) = [] := by unfold snm; rw [nms_int]; simp [dd, sortP]
        rw [e0] at h
        exact h st.length _ (by simp) (Nat.le_refl _) ⟨by simp, fun k hk => by rw [List.getElem?_append_left hk]⟩
      · have e0 : snm d (encP p) = [p] := by
          unfold snm
          rw [nms_nam]
          have : dd [p] = [p] := by simp [dd, ddS]
          rw [this]
          exact (sortP_of (List.Perm.refl _) (by simp)).symm
        rw [e0] at h
        have q := h st.length (st ++ [.lst [encP p]]) (by simp) (Nat.le_refl _) ⟨by simp, fun k hk => by rw [List.getElem?_append_left hk]⟩
        simp only [encP] at q ⊢
        simp [L2.ixN]
        exact q
    · have c1 : cutL (PV.str o :: xs) (some 1) none = xs := cut_from (by omega) (by simp; omega)
      simp [L2.ixN, c1]
      have pw : 3 ^ e' ≤ 9 := Nat.pow_le_pow_right (n := 3) (by omega) (show e' ≤ 2 by omega)
      have xl : xs.length * 3 ^ e' ≤ 27 := Nat.le_trans (Nat.mul_le_mul l3 pw) (by omega)
      refine ni_loop (c := st.length) (d := e') (fun y st Q E hT h => names_run e' e y st Q E (by omega) (by omega) hT h) xs [] _ _ hy (by simp) (by simp; omega) fun acc' s x2 g1 g2 g3 g4 => ?_
      have al : acc'.length < 64 := by simp at g3; omega
      have lo : MP.listOf (.loc st.length) s = some (acc'.map encP) := by unfold MP.listOf; dsimp only; rw [g1]
      simp
      rw [Z_sortSetPN lo al]
      have es : sortP (dd acc') = snm (e' + 1) (.tup (.str o :: xs)) := same_sort fun p => by rw [g2, nms_op]; simp
      rw [es]
      have l1 := g4.le
      simp at l1
      simp
      exact h s.length _ (by simp) (by omega) ⟨by simp; omega, fun k hk => by rw [List.getElem?_append_left (by omega), g4.eq k hk, List.getElem?_append_left hk]⟩

end
section
variable {n b : Nat} {st : Sto} {Q : PV → Sto → Prop} {E : Exn → Sto → Prop}
theorem encP_inj {p q : Pr2} (h : encP p = encP q) : p = q := by
  simp only [encP, PV.tup.injEq, List.cons.injEq, PV.int.injEq, PV.str.injEq, and_true] at h
  exact Prod.ext h.1 h.2
theorem pl_nm {p : Pr2} (h : NmOK p) : plP (encP p) = true ∧ depP (encP p) = 1 := by
  obtain ⟨_, _, c, r, e, hc, _, hr⟩ := h
  have : (p.2.all fun c => decide (c < 1114112)) = true := by
    rw [List.all_eq_true]
    intro x hx
    rw [e] at hx
    have : x < 128 := by
      rcases List.mem_cons.mp hx with rfl | hx
      · rcases hc with rfl | rfl <;> omega
      · exact hr x hx
    simp; omega
  exact ⟨by simp [encP, plP, plPs, this], by simp [encP, depP, depPs]⟩
theorem pls_nm {l : List Pr2} (h : ∀ p ∈ l, NmOK p) : plPs (l.map encP) = true := by
  rw [plPs_iff]
  intro x hx
  obtain ⟨p, hp, rfl⟩ := List.mem_map.mp hx
  exact (pl_nm (h p hp)).1
theorem mem_enc {l : List Pr2} {p : Pr2} : encP p ∈ l.map encP ↔ p ∈ l := by
  rw [List.mem_map]
  exact ⟨fun ⟨q, hq, e⟩ => encP_inj e ▸ hq, fun h => ⟨p, h, rfl⟩⟩
theorem filt_loop {acc : List Pr2} {x0 x2 : Option PV} {QL : List PV → Sto → Prop} {EE : Exn → Sto → Prop} (ha : ∀ p ∈ acc, NmOK p) : ∀ (zs dn : List Pr2) (x3 : Option PV), (∀ p ∈ zs, NmOK p) → dn.length + zs.length < 1000 →
    Z (lcL (gN 3) (eB (eBin (inDM true) (eVar 3) (eVar 1))) (eVar 3) [x0, some (.lst (acc.map encP)), x2, x3] (zs.map encP) (dn.map encP) st) QL EE = QL ((dn ++ zs.filter fun p => decide (p ∉ acc)).map encP) st
  | [], dn, x3, hz, hl => by simp [lc_nil]
  | p :: zs, dn, x3, hz, hl => by
    simp only [List.length_cons] at hl
    have hp := pl_nm (hz p (by simp))
    have hd : dn.length < 16777216 := by omega
    have ic := fun (Q : PV → Sto → Prop) (E : Exn → Sto → Prop) => Z_inD (n := true) (x := encP p) (y := .lst (acc.map encP)) (ys := acc.map encP) (st := st) (Q := Q) (E := E) rfl hp.1 (pls_nm ha) (by omega)
    simp only [mem_enc] at ic
    rw [List.map_cons, lc_cons]
    by_cases q : p ∈ acc
    · simp only [q, decide_true, ng] at ic
      simp [ic]
      rw [filt_loop ha zs dn _ (fun p hp => hz p (by simp [hp])) (by omega)]
      simp [q]
    · simp only [q, decide_false, ng] at ic
      simp [ic, hd]
      have e : dn.map encP ++ [encP p] = (dn ++ [p]).map encP := by simp
      rw [e, filt_loop ha zs (dn ++ [p]) _ (fun p hp => hz p (by simp [hp])) (by simp; omega)]
      simp [q]
theorem ln_loop {d : Nat} {f : List PV → M PV} {x0 : Option PV} {QF : Fl → Sto → Prop} {EE : Exn → Sto → Prop}
    (hf : ∀ (y : PV) (st : Sto) (Q : PV → Sto → Prop) (E : Exn → Sto → Prop), TP d y → (∀ zs : List Pr2, zs.Nodup → (∀ p, p ∈ zs ↔ p ∈ nms d y) → Q (.lst (zs.map encP)) st) → Z (f [y] st) Q E) : ∀ (xs : List PV) (acc : List Pr2) (x2 x3 : Option PV), (∀ y ∈ xs, TP d y) → acc.Nodup → (∀ p ∈ acc, NmOK p) → acc.length + xs.length * 3 ^ d ≤ 500 →
    (∀ (acc' : List Pr2) x2 x3, acc'.Nodup → (∀ p, p ∈ acc' ↔ p ∈ acc ∨ p ∈ xs.flatMap (nms d)) → QF (.next [x0, some (.lst (acc'.map encP)), x2, x3]) st) →
    Z (forL (gN 2) (L0__law_names n f) xs [x0, some (.lst (acc.map encP)), x2, x3] st) QF EE
  | [], acc, x2, x3, hT, nd, ha, hl, h => by
    rw [Z_forL_nil]
    exact h acc x2 x3 nd (fun p => by simp)
  | y :: xs, acc, x2, x3, hT, nd, ha, hl, h => by
    have hy := hT y (by simp)
    rw [List.length_cons, Nat.add_mul] at hl
    rw [Z_forL]
    simp [zL0__law_names]
    refine hf y st _ _ hy fun zs zn hz => ?_
    have zok : ∀ p ∈ zs, NmOK p := fun p hp => nms_ok d hy p ((hz p).mp hp)
    have zl : zs.length ≤ 3 ^ d := Nat.le_trans (nodup_len zn fun p hp => (hz p).mp hp) (nms_len d hy)
    simp
    have fl := fun (QL : List PV → Sto → Prop) (EE : Exn → Sto → Prop) x3 => filt_loop (acc := acc) (x0 := x0) (x2 := some y) (st := st) (QL := QL) (EE := EE) ha zs [] x3 zok (by simp; omega)
    simp only [List.map_nil, List.nil_append] at fl
    rw [fl]
    have f1 := List.length_filter_le (fun p => decide (p ∉ acc)) zs
    have nl : acc.length + (zs.filter fun p => decide (p ∉ acc)).length ≤ 16777216 := by omega
    simp only [decide_not] at nl f1 ⊢
    simp [nl]
    have e : acc.map encP ++ (zs.filter fun p => !decide (p ∈ acc)).map encP = (acc ++ zs.filter fun p => !decide (p ∈ acc)).map encP := by simp
    rw [e]
    refine ln_loop hf xs (acc ++ zs.filter fun p => !decide (p ∈ acc)) _ _ (fun z hz => hT z (by simp [hz])) ?_ (fun p hp => ?_) (by rw [List.length_append]; omega) fun acc' x2 x3 g1 g2 => ?_
    · refine List.nodup_append.mpr ⟨nd, zn.filter _, fun p hp q hq e => ?_⟩
      subst e
      have := (List.mem_filter.mp hq).2
      simp [hp] at this
    · rcases List.mem_append.mp hp with q | q
      · exact ha p q
      · exact zok p (List.mem_filter.mp q).1
    · refine h acc' x2 x3 g1 fun p => ?_
      rw [g2, List.mem_append, List.mem_filter, List.flatMap_cons, List.mem_append, ← hz]
      by_cases q : p ∈ acc <;> simp [q]
theorem lnames_run : ∀ (d e : Nat) (x : PV) (st : Sto) (Q : PV → Sto → Prop) (E : Exn → Sto → Prop), d < e → d ≤ 3 → TP d x → (∀ zs : List Pr2, zs.Nodup → (∀ p, p ∈ zs ↔ p ∈ nms d x) → Q (.lst (zs.map encP)) st) → Z (F__law_names n e [x] st) Q E
  | d, 0, x, st, Q, E, he, _, _, _ => by omega
  | d, e + 1, x, st, Q, E, he, h3, hx, h => by
    rw [z__law_names]
    unfold b__law_names
    rcases hx.cases with l | ⟨e', o, xs, rfl, rfl, l3, _, hy⟩
    · rcases l with ⟨w, rfl⟩ | ⟨p, rfl, hp⟩
      · simp
        exact h [] List.nodup_nil fun p => by rw [nms_int]
      · have q := h [p] (by simp) fun q => by rw [nms_nam]
        simp only [encP, List.map_cons, List.map_nil] at q ⊢
        simp [L2.ixN]
        exact q
    · have c1 : cutL (PV.str o :: xs) (some 1) none = xs := cut_from (by omega) (by simp; omega)
      simp [L2.ixN, c1]
      have pw : 3 ^ e' ≤ 9 := Nat.pow_le_pow_right (n := 3) (by omega) (show e' ≤ 2 by omega)
      have xl : xs.length * 3 ^ e' ≤ 27 := Nat.le_trans (Nat.mul_le_mul l3 pw) (by omega)
      refine ln_loop (d := e') (fun y st Q E hT h => lnames_run e' e y st Q E (by omega) (by omega) hT h) xs [] _ _ hy List.nodup_nil (by simp) (by simp; omega) fun acc' x2 x3 g1 g2 => ?_
      simp
      exact h acc' g1 fun p => by rw [g2, nms_op]; simp

end
section
variable {n b : Nat} {st : Sto} {Q : PV → Sto → Prop} {E : Exn → Sto → Prop}
theorem before_run {p q : Pr2} (h : leP p q = true) (ne : p ≠ q) : Z (F__law_before n [encP p, encP q] st) Q E = Q (.bl true) st := by
  obtain ⟨i, s⟩ := p
  obtain ⟨j, r⟩ := q
  simp only [leP, Bool.or_eq_true, Bool.and_eq_true, decide_eq_true_eq] at h
  have e1 : ∀ (Q : PV → Sto → Prop) (E : Exn → Sto → Prop), Z (neM (.int i) (.int j) st) Q E = Q (.bl (!decide (i = j))) st := fun Q E => by
    rw [Z_neP rfl rfl]
    congr 2
    simp
  rw [z__law_before]
  unfold b__law_before
  by_cases e : i = j
  · subst e
    have lt : s < r := by
      rcases h with h | h
      · omega
      · rcases Classical.em (s < r) with q | q
        · exact q
        · exfalso
          have : r ≤ s := List.not_lt.mp q
          exact ne (by rw [List.le_antisymm h.2 this])
    simp [encP, L2.ixN, e1, lt]
  · have lt : i < j := by omega
    simp [encP, L2.ixN, e1, e, lt]
theorem rises_loop {m : Nat} {ys : List Pr2} {QL : List PV → Sto → Prop} {EE : Exn → Sto → Prop} (hm : st[m]? = some (.lst (ys.map encP))) (hs : ys.Pairwise (fun a b => leP a b = true)) (nd : ys.Nodup) (hl : ys.length < 64) : ∀ (k j : Nat) (acc : List PV) (x1 : Option PV), j + k + 1 = ys.length → acc.length = j → (∀ v ∈ acc, v = .bl true) → (∀ vs, (∀ v ∈ vs, v = .bl true) → QL vs st) →
    Z (lcL (gN 1) tYesM (eCall (F__law_before n) (aCons (eBin ixM (eVar 0) (eVar 1)) (aCons (eBin ixM (eVar 0) (eBin addV (eVar 1) (eC (.int 1)))) aNil))) [some (.loc m), x1] ((List.range' j k).map fun k : Nat => PV.int k) acc st) QL EE
  | 0, j, acc, x1, hj, ha, hv, h => by
    simp only [List.range'_zero, List.map_nil, lc_nil]
    exact h acc hv
  | k + 1, j, acc, x1, hj, ha, hv, h => by
    have j1 : j < ys.length := by omega
    have j2 : j + 1 < ys.length := by omega
    have e1 : L2.atI (ys.map encP) (j : Int) = some (encP ys[j]) := atI_nat (by simp [j1])
    have e2 : L2.atI (ys.map encP) ((j : Int) + 1) = some (encP ys[j + 1]) := by
      rw [show (j : Int) + 1 = ((j + 1 : Nat) : Int) by omega]
      exact atI_nat (by simp [j2])
    have le := List.pairwise_iff_getElem.mp hs j (j + 1) j1 j2 (by omega)
    have ne := List.pairwise_iff_getElem.mp nd j (j + 1) j1 j2 (by omega)
    have az : acc.length < 16777216 := by omega
    simp only [List.range'_succ, List.map_cons, lc_cons]
    simp [hm, e1, e2, L2.ixN, before_run le ne, az]
    exact rises_loop hm hs nd hl k (j + 1) (acc ++ [.bl true]) _ (by omega) (by simp [ha]) (fun v hv' => by
      rcases List.mem_append.mp hv' with q | q
      · exact hv v q
      · simpa using q) h
theorem all_true {vs : List PV} (h : ∀ v ∈ vs, v = .bl true) : Z (allM false [.lst vs] st) Q E = Q (.bl true) st := by
  have bo : ∀ vs : List PV, (∀ v ∈ vs, v = .bl true) → boolsOf vs = some (vs.map fun _ => true) := by
    intro vs
    induction vs with
    | nil => intro _; rfl
    | cons v vs ih =>
      intro h
      rw [h v (by simp)]
      simp [boolsOf, ih fun v hv => h v (by simp [hv])]
  have e : allM false [.lst vs] st = .ok (.bl true) st := by
    unfold allM
    have : MP.listOf (.lst vs) st = some vs := rfl
    simp only [this, bo vs h]
    simp
  unfold Z
  rw [e]
theorem rises_run {m : Nat} {ys : List Pr2} (hm : st[m]? = some (.lst (ys.map encP))) (hs : ys.Pairwise (fun a b => leP a b = true)) (nd : ys.Nodup) (hl : ys.length < 64) : Z (F__law_rises n [.loc m] st) (fun v s => v = .bl true ∧ s = st) E0 := by
  rw [z__law_rises]
  unfold b__law_rises
  have rg : ∀ (QL : List PV → Sto → Prop) (E : Exn → Sto → Prop), Z (range1 [.int ((ys.length : Int) - 1)] st) QL E = QL ((List.range' 0 (ys.length - 1)).map fun k : Nat => PV.int k) st := fun QL E => by
    have : range1 [.int ((ys.length : Int) - 1)] st = .ok ((List.range' 0 (ys.length - 1)).map fun k : Nat => PV.int k) st := by
      unfold range1
      have h1 : rangeOk ((ys.length : Int) - 1) = true := by unfold rangeOk; simp; omega
      simp only [h1, if_true]
      rw [show ((ys.length : Int) - 1).toNat = ys.length - 1 by omega, List.range_eq_range']
      simp [M.ret]
    unfold Z
    rw [this]
  simp [hm, rg]
  cases hy : ys with
  | nil =>
    simp [lc_nil]
    rw [all_true (by simp)]
    simp
  | cons y r =>
    rw [← hy]
    refine rises_loop hm hs nd hl (ys.length - 1) 0 [] none (by rw [hy]; simp) rfl (by simp) fun vs hv => ?_
    simp
    rw [all_true hv]
    simp
noncomputable def ptF (g : Pr2 → PV) : Nat → PV → PV
  | 0, x => match prOf x with | some p => g p | none => x
  | d + 1, x => match x with
    | .tup (.str o :: xs) => .tup (.str o :: xs.map (ptF g d))
    | x => match prOf x with | some p => g p | none => x
theorem ptF_nam (g : Pr2 → PV) (d : Nat) (p : Pr2) : ptF g d (encP p) = g p := by cases d <;> rfl
theorem ptF_int (g : Pr2 → PV) (d : Nat) (w : Int) : ptF g d (.int w) = .int w := by cases d <;> rfl
theorem ptF_op (g : Pr2 → PV) (d : Nat) (o : List Nat) (xs : List PV) : ptF g (d + 1) (.tup (.str o :: xs)) = .tup (.str o :: xs.map (ptF g d)) := rfl
theorem nk_enc (p : Pr2) : (nkT (encP p)).isSome = true := by simp [encP, nkT, nksOf, nkOf, NestedKey.depthAll, NestedKey.depth]

end
section
variable {n b : Nat} {st : Sto} {Q : PV → Sto → Prop} {E : Exn → Sto → Prop}
theorem pi_loop {d t : Nat} {g : Pr2 → PV} {f : List PV → M PV} {x0 : Option PV} {QL : List PV → Sto → Prop} {EE : Exn → Sto → Prop} : ∀ (xs acc : List PV) (x2 : Option PV), (∀ y ∈ xs, ∀ (Q : PV → Sto → Prop) (E : Exn → Sto → Prop), Q (ptF g d y) st → Z (f [y, .loc t] st) Q E) → acc.length + xs.length < 1000 → QL (acc ++ xs.map (ptF g d)) st →
    Z (lcL (gN 2) tYesM (eCall f (aCons (eVar 2) (aCons (eVar 1) aNil))) [x0, some (.loc t), x2] xs acc st) QL EE
  | [], acc, x2, hf, hl, h => by
    rw [lc_nil]
    simpa using h
  | y :: xs, acc, x2, hf, hl, h => by
    simp only [List.length_cons] at hl
    have ha : acc.length < 16777216 := by omega
    rw [lc_cons]
    simp
    refine hf y (by simp) _ _ ?_
    simp [ha]
    exact pi_loop xs (acc ++ [ptF g d y]) _ (fun z hz => hf z (by simp [hz])) (by simp; omega) (by simpa using h)
theorem put_run {t : Nat} {g : Pr2 → PV} {kvs : List (PV × PV)} (ht : st[t]? = some (.dcn kvs)) : ∀ (d e : Nat) (x : PV) (Q : PV → Sto → Prop) (E : Exn → Sto → Prop), d < e → TP d x → (∀ p ∈ nms d x, lookP kvs (encP p) = some (g p)) → Q (ptF g d x) st → Z (F_put_in n e [x, .loc t] st) Q E
  | d, 0, x, Q, E, he, _, _, _ => by omega
  | d, e + 1, x, Q, E, he, hx, hk, h => by
    rw [z_put_in]
    unfold b_put_in
    rcases hx.cases with l | ⟨e', o, xs, rfl, rfl, l3, _, hy⟩
    · rcases l with ⟨w, rfl⟩ | ⟨p, rfl, hp⟩
      · rw [ptF_int] at h
        simp
        exact h
      · rw [ptF_nam] at h
        have ix : ∀ (Q : PV → Sto → Prop) (E : Exn → Sto → Prop), Z (ixM (.loc t) (encP p) st) Q E = Q (g p) st := fun Q E => by
          rw [Z_ixN ht (nk_enc p), hk p (by rw [nms_nam]; simp)]
          rfl
        simp only [encP] at ix ⊢
        simp [L2.ixN, ix]
        exact h
    · have c1 : cutL (PV.str o :: xs) (some 1) none = xs := cut_from (by omega) (by simp; omega)
      rw [ptF_op] at h
      have xz : xs.length ≤ 16777216 := by omega
      have xz2 : 1 + xs.length ≤ 16777216 := by omega
      simp [L2.ixN, c1]
      refine pi_loop (d := e') xs [] _ (fun y hy' Q E q => put_run ht e' e y Q E (by omega) (hy y hy') (fun p hp => hk p (by rw [nms_op]; exact List.mem_flatMap.mpr ⟨y, hy', hp⟩)) q) (by simp; omega) ?_
      simp [xz, xz2]
      exact h
theorem lp_loop {d t c : Nat} {g : Pr2 → PV} {kvs : List (PV × PV)} {f : List PV → M PV} {x0 : Option PV} {QF : Fl → Sto → Prop} {EE : Exn → Sto → Prop} (htc : t ≠ c) : ∀ (xs acc : List PV) (st : Sto) (x3 : Option PV), st[t]? = some (.dcn kvs) → (∀ y ∈ xs, ∀ (st : Sto) (Q : PV → Sto → Prop) (E : Exn → Sto → Prop), st[t]? = some (.dcn kvs) → (∀ s, Bw st.length st s → Q (ptF g d y) s) → Z (f [y, .loc t] st) Q E) → st[c]? = some (.lst acc) → acc.length + xs.length < 1000 →
    (∀ s x3, s[c]? = some (.lst (acc ++ xs.map (ptF g d))) → (∀ k, k < st.length → k ≠ c → s[k]? = st[k]?) → st.length ≤ s.length → QF (.next [x0, some (.loc t), some (.loc c), x3]) s) →
    Z (forL (gN 3) (L0__law_put n f) xs [x0, some (.loc t), some (.loc c), x3] st) QF EE
  | [], acc, st, x3, ht, hf, hm, hl, h => by
    rw [Z_forL_nil]
    exact h st x3 (by simpa using hm) (fun _ _ _ => rfl) (Nat.le_refl _)
  | y :: xs, acc, st, x3, ht, hf, hm, hl, h => by
    simp only [List.length_cons] at hl
    have lc := getN hm
    have lt := getN ht
    have az : acc.length < 16777216 := by omega
    rw [Z_forL]
    simp [zL0__law_put, hm]
    refine hf y (by simp) st _ _ ht fun s bw => ?_
    have hm1 : s[c]? = some (.lst acc) := by rw [bw.eq c lc]; exact hm
    simp [hm1, az]
    refine lp_loop htc xs (acc ++ [ptF g d y]) _ _ (by rw [List.getElem?_set_ne (Ne.symm htc), bw.eq t lt]; exact ht) (fun z hz => hf z (by simp [hz])) (by rw [List.getElem?_set_self (getN hm1)]) (by simp; omega) fun s2 y3 g1 g2 g3 => ?_
    have l1 := bw.le
    simp at g3
    refine h s2 _ (by simpa using g1) (fun k a c' => ?_) (by omega)
    rw [g2 k (by simp; omega) c', List.getElem?_set_ne (Ne.symm c'), bw.eq k a]
theorem lput_run {t : Nat} {g : Pr2 → PV} {kvs : List (PV × PV)} : ∀ (d e : Nat) (x : PV) (st : Sto) (Q : PV → Sto → Prop) (E : Exn → Sto → Prop), st[t]? = some (.dcn kvs) → d < e → TP d x → (∀ p ∈ nms d x, lookP kvs (encP p) = some (g p)) → (∀ s, Bw st.length st s → Q (ptF g d x) s) → Z (F__law_put n e [x, .loc t] st) Q E
  | d, 0, x, st, Q, E, ht, he, _, _, _ => by omega
  | d, e + 1, x, st, Q, E, ht, he, hx, hk, h => by
    have lt := getN ht
    rw [z__law_put]
    unfold b__law_put
    rcases hx.cases with l | ⟨e', o, xs, rfl, rfl, l3, _, hy⟩
    · rcases l with ⟨w, rfl⟩ | ⟨p, rfl, hp⟩
      · rw [ptF_int] at h
        simp
        exact h st ⟨Nat.le_refl _, fun _ _ => rfl⟩
      · rw [ptF_nam] at h
        have ix : ∀ (Q : PV → Sto → Prop) (E : Exn → Sto → Prop), Z (ixM (.loc t) (encP p) st) Q E = Q (g p) st := fun Q E => by
          rw [Z_ixN ht (nk_enc p), hk p (by rw [nms_nam]; simp)]
          rfl
        simp only [encP] at ix ⊢
        simp [L2.ixN, ix]
        exact h st ⟨Nat.le_refl _, fun _ _ => rfl⟩
    · have c1 : cutL (PV.str o :: xs) (some 1) none = xs := cut_from (by omega) (by simp; omega)
      rw [ptF_op] at h
      simp [L2.ixN, c1]
      refine lp_loop (c := st.length) (d := e') (g := g) (by omega) xs [.str o] _ _ (by rw [List.getElem?_append_left lt]; exact ht) (fun y hy' st Q E ht' q => lput_run e' e y st Q E ht' (by omega) (hy y hy') (fun p hp => hk p (by rw [nms_op]; exact List.mem_flatMap.mpr ⟨y, hy', hp⟩)) q) (by simp) (by simp; omega) fun s x3 g1 g2 g3 => ?_
      have xz : 1 + xs.length ≤ 16777216 := by omega
      have xz3 : xs.length + 1 ≤ 16777216 := by omega
      simp [g1, xz, xz3]
      exact h s ⟨by simp at g3; omega, fun k hk => by rw [g2 k (by simp; omega) (by omega), List.getElem?_append_left hk]⟩
theorem tp_pl : ∀ (d : Nat) {x : PV}, TP d x → plP x = true ∧ depP x ≤ d + 1
  | d, x, h => by
    rcases h.cases with l | ⟨e', o, xs, rfl, rfl, l3, ho, hy⟩
    · rcases l with ⟨w, rfl⟩ | ⟨p, rfl, hp⟩
      · exact ⟨rfl, by simp [depP]⟩
      · have := pl_nm hp
        exact ⟨this.1, by omega⟩
    · have h1 : (o.all fun c => decide (c < 1114112)) = true := List.all_eq_true.mpr fun c hc => by have := ho c hc; simp; omega
      have h2 : plPs xs = true := plPs_iff.mpr fun y hy' => (tp_pl e' (hy y hy')).1
      have h3 : depPs xs ≤ e' + 1 := by
        have : ∀ l : List PV, (∀ y ∈ l, depP y ≤ e' + 1) → depPs l ≤ e' + 1 := by
          intro l
          induction l with
          | nil => intro _; simp [depPs]
          | cons a l ih => intro h; have := h a (by simp); have := ih fun y hy => h y (by simp [hy]); simp [depPs]; omega
        exact this xs fun y hy' => (tp_pl e' (hy y hy')).2
      exact ⟨by simp [plP, plPs, h1, h2], by simp [depP, depPs]; omega⟩
theorem put_pl {g : Pr2 → PV} {m : Nat} : ∀ (d : Nat) {x : PV}, TP d x → (∀ p ∈ nms d x, plP (g p) = true ∧ depP (g p) ≤ m) → plP (ptF g d x) = true ∧ depP (ptF g d x) ≤ d + 1 + m
  | d, x, h, hg => by
    rcases h.cases with l | ⟨e', o, xs, rfl, rfl, l3, ho, hy⟩
    · rcases l with ⟨w, rfl⟩ | ⟨p, rfl, hp⟩
      · rw [ptF_int]; exact ⟨rfl, by simp [depP]⟩
      · rw [ptF_nam]
        have := hg p (by rw [nms_nam]; simp)
        exact ⟨this.1, by omega⟩
    · rw [ptF_op]
      have ih := fun y hy' => put_pl e' (hy y hy') fun p hp => hg p (by rw [nms_op]; exact List.mem_flatMap.mpr ⟨y, hy', hp⟩)
      have h1 : (o.all fun c => decide (c < 1114112)) = true := List.all_eq_true.mpr fun c hc => by have := ho c hc; simp; omega
      have h2 : plPs (xs.map (ptF g e')) = true := plPs_iff.mpr fun z hz => by
        obtain ⟨y, hy', rfl⟩ := List.mem_map.mp hz
        exact (ih y hy').1
      have h3 : depPs (xs.map (ptF g e')) ≤ e' + 1 + m := by
        have : ∀ l : List PV, (∀ y ∈ l, depP y ≤ e' + 1 + m) → depPs l ≤ e' + 1 + m := by
          intro l
          induction l with
          | nil => intro _; simp [depPs]
          | cons a l ih => intro h; have := h a (by simp); have := ih fun y hy => h y (by simp [hy]); simp [depPs]; omega
        exact this _ fun z hz => by
          obtain ⟨y, hy', rfl⟩ := List.mem_map.mp hz
          exact (ih y hy').2
      exact ⟨by simp [plP, plPs, h1, h2], by simp [depP, depPs]; omega⟩

end
section
theorem lookP_put {kvs : List (PV × PV)} {k k' v : PV} : lookP (putP kvs k v) k' = if k = k' then some v else lookP kvs k' := by
  have h1 : ∀ (kvs : List (PV × PV)), (kvs.any fun kv => decide (kv.1 = k)) = true → lookP (kvs.map (fun kv => if kv.1 = k then (kv.1, v) else kv)) k' = if k = k' then some v else lookP kvs k' := by
    intro kvs
    induction kvs with
    | nil => intro h; simp at h
    | cons a r ih =>
      intro h
      simp only [List.map_cons, lookP]
      by_cases e : a.1 = k
      · simp only [e, if_true]
        by_cases e2 : k = k'
        · simp [e2]
        · simp only [e2, if_false]
          by_cases hr : (r.any fun kv => decide (kv.1 = k)) = true
          · rw [ih hr, if_neg e2]
          · have e3 : r.map (fun kv => if kv.1 = k then (kv.1, v) else kv) = r := by
              refine (List.map_congr_left fun x hx => ?_).trans (List.map_id _)
              have : ¬ x.1 = k := fun ex => hr (List.any_eq_true.mpr ⟨x, hx, by simpa using ex⟩)
              simp [this]
            rw [e3]
      · simp only [e, if_false]
        have hr : (r.any fun kv => decide (kv.1 = k)) = true := by simpa [e] using h
        rw [ih hr]
        by_cases e2 : a.1 = k'
        · have e3 : ¬ k = k' := fun x => e (by rw [e2, x])
          simp [e2, e3]
        · simp [e2]
  have h2 : ∀ (kvs : List (PV × PV)), ¬ (kvs.any fun kv => decide (kv.1 = k)) = true → lookP (kvs ++ [(k, v)]) k' = if k = k' then some v else lookP kvs k' := by
    intro kvs
    induction kvs with
    | nil => intro _; simp [lookP]
    | cons a r ih =>
      intro h
      have h' : ¬ a.1 = k ∧ ¬ (r.any fun kv => decide (kv.1 = k)) = true := by
        refine ⟨fun e => h (by simp [e]), fun e => h ?_⟩
        rw [List.any_cons, e, Bool.or_true]
      simp only [List.cons_append, lookP]
      rw [ih h'.2]
      by_cases e2 : a.1 = k'
      · have e3 : ¬ k = k' := fun x => h'.1 (by rw [e2, x])
        simp [e2, e3]
      · simp [e2]
  unfold putP
  by_cases h : (kvs.any fun kv => decide (kv.1 = k)) = true
  · rw [if_pos h, h1 kvs h]
  · rw [if_neg h, h2 kvs h]
variable {n b : Nat} {st : Sto} {Q : PV → Sto → Prop} {E : Exn → Sto → Prop}
theorem chk_loop {m : Nat} {vs0 : List PV} {zs : List Pr2} {x0 x1 x2 x3 x5 x6 x7 : Option PV} {QL : List PV → Sto → Prop} {EE : Exn → Sto → Prop} (hm : st[m]? = some (.lst vs0)) (hz : ∀ p ∈ zs, NmOK p) : ∀ (l : List Pr2) (acc : List PV), (∀ p ∈ l, p ∈ zs) → acc.length + l.length < 1000 → (∀ v ∈ acc, v = .bl true) → (∀ vs, (∀ v ∈ vs, v = .bl true) → QL vs st) →
    Z (lcG (gd m vs0) (gN 8) tYesM (eAndV (eBin (inDM false) (eVar 8) (eVar 4)) (eCall isiM (aCons (eVar 8) (aCons (eC (.ty "tuple")) aNil)))) [x0, x1, x2, x3, some (.lst (zs.map encP)), x5, x6, x7, none] (l.map encP) acc st) QL EE
  | [], acc, hl, ha, hv, h => by
    rw [List.map_nil, lcG_nil (gd_of hm)]
    exact h acc hv
  | p :: l, acc, hl, ha, hv, h => by
    simp only [List.length_cons] at ha
    have hp := pl_nm (hz p (hl p (by simp)))
    have az : acc.length < 16777216 := by omega
    have ic := fun (Q : PV → Sto → Prop) (E : Exn → Sto → Prop) => Z_inD (n := false) (x := encP p) (y := .lst (zs.map encP)) (ys := zs.map encP) (st := st) (Q := Q) (E := E) rfl hp.1 (pls_nm hz) (by omega)
    simp only [mem_enc, hl p (by simp), decide_true, ng] at ic
    have ti : ∀ (Q : PV → Sto → Prop) (E : Exn → Sto → Prop), Z (isiM [encP p, .ty "tuple"] st) Q E = Q (.bl true) st := fun Q E => by simp [encP]
    rw [List.map_cons, lcG_cons (gd_of hm)]
    simp [ic, ti, az]
    exact chk_loop hm hz l (acc ++ [.bl true]) (fun q hq => hl q (by simp [hq])) (by simp; omega) (fun v hv' => by
      rcases List.mem_append.mp hv' with q | q
      · exact hv v q
      · simpa using q) h
theorem dict_loop {ns : List Int} {ys : List Pr2} {t : Nat} {k : Nat} {x2 x3 x5 x8 : Option PV} {QF : Fl → Sto → Prop} {EE : Exn → Sto → Prop} (hl : ns.length ≤ 63) (hk : k < 8) (hy : ∀ p ∈ ys, NmOK p) (nd : ys.Nodup) (yl : ys.length < 64) : ∀ (m j : Nat) (kvs : List (PV × PV)) (st : Sto) (x7 : Option PV), j + m = ys.length → st[t]? = some (.dcn kvs) → kvs.length ≤ j → (∀ (i : Nat) p, i < j → ys[i]? = some p → ∃ v, lookP kvs (encP p) = some v ∧ TP 2 v) →
    (∀ kvs s x7, s[t]? = some (.dcn kvs) → (∀ p ∈ ys, ∃ v, lookP kvs (encP p) = some v ∧ TP 2 v) → QF (.next [some (.frz (ns.map .int)), some (.int k), x2, x3, some (.lst (ys.map encP)), x5, some (.loc t), x7, x8]) s) →
    Z (forL (gN 7) (L1_law n) ((List.range' j m).map fun k : Nat => PV.int k) [some (.frz (ns.map .int)), some (.int k), x2, x3, some (.lst (ys.map encP)), x5, some (.loc t), x7, x8] st) QF EE
  | 0, j, kvs, st, x7, hj, ht, kl, hv, h => by
    simp only [List.range'_zero, List.map_nil]
    rw [Z_forL_nil]
    refine h kvs st x7 ht fun p hp => ?_
    obtain ⟨i, hi⟩ := List.getElem?_of_mem hp
    have il : i < ys.length := by
      rcases Nat.lt_or_ge i ys.length with q | q
      · exact q
      · rw [List.getElem?_eq_none q] at hi; cases hi
    exact hv i p (by omega) hi
  | m + 1, j, kvs, st, x7, hj, ht, kl, hv, h => by
    have jl : j < ys.length := by omega
    have ey : ys[j]? = some ys[j] := List.getElem?_eq_getElem jl
    have my := List.getElem_mem jl
    have ay : L2.atI (ys.map encP) (j : Int) = some (encP ys[j]) := atI_nat (by simp [jl])
    generalize hyj : ys[j] = p at ey ay my
    have hp := hy p my
    obtain ⟨i, tt⟩ := p
    obtain ⟨_, _, c, r, e, hc, rl, _⟩ := hp
    simp only at e
    subst e
    have mo : mulOk 7 (k : Int) = true := by simp [mulOk]
    have tl : (c :: r).length ≤ 16777216 := by simp; omega
    have tl' : r.length + 1 ≤ 16777216 := by omega
    have a0 : L2.atI (c :: r) ((0 : Nat) : Int) = some c := atI_nat rfl
    rw [show ((0 : Nat) : Int) = 0 from rfl] at a0
    simp only [List.range'_succ, List.map_cons]
    rw [Z_forL]
    simp [zL1_law, mo]
    refine box_at hl fun cb B => ?_
    simp [ay, encP, L2.ixN, a0, tl']
    refine term_draw 2 20 c _ _ _ (by omega) hc B fun x s hx bx => ?_
    have lt := getN ht
    have ht1 : s[t]? = some (.dcn kvs) := bx.at (by rw [List.getElem?_append_left lt]; exact ht) (by omega)
    have kz : kvs.length < 16777216 := by omega
    have sn := fun (QU : Unit → Sto → Prop) (E : Exn → Sto → Prop) => Z_setN (v := x) (QU := QU) (E := E) ht1 (nk_enc (i, c :: r)) kz
    simp only [encP] at sn
    simp [ay, encP, L2.ixN, sn]
    have pl := putP_len kvs (encP (i, c :: r)) x
    refine dict_loop hl hk hy nd yl m (j + 1) (putP kvs (encP (i, c :: r)) x) _ _ (by omega) (by rw [List.getElem?_set_self (getN ht1)]; rfl) (by omega) (fun i' q hi' hq => ?_) h
    rw [lookP_put]
    by_cases ep : encP (i, c :: r) = encP q
    · rw [if_pos ep]; exact ⟨x, rfl, hx⟩
    · rw [if_neg ep]
      by_cases e2 : i' = j
      · subst e2
        rw [ey] at hq
        cases hq
        exact absurd rfl ep
      · exact hv i' q (by omega) hq
theorem round {ns : List Int} {k : Nat} {x2 x3 x4 x5 x6 x7 x8 : Option PV} {QF : Fl → Sto → Prop} {EE : Exn → Sto → Prop} (hl : ns.length ≤ 63) (hk : k < 8) (h : ∀ s x2 x3 x4 x5 x6 x7 x8, QF (.next [some (.frz (ns.map .int)), some (.int k), x2, x3, x4, x5, x6, x7, x8]) s) :
    Z (L0_law n [some (.frz (ns.map .int)), some (.int k), x2, x3, x4, x5, x6, x7, x8] st) QF EE := by
  have mo : mulOk 7 (k : Int) = true := by simp [mulOk]
  rw [zL0_law]
  simp [mo]
  refine box_at hl fun cb B => ?_
  simp
  refine tkN (m := 2) B (by decide) (by decide) fun i s hi bx => ?_
  obtain ⟨c, a, hc⟩ : ∃ c, L2.atI [PV.str [110], .str [114]] (i : Int) = some (.str [c]) ∧ (c = 110 ∨ c = 114) := by
    have : i = 0 ∨ i = 1 := by omega
    rcases this with rfl | rfl
    · exact ⟨_, rfl, .inl rfl⟩
    · exact ⟨_, rfl, .inr rfl⟩
  simp [a, L2.ixN]
  refine term_draw 3 20 c _ _ _ (by omega) hc bx.bb fun x s1 hx bx1 => ?_
  simp
  refine lnames_run 3 20 x _ _ _ (by omega) (by omega) hx fun ys nd hm => ?_
  have hy : ∀ p ∈ ys, NmOK p := fun p hp => nms_ok 3 hx p ((hm p).mp hp)
  have yl : ys.length ≤ 27 := Nat.le_trans (nodup_len nd fun p hp => (hm p).mp hp) (nms_len 3 hx)
  simp
  refine names_run 3 20 x _ _ _ (by omega) (by omega) hx fun m s2 hm2 lm bw => ?_
  have sl := snm_len hx
  have el : (snm 3 x).length = ys.length := by
    have h1 := nodup_len (snm_nd (d := 3) (x := x)) fun p hp => (hm p).mpr (mem_snm.mp hp)
    have h2 := nodup_len nd fun p hp => mem_snm.mpr ((hm p).mp hp)
    omega
  have rr := rises_run (n := n) (ys := snm 3 x) hm2 (sortP_pw _) snm_nd (by omega)
  have ti : ∀ (Q : PV → Sto → Prop) (E : Exn → Sto → Prop), Z (isiM [.loc m, .ty "list"] s2) Q E = Q (.bl true) s2 := fun Q E => by
    have : tyP (.loc m) s2 = some "list" := by unfold tyP; simp [hm2]
    rw [Z_isi (by decide) this]
    rfl
  simp [ti, hm2, el]
  refine rr.go fun v s3 hv => ?_
  obtain ⟨rfl, rfl⟩ := hv
  simp [hm2]
  rw [kLcA_g]
  refine chk_loop hm2 hy (snm 3 x) [] (fun p hp => (hm p).mpr (mem_snm.mp hp)) (by simp; omega) (by simp) fun vs hv => ?_
  simp
  rw [all_true hv]
  have sz : (snm 3 x).length < 16777216 := by omega
  have yz : ys.length ≤ 16777216 := by omega
  have yz2 : ys.length < 16777216 := by omega
  have rg : ∀ (s : Sto) (QL : List PV → Sto → Prop) (E : Exn → Sto → Prop), Z (range1 [.int (ys.length : Int)] s) QL E = QL ((List.range' 0 ys.length).map fun k : Nat => PV.int k) s := fun s QL E => by
    rw [← List.range_eq_range']
    exact Z_rangeN yz
  simp [hm2, el, yz2]
  rw [rg]
  refine dict_loop hl hk hy nd (by omega) ys.length 0 [] _ _ (by omega) (by simp) (by simp) (fun i p hi _ => by omega) fun kvs s4 y7 ht hv => ?_
  have hk2 : ∀ p ∈ nms 3 x, lookP kvs (encP p) = some ((lookP kvs (encP p)).getD .non) := fun p hp => by
    obtain ⟨v, e, _⟩ := hv p ((hm p).mpr hp)
    rw [e]; rfl
  have hg : ∀ p ∈ nms 3 x, plP ((lookP kvs (encP p)).getD .non) = true ∧ depP ((lookP kvs (encP p)).getD .non) ≤ 3 := fun p hp => by
    obtain ⟨v, e, tv⟩ := hv p ((hm p).mpr hp)
    rw [e]
    exact tp_pl 2 tv
  have pp := put_pl (g := fun p => (lookP kvs (encP p)).getD .non) 3 hx hg
  have ok : okP (ptF (fun p => (lookP kvs (encP p)).getD .non) 3 x) = true := by
    simp only [okP, pp.1, Bool.true_and, decide_eq_true_eq]; omega
  simp
  refine put_run (g := fun p => (lookP kvs (encP p)).getD .non) ht 3 20 x _ _ (by omega) hx hk2 ?_
  simp
  refine lput_run (g := fun p => (lookP kvs (encP p)).getD .non) 3 20 x _ _ _ ht (by omega) hx hk2 fun s5 bw5 => ?_
  have ne : ∀ (Q : PV → Sto → Prop) (E : Exn → Sto → Prop), Z (neM (ptF (fun p => (lookP kvs (encP p)).getD .non) 3 x) (ptF (fun p => (lookP kvs (encP p)).getD .non) 3 x) s5) Q E = Q (.bl false) s5 := fun Q E => by
    rw [Z_neP ok ok]; simp
  simp [ne]
  refine names_run 3 20 x _ _ _ (by omega) (by omega) hx fun m6 s6 hm6 lm6 bw6 => ?_
  have ok6 : ∀ p ∈ snm 3 x, NmOK p := fun p hp => nms_ok 3 hx p (mem_snm.mp hp)
  have nin : ¬ (PV.int 5 ∈ (snm 3 x).map encP) := fun z => by
    obtain ⟨p, _, e⟩ := List.mem_map.mp z
    cases e
  have ind : ∀ (Q : PV → Sto → Prop) (E : Exn → Sto → Prop), Z (inDM false (.int 5) (.loc m6) s6) Q E = Q (.bl false) s6 := fun Q E => by
    rw [Z_inDc hm6 rfl (pls_nm ok6) (by simp [depP])]
    rw [decide_eq_false nin]
    rfl
  simp [ind]
  exact h s6 _ _ _ _ _ _ _
theorem law_loop {ns : List Int} {QF : Fl → Sto → Prop} {EE : Exn → Sto → Prop} (hl : ns.length ≤ 63) : ∀ (ks : List Nat) (st : Sto) (x1 x2 x3 x4 x5 x6 x7 x8 : Option PV), (∀ k ∈ ks, k < 8) → (∀ s x1 x2 x3 x4 x5 x6 x7 x8, QF (.next [some (.frz (ns.map .int)), x1, x2, x3, x4, x5, x6, x7, x8]) s) →
    Z (forL (gN 1) (L0_law n) (ks.map fun k : Nat => PV.int k) [some (.frz (ns.map .int)), x1, x2, x3, x4, x5, x6, x7, x8] st) QF EE
  | [], st, x1, x2, x3, x4, x5, x6, x7, x8, hk, h => by
    rw [List.map_nil, Z_forL_nil]
    exact h _ _ _ _ _ _ _ _ _
  | k :: ks, st, x1, x2, x3, x4, x5, x6, x7, x8, hk, h => by
    rw [List.map_cons, Z_forL]
    simp
    refine round hl (hk k (by simp)) fun s y2 y3 y4 y5 y6 y7 y8 => ?_
    exact law_loop hl ks s _ _ _ _ _ _ _ _ (fun k h' => hk k (by simp [h'])) h
theorem law_spec {ns : List Int} (hl : ns.length ≤ 63) : Z (F_law n [.frz (ns.map .int)] []) (fun v _ => v = .bl true) E0 := by
  rw [z_law]
  unfold b_law
  have rg : ∀ (s : Sto) (QL : List PV → Sto → Prop) (E : Exn → Sto → Prop), Z (range1 [.int 8] s) QL E = QL ((List.range 8).map fun k : Nat => PV.int k) s := fun s QL E => Z_rangeN (l := 8) (by omega)
  simp
  refine law_loop hl (List.range 8) _ _ _ _ _ _ _ _ _ (by simp) fun s y1 y2 y3 y4 y5 y6 y7 y8 => ?_
  simp
theorem pure_law (ns : List Int) (hl : ns.length ≤ 63) : ∃ n st, F_law n [.frz (ns.map .int)] [] = .ok (.bl true) st := by
  have h := law_spec (n := 0) hl
  cases q : F_law 0 [.frz (ns.map .int)] [] with
  | ok v st => rw [q] at h; exact ⟨0, st, by rw [q]; rw [show v = .bl true from h]⟩
  | err x st => rw [q] at h; exact h.elim
  | bad => rw [q] at h; exact h.elim

end
end K55

set_option maxRecDepth 100000
open PySem PySem.W PyProof.Rows
set_option maxRecDepth 100000 in
set_option maxHeartbeats 0 in
theorem PySem.Challenge.cw_samepaper_k55_terms_put_holds : PySem.Challenge.rw_samepaper_k55_terms_put.Holds := by
  refine HdTop ?_
  k_fill
  refine K55.walk (l := PySem.Challenge.rw_samepaper_k55_terms_put) rfl rfl (fun w h Y => PySem.W.kIn_of Y) K55.pure_law ?F
  case F =>
    intro w mg fa h KX G hmg
    refine' K55.all_mk KX G hmg ?a_names_in ?l_names_in ?c_names_in ?k_names_in ?a_put_in ?l_put_in ?c_put_in ?k_put_in ?a__law_box ?l__law_box ?c__law_box ?k__law_box ?a__law_take ?l__law_take ?c__law_take ?k__law_take ?a__law_leaf ?l__law_leaf ?c__law_leaf ?k__law_leaf ?a__law_term ?l__law_term ?c__law_term ?k__law_term ?a__law_names ?l__law_names ?c__law_names ?k__law_names ?a__law_before ?l__law_before ?c__law_before ?k__law_before ?a__law_put ?l__law_put ?c__law_put ?k__law_put ?a__law_rises ?l__law_rises ?c__law_rises ?k__law_rises ?a_law ?l_law ?c_law ?k_law ?z_isinstance ?z_tuple ?z_int ?z_sorted ?z_set ?z_len ?z_all ?z_range ?z_list
    (case a_names_in => k_is)
    (case l_names_in => k_is)
    (case c_names_in => k_is)
    (case k_names_in => k_is)
    (case a_put_in => k_is)
    (case l_put_in => k_is)
    (case c_put_in => k_is)
    (case k_put_in => k_is)
    (case a__law_box => k_is)
    (case l__law_box => k_is)
    (case c__law_box => k_is)
    (case k__law_box => k_is)
    (case a__law_take => k_is)
    (case l__law_take => k_is)
    (case c__law_take => k_is)
    (case k__law_take => k_is)
    (case a__law_leaf => k_is)
    (case l__law_leaf => k_is)
    (case c__law_leaf => k_is)
    (case k__law_leaf => k_is)
    (case a__law_term => k_is)
    (case l__law_term => k_is)
    (case c__law_term => k_is)
    (case k__law_term => k_is)
    (case a__law_names => k_is)
    (case l__law_names => k_is)
    (case c__law_names => k_is)
    (case k__law_names => k_is)
    (case a__law_before => k_is)
    (case l__law_before => k_is)
    (case c__law_before => k_is)
    (case k__law_before => k_is)
    (case a__law_put => k_is)
    (case l__law_put => k_is)
    (case c__law_put => k_is)
    (case k__law_put => k_is)
    (case a__law_rises => k_is)
    (case l__law_rises => k_is)
    (case c__law_rises => k_is)
    (case k__law_rises => k_is)
    (case a_law => k_is)
    (case l_law => k_is)
    (case c_law => k_is)
    (case k_law => k_is)
    (case z_isinstance => k_is)
    (case z_tuple => k_is)
    (case z_int => k_is)
    (case z_sorted => k_is)
    (case z_set => k_is)
    (case z_len => k_is)
    (case z_all => k_is)
    (case z_range => k_is)
    (case z_list => k_is)
