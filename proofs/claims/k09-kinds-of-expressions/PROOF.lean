import PyProof.Rows.All
import Wide.All
import OpenK.AllK
import Wide.FinOn
import KE.OsRun
import HandS.ForMost
import HandS.ForExc
import HandS.CallSlots
import HandS.Wide
import HandS.Flow
import HandS.TupAny
import HandS.TupMul
import HandS.IsInst
import HandS.EndBits
import HandS.Zip
import HandS.NoneIn
import HandS.TupLe
import KE.KDictKeyed
import KE.KDictCopyH
import PyProof.ListMulRoad
import PyProof.FactsAll.tuple_2
import PyProof.EqAt
import PyProof.NeKinds
import HandS.Text
import HandS.Codes
import HandS.More
import HandS.Replace
import HandS.RaiseMore
import KE.GoesZip
import PyProof.Rows.SetFrom
import HandS.SetKeys
import HandS.SortInts
import PyProof.StrOps2
import KE.KEqDict
import KE.KDictList
import KE.KAssignIn
import KE.KDictZip
import PyProof.StrWalks
import PyProof.CollectWalk
import KE.KDictPairs
import PyProof.Draws
import HandS.SetFor
import HandS.Strs
import HandS.Rev
import HandS.Iter
import HandS.Dict
import PyProof.AutoSeq1
import PyProof.MeetsSeq
import PyProof.IsRules
import HandS.ExcInit
import HandS.ExcField
import HandS.ExcIs
import HandS.WordsExc
import KE.KExcIs
import KE.DataMinMax
import HandS.TupSets
import KE.KSortTupUse
import HandS.SortKw
import KE.KeyNested
import KE.SortData
import HandS.Style
import PySem.Challenge.RW_samepaper_k09_kinds_of_expressions
set_option Elab.async false
set_option linter.all false
section
namespace HdRun
open PySem PySem.W PyProof.Rows
abbrev R : OpenRow := OpenLaw.row PySem.Challenge.rw_samepaper_k09_kinds_of_expressions
abbrev qv : Program := view R.prog [30]
def nm0 : List PySem.Str := ["__name__", "OPERATIONS", "kinds_of", "KIND_OF", "PART_OF", "found_in", "parts_of", "path_kind", "kind_of_expr", "_law_box", "_law_take", "_law_number", "_law_words_of", "_law_parts", "_law_least", "_law_kind", "_law_records", "_law_heads", "_law_ways", "_law_forms", "_law_plain", "_law_expr", "_law_within", "_law_let", "_law_statement", "_law_both", "_law_body", "_law_tree"]
def names : List PySem.Str := nm0
end HdRun
open PySem PySem.W PyProof.Rows
local macro_rules | `(tactic| o_head (kHook $k $a $e)) => `(tactic| (
  refine holds_open (r := HdRun.R) (q := HdRun.qv) (loose := HdRun.names) (Xt := fun s => xlAt HdRun.qv [] s && recOk (RowW.records HdRun.R.toRowW) s) (XP := XL HdRun.qv []) (Yf := Hook.obs (kHook $k $a $e)) (Ya := Hook.val (kHook $k $a $e)) (YP := Hook.says (kHook $k $a $e)) (N := 100000) ?hl (Hook.of (kHook $k $a $e)) (Hook.keeps (kHook $k $a $e)) (fun s e => xl_of s (Bool.and_eq_true_iff.mp e).1) XL.keeps (by rfl) (by rfl) (by rfl) (fun s e => recFacts_of (Bool.and_eq_true_iff.mp e).2) (by rfl) (by first | assumption | decide +kernel) (by decide +kernel) ⟨rfl, rfl, rfl, rfl, rfl, by decide +kernel⟩ ?hw ?hc
  (case hl =>
    refine HeadRun.left_oneK (M := 90000) (by kernel_rfl) (by rfl) (fun s => by kernel_rfl) (by rfl) ?_
    refine byRow2 "special-get-raises" ?_ ?_
    · intro w os; kernel_rfl
    · intro w os; kernel_rfl)))
set_option maxRecDepth 100000 in
set_option maxHeartbeats 0 in
open_top HdTop for PySem.Challenge.rw_samepaper_k09_kinds_of_expressions
end

set_option maxRecDepth 100000
namespace MP
open PySem L2

structure KW where
  w : World
  K : PySem.W.Frag
noncomputable instance : Coe KW PySem.W.Frag := ⟨KW.K⟩
noncomputable abbrev kw (X : Cx) : KW := ⟨X.w, X.K⟩

inductive PV where
  | non
  | bl (b : Bool)
  | int (i : Int)
  | str (x : List Nat)
  | ty (n : String)
  | gl (a : Addr)
  | tup (xs : List PV)
  | lst (xs : List PV)
  | frz (xs : List PV)
  | loc (n : Nat)
  | xt (xs : List PV)
mutual
noncomputable def PV.beq : PV → PV → Bool
  | .non, .non => true
  | .bl a, .bl b => a == b
  | .int a, .int b => a == b
  | .str a, .str b => a == b
  | .ty a, .ty b => a == b
  | .gl a, .gl b => a == b
  | .tup a, .tup b => PV.beqs a b
  | .lst a, .lst b => PV.beqs a b
  | .frz a, .frz b => PV.beqs a b
  | .loc a, .loc b => a == b
  | .xt a, .xt b => PV.beqs a b
  | _, _ => false
noncomputable def PV.beqs : List PV → List PV → Bool
  | [], [] => true
  | a :: r, b :: t => PV.beq a b && PV.beqs r t
  | _, _ => false
end
mutual
theorem PV.beq_iff : ∀ (a b : PV), PV.beq a b = true ↔ a = b
  | .non, b => by cases b <;> simp [PV.beq]
  | .bl x, b => by cases b <;> simp [PV.beq]
  | .int x, b => by cases b <;> simp [PV.beq]
  | .str x, b => by cases b <;> simp [PV.beq]
  | .ty x, b => by cases b <;> simp [PV.beq]
  | .gl x, b => by cases b <;> simp [PV.beq]
  | .tup x, b => by cases b <;> simp [PV.beq, PV.beqs_iff x]
  | .lst x, b => by cases b <;> simp [PV.beq, PV.beqs_iff x]
  | .frz x, b => by cases b <;> simp [PV.beq, PV.beqs_iff x]
  | .loc x, b => by cases b <;> simp [PV.beq]
  | .xt x, b => by cases b <;> simp [PV.beq, PV.beqs_iff x]
theorem PV.beqs_iff : ∀ (a b : List PV), PV.beqs a b = true ↔ a = b
  | [], b => by cases b <;> simp [PV.beqs]
  | x :: r, b => by
    cases b with
    | nil => simp [PV.beqs]
    | cons y t => simp [PV.beqs, PV.beq_iff x y, PV.beqs_iff r t]
end
noncomputable instance : DecidableEq PV := fun a b => decidable_of_iff (PV.beq a b = true) (PV.beq_iff a b)
noncomputable instance : Inhabited PV := ⟨.non⟩

inductive Cell where
  | lst (xs : List PV)
  | dct (kvs : List (PV × PV))
  | ins (C : String) (fs : List (String × PV))
  | dcl (kvs : List (PV × PV))
  | dcn (kvs : List (PV × PV))
  | lck (kvs : List (PV × PV))
noncomputable abbrev Sto := List Cell
structure Exn where
  C : String
  fs : List (String × PV)
inductive Res (α : Type) where
  | ok (a : α) (st : Sto)
  | err (x : Exn) (st : Sto)
  | bad
noncomputable abbrev M (α : Type) : Type := Sto → Res α
namespace M
variable {α β : Type}
noncomputable def ret (a : α) : M α := fun st => .ok a st
noncomputable def bind (m : M α) (f : α → M β) : M β := fun st => match m st with
  | .ok a st' => f a st'
  | .err x st' => .err x st'
  | .bad => .bad
noncomputable def fail : M α := fun _ => .bad
noncomputable def calm (m : M α) : M α := fun st => match m st with
  | .err _ _ => .bad
  | r => r
end M
noncomputable abbrev Rho := List (Option PV)
inductive Fl where
  | next (ρ : Rho)
  | ret (v : PV)
  | brk (ρ : Rho)
  | cont (ρ : Rho)
  | exc (x : Exn) (ρ : Rho)

structure Mu where
  l : List Addr
  b : List Addr
noncomputable instance : Membership Addr Mu := ⟨fun μ a => a ∈ μ.l ∨ a ∈ μ.b⟩
noncomputable def Mu.add (μ : Mu) (p : Addr) : Mu := ⟨μ.l ++ [p], μ.b⟩
noncomputable def KT (K : PySem.W.Frag) (a : Addr) (xs : List V) : Prop :=
  ∃ (o : Obj) (its : Array Value) (n : Nat), K.lookup a = some o ∧ o.cls = .type "tuple" ∧ o.data = .seq its n ∧ its.size ≤ sizeLine ∧ Vals xs its.toList
noncomputable def KL (K : PySem.W.Frag) (a : Addr) (xs : List V) : Prop :=
  ∃ (o : Obj) (its : Array Value) (n : Nat), K.lookup a = some o ∧ o.cls = .type "list" ∧ o.dict = none ∧ o.data = .seq its n ∧ its.size ≤ sizeLine ∧ Vals xs its.toList
noncomputable def TupAt (K : PySem.W.Frag) (H : Hp) (μ : Mu) (a : Addr) (vs : List V) : Prop := (Rd H a (.tup vs) ∧ a ∉ μ) ∨ KT K a vs
noncomputable def LstAt (H : Hp) (μ : Mu) (a : Addr) (vs : List V) : Prop := H a = some (.lst vs) ∧ a ∉ μ
noncomputable def FrzAt (K : PySem.W.Frag) (H : Hp) (μ : Mu) (a : Addr) (vs : List V) : Prop := (Rd H a (.lst vs) ∧ a ∉ μ) ∨ KL K a vs
noncomputable def XtAt (H : Hp) (μ : Mu) (a : Addr) (vs : List V) : Prop := (∃ o, H a = some (.frz o (.tup vs)) ∧ o.dict = none) ∧ a ∉ μ
theorem TupAt.sq {K : PySem.W.Frag} {H : Hp} {μ : Mu} {a : Addr} {vs : List V} (h : TupAt K H μ a vs) : SqT K H a vs := by
  rcases h with ⟨h, _⟩ | h
  · exact .inl h
  · exact .inr h
theorem LstAt.sq {K : PySem.W.Frag} {H : Hp} {μ : Mu} {a : Addr} {vs : List V} (h : LstAt H μ a vs) : SqL K H a vs := .inl (.inl h.1)
theorem FrzAt.sq {K : PySem.W.Frag} {H : Hp} {μ : Mu} {a : Addr} {vs : List V} (h : FrzAt K H μ a vs) : SqL K H a vs := by
  rcases h with ⟨h, _⟩ | h
  · exact .inl h
  · exact .inr h
mutual
noncomputable def VR (K : PySem.W.Frag) (H : Hp) (μ : Mu) : PV → V → Prop
  | .non, v => v = .non
  | .bl b, v => v = .bl b
  | .int i, v => v = .int i
  | .str x, v => v = .str ⟨x.toArray⟩
  | .ty n, v => v = .ty n
  | .gl a, v => v = .ref a
  | .tup ps, v => ∃ a vs, v = .ref a ∧ TupAt K H μ a vs ∧ VRs K H μ ps vs
  | .lst ps, v => ∃ a vs, v = .ref a ∧ LstAt H μ a vs ∧ VRs K H μ ps vs
  | .frz ps, v => ∃ a vs, v = .ref a ∧ FrzAt K H μ a vs ∧ VRs K H μ ps vs
  | .loc n, v => ∃ a, v = .ref a ∧ μ.l[n]? = some a
  | .xt ps, v => ∃ a vs, v = .ref a ∧ XtAt H μ a vs ∧ VRs K H μ ps vs
noncomputable def VRs (K : PySem.W.Frag) (H : Hp) (μ : Mu) : List PV → List V → Prop
  | [], vs => vs = []
  | p :: ps, vs => ∃ v r, vs = v :: r ∧ VR K H μ p v ∧ VRs K H μ ps r
end
structure Gr (μ : Mu) (H : Hp) (μ' : Mu) (H' : Hp) : Prop where
  pre : ∃ t, μ'.l = μ.l ++ t
  ban : ∀ a, a ∈ μ.b → a ∈ μ'.b
  bnew : ∀ a, a ∈ μ'.b → a ∈ μ.b ∨ H a = none
  new : ∀ a, a ∈ μ'.l → a ∈ μ.l ∨ H a = none
  keep : ∀ a o, H a = some o → a ∉ μ.l → H' a = some o
  fz : ∀ a o u, H a = some (.frz o u) → H' a = some (.frz o u)
theorem Gr.refl (μ : Mu) (H : Hp) : Gr μ H μ H := ⟨⟨[], by simp⟩, fun _ h => h, fun _ h => .inl h, fun _ h => .inl h, fun _ _ h _ => h, fun _ _ _ h => h⟩
theorem Gr.outl {μ μ' : Mu} {H H' : Hp} (g : Gr μ H μ' H') {a : Addr} {o : HO} (h : H a = some o) (n : a ∉ μ.l) : a ∉ μ'.l := fun m => by
  rcases g.new a m with z | z
  · exact n z
  · rw [h] at z; cases z
theorem Gr.out {μ μ' : Mu} {H H' : Hp} (g : Gr μ H μ' H') {a : Addr} {o : HO} (h : H a = some o) (n : a ∉ μ) : a ∉ μ' := fun m => by
  rcases m with m | m
  · exact g.outl h (fun z => n (.inl z)) m
  · rcases g.bnew a m with z | z
    · exact n (.inr z)
    · rw [h] at z; cases z
theorem Gr.back {μ μ' : Mu} {H H' : Hp} (g : Gr μ H μ' H') {a : Addr} (h : H' a = none) : a ∈ μ.l ∨ H a = none := by
  cases q : H a with
  | none => exact .inr rfl
  | some o =>
    by_cases n : a ∈ μ.l
    · exact .inl n
    · rw [g.keep a o q n] at h; cases h
theorem Gr.trans {μ μ1 μ2 : Mu} {H H1 H2 : Hp} (g : Gr μ H μ1 H1) (g' : Gr μ1 H1 μ2 H2) (hb : ∀ a, a ∈ μ2.b → a ∉ μ2.l) : Gr μ H μ2 H2 := by
  have sub : ∀ a, a ∈ μ.l → a ∈ μ2.l := fun a m => by
    obtain ⟨t, e⟩ := g.pre
    obtain ⟨u, e'⟩ := g'.pre
    rw [e', e]
    exact List.mem_append_left _ (List.mem_append_left _ m)
  refine ⟨?_, fun a m => g'.ban a (g.ban a m), fun a m => ?_, fun a m => ?_, fun a o h n => g'.keep a o (g.keep a o h n) (g.outl h n), fun a o u h => g'.fz a o u (g.fz a o u h)⟩
  · obtain ⟨t, e⟩ := g.pre
    obtain ⟨u, e'⟩ := g'.pre
    exact ⟨t ++ u, by rw [e', e, List.append_assoc]⟩
  · rcases g'.bnew a m with z | z
    · exact g.bnew a z
    · rcases g.back z with z | z
      · exact absurd (sub a z) (hb a m)
      · exact .inr z
  · rcases g'.new a m with z | z
    · exact g.new a z
    · exact g.back z
theorem Gr.get {μ μ' : Mu} {H H' : Hp} (g : Gr μ H μ' H') {n : Nat} {a : Addr} (h : μ.l[n]? = some a) : μ'.l[n]? = some a := by
  obtain ⟨t, e⟩ := g.pre
  rw [e]
  exact (List.getElem?_append_left (List.getElem?_eq_some_iff.mp h).1).trans h
noncomputable def seqO : HO → Bool
  | .tup _ => true
  | .lst _ => true
  | .frz _ _ => true
  | _ => false
structure Gv (μ : Mu) (H : Hp) (μ' : Mu) (H' : Hp) : Prop where
  pre : ∃ t, μ'.l = μ.l ++ t
  keep : ∀ a o, H a = some o → seqO o = true → a ∉ μ → H' a = some o ∧ a ∉ μ'
theorem Gr.v {μ μ' : Mu} {H H' : Hp} (g : Gr μ H μ' H') : Gv μ H μ' H' := ⟨g.pre, fun a o h _ n => ⟨g.keep a o h (fun z => n (.inl z)), g.out h n⟩⟩
theorem Gv.get {μ μ' : Mu} {H H' : Hp} (g : Gv μ H μ' H') {n : Nat} {a : Addr} (h : μ.l[n]? = some a) : μ'.l[n]? = some a := by
  obtain ⟨t, e⟩ := g.pre
  rw [e]
  exact (List.getElem?_append_left (List.getElem?_eq_some_iff.mp h).1).trans h
mutual
theorem VR.monov {K : PySem.W.Frag} {H H' : Hp} {μ μ' : Mu} (g : Gv μ H μ' H') : ∀ (p : PV) (v : V), VR K H μ p v → VR K H' μ' p v
  | .non, _, h => h
  | .bl _, _, h => h
  | .int _, _, h => h
  | .str _, _, h => h
  | .ty _, _, h => h
  | .gl _, _, h => h
  | .tup ps, v, h => by
    obtain ⟨a, vs, e, t, r⟩ := (show ∃ a vs, v = .ref a ∧ TupAt K H μ a vs ∧ VRs K H μ ps vs from h)
    refine (show ∃ a vs, v = .ref a ∧ TupAt K H' μ' a vs ∧ VRs K H' μ' ps vs from ⟨a, vs, e, ?_, VRs.monov g ps vs r⟩)
    rcases t with ⟨t | ⟨o, t⟩, n⟩ | t
    · exact .inl ⟨.inl (g.keep a _ t rfl n).1, (g.keep a _ t rfl n).2⟩
    · exact .inl ⟨.inr ⟨o, (g.keep a _ t rfl n).1⟩, (g.keep a _ t rfl n).2⟩
    · exact .inr t
  | .lst ps, v, h => by
    obtain ⟨a, vs, e, t, r⟩ := (show ∃ a vs, v = .ref a ∧ LstAt H μ a vs ∧ VRs K H μ ps vs from h)
    exact (show ∃ a vs, v = .ref a ∧ LstAt H' μ' a vs ∧ VRs K H' μ' ps vs from ⟨a, vs, e, g.keep a _ t.1 rfl t.2, VRs.monov g ps vs r⟩)
  | .frz ps, v, h => by
    obtain ⟨a, vs, e, t, r⟩ := (show ∃ a vs, v = .ref a ∧ FrzAt K H μ a vs ∧ VRs K H μ ps vs from h)
    refine (show ∃ a vs, v = .ref a ∧ FrzAt K H' μ' a vs ∧ VRs K H' μ' ps vs from ⟨a, vs, e, ?_, VRs.monov g ps vs r⟩)
    rcases t with ⟨t | ⟨o, t⟩, n⟩ | t
    · exact .inl ⟨.inl (g.keep a _ t rfl n).1, (g.keep a _ t rfl n).2⟩
    · exact .inl ⟨.inr ⟨o, (g.keep a _ t rfl n).1⟩, (g.keep a _ t rfl n).2⟩
    · exact .inr t
  | .loc n, v, h => by
    obtain ⟨a, e, t⟩ := (show ∃ a, v = .ref a ∧ μ.l[n]? = some a from h)
    exact (show ∃ a, v = .ref a ∧ μ'.l[n]? = some a from ⟨a, e, g.get t⟩)
  | .xt ps, v, h => by
    obtain ⟨a, vs, e, ⟨⟨o, t, ht⟩, n⟩, r⟩ := (show ∃ a vs, v = .ref a ∧ XtAt H μ a vs ∧ VRs K H μ ps vs from h)
    exact (show ∃ a vs, v = .ref a ∧ XtAt H' μ' a vs ∧ VRs K H' μ' ps vs from ⟨a, vs, e, ⟨⟨o, (g.keep a _ t rfl n).1, ht⟩, (g.keep a _ t rfl n).2⟩, VRs.monov g ps vs r⟩)
theorem VRs.monov {K : PySem.W.Frag} {H H' : Hp} {μ μ' : Mu} (g : Gv μ H μ' H') : ∀ (ps : List PV) (vs : List V), VRs K H μ ps vs → VRs K H' μ' ps vs
  | [], _, h => h
  | p :: ps, vs, h => by
    obtain ⟨v, r, e, h1, h2⟩ := (show ∃ v r, vs = v :: r ∧ VR K H μ p v ∧ VRs K H μ ps r from h)
    exact (show ∃ v r, vs = v :: r ∧ VR K H' μ' p v ∧ VRs K H' μ' ps r from ⟨v, r, e, VR.monov g p v h1, VRs.monov g ps r h2⟩)
end
theorem VR.mono {K : PySem.W.Frag} {H H' : Hp} {μ μ' : Mu} (g : Gr μ H μ' H') (p : PV) (v : V) (h : VR K H μ p v) : VR K H' μ' p v := VR.monov g.v p v h
theorem VRs.mono {K : PySem.W.Frag} {H H' : Hp} {μ μ' : Mu} (g : Gr μ H μ' H') (p : List PV) (v : List V) (h : VRs K H μ p v) : VRs K H' μ' p v := VRs.monov g.v p v h
section
variable {K : PySem.W.Frag} {H : Hp} {μ : Mu}
theorem VRs.length : ∀ {ps : List PV} {vs : List V}, VRs K H μ ps vs → ps.length = vs.length
  | [], vs, h => by have e : vs = [] := h; rw [e]; rfl
  | p :: ps, vs, h => by
    obtain ⟨v, r, e, _, h2⟩ := (show ∃ v r, vs = v :: r ∧ VR K H μ p v ∧ VRs K H μ ps r from h)
    rw [e, List.length_cons, List.length_cons, VRs.length h2]
theorem VRs.cons {p : PV} {ps : List PV} {v : V} {vs : List V} (h : VR K H μ p v) (t : VRs K H μ ps vs) : VRs K H μ (p :: ps) (v :: vs) :=
  (show ∃ w r, v :: vs = w :: r ∧ VR K H μ p w ∧ VRs K H μ ps r from ⟨v, vs, rfl, h, t⟩)
theorem VRs.nil : VRs K H μ [] [] := rfl
theorem VRs.append : ∀ {ps qs : List PV} {vs ws : List V}, VRs K H μ ps vs → VRs K H μ qs ws → VRs K H μ (ps ++ qs) (vs ++ ws)
  | [], _, vs, _, h, t => by have e : vs = [] := h; rw [e]; exact t
  | p :: ps, qs, vs, ws, h, t => by
    obtain ⟨v, r, e, h1, h2⟩ := (show ∃ v r, vs = v :: r ∧ VR K H μ p v ∧ VRs K H μ ps r from h)
    rw [e]
    exact VRs.cons h1 (VRs.append h2 t)
theorem VRs.get : ∀ {ps : List PV} {vs : List V} {i : Nat} {p : PV}, VRs K H μ ps vs → ps[i]? = some p → ∃ v, vs[i]? = some v ∧ VR K H μ p v
  | [], _, _, _, _, e => by simp at e
  | q :: ps, vs, 0, p, h, e => by
    obtain ⟨v, r, ev, h1, _⟩ := (show ∃ v r, vs = v :: r ∧ VR K H μ q v ∧ VRs K H μ ps r from h)
    simp at e
    subst e
    exact ⟨v, by rw [ev]; rfl, h1⟩
  | q :: ps, vs, i + 1, p, h, e => by
    obtain ⟨v, r, ev, _, h2⟩ := (show ∃ v r, vs = v :: r ∧ VR K H μ q v ∧ VRs K H μ ps r from h)
    obtain ⟨w, e1, e2⟩ := VRs.get (i := i) (p := p) h2 (by simpa using e)
    exact ⟨w, by rw [ev]; simpa using e1, e2⟩
theorem VRs.set {p : PV} {v : V} (r : VR K H μ p v) : ∀ {ps : List PV} {vs : List V} (i : Nat), VRs K H μ ps vs → VRs K H μ (ps.set i p) (vs.set i v)
  | [], vs, _, h => by have e : vs = [] := h; rw [e]; exact rfl
  | q :: ps, vs, 0, h => by
    obtain ⟨w, t, ev, _, h2⟩ := (show ∃ v r, vs = v :: r ∧ VR K H μ q v ∧ VRs K H μ ps r from h)
    rw [ev]
    exact VRs.cons r h2
  | q :: ps, vs, i + 1, h => by
    obtain ⟨w, t, ev, h1, h2⟩ := (show ∃ v r, vs = v :: r ∧ VR K H μ q v ∧ VRs K H μ ps r from h)
    rw [ev]
    exact VRs.cons h1 (VRs.set r i h2)
theorem VRs.take : ∀ {ps : List PV} {vs : List V} (n : Nat), VRs K H μ ps vs → VRs K H μ (ps.take n) (vs.take n)
  | _, _, 0, _ => rfl
  | [], vs, n + 1, h => by have e : vs = [] := h; rw [e]; exact rfl
  | q :: ps, vs, n + 1, h => by
    obtain ⟨w, t, ev, h1, h2⟩ := (show ∃ v r, vs = v :: r ∧ VR K H μ q v ∧ VRs K H μ ps r from h)
    rw [ev]
    exact VRs.cons h1 (VRs.take n h2)
theorem VRs.drop : ∀ {ps : List PV} {vs : List V} (n : Nat), VRs K H μ ps vs → VRs K H μ (ps.drop n) (vs.drop n)
  | _, _, 0, h => h
  | [], vs, n + 1, h => by have e : vs = [] := h; rw [e]; exact rfl
  | q :: ps, vs, n + 1, h => by
    obtain ⟨w, t, ev, h1, h2⟩ := (show ∃ v r, vs = v :: r ∧ VR K H μ q v ∧ VRs K H μ ps r from h)
    rw [ev]
    exact VRs.drop n h2
theorem VRs.nil_iff {ps : List PV} {vs : List V} (h : VRs K H μ ps vs) : vs = [] ↔ ps = [] := by
  have e := VRs.length h
  constructor
  · intro z; rw [z] at e; exact List.eq_nil_of_length_eq_zero e
  · intro z; rw [z] at e; exact List.eq_nil_of_length_eq_zero e.symm
theorem VRs.ints : ∀ {ns : List Int}, VRs K H μ (ns.map PV.int) (ns.map V.int)
  | [] => rfl
  | n :: ns => VRs.cons rfl (VRs.ints (ns := ns))
end

noncomputable def keyOf : PV → Option Key
  | .int i => some (.inl i)
  | .str x => some (.inr ⟨x.toArray⟩)
  | _ => none
theorem keyOf_inj {p q : PV} {k : Key} (h : keyOf p = some k) (h' : keyOf q = some k) : p = q := by
  cases p <;> cases q <;> simp [keyOf] at h h' <;> subst h <;> simp_all
noncomputable def KRs (K : PySem.W.Frag) (H : Hp) (μ : Mu) : List (PV × PV) → List (Key × V) → Prop
  | [], kv => kv = []
  | p :: r, kv => ∃ k v t, kv = (k, v) :: t ∧ keyOf p.1 = some k ∧ VR K H μ p.2 v ∧ KRs K H μ r t
noncomputable def ClsIn (K : PySem.W.Frag) (c : String) (C : Addr) : Prop := PySem.W.nsIn K mainGlobals (Str.ofString c) = some (some (.ref C))
theorem ClsIn.one {K : PySem.W.Frag} {c : String} {C C' : Addr} (h : ClsIn K c C) (h' : ClsIn K c C') : C = C' := by
  have e := h.symm.trans h'
  injection e with e; injection e with e; injection e
noncomputable def FRs (K : PySem.W.Frag) (H : Hp) (μ : Mu) : List (String × PV) → List (Str × V) → Prop
  | [], fv => fv = []
  | p :: r, fv => ∃ v t, fv = (Str.ofString p.1, v) :: t ∧ VR K H μ p.2 v ∧ FRs K H μ r t
noncomputable def lfOf : PV → Option Leaf
  | .non => some .none
  | .int i => some (.num i)
  | .str x => some (.text ⟨x.toArray⟩)
  | _ => none
theorem lfOf_inj {p q : PV} {k : Leaf} (h : lfOf p = some k) (h' : lfOf q = some k) : p = q := by
  cases p <;> cases q <;> simp [lfOf] at h h' <;> subst h <;> simp_all
mutual
noncomputable def nkOf : PV → Option NestedKey
  | .non => some .none
  | .int i => some (.num i)
  | .str x => some (.text ⟨x.toArray⟩)
  | .tup xs => match nksOf xs with
    | some ks => some (.tup ks)
    | none => none
  | .bl _ => none
  | .ty _ => none
  | .gl _ => none
  | .lst _ => none
  | .frz _ => none
  | .loc _ => none
  | .xt _ => none
noncomputable def nksOf : List PV → Option (List NestedKey)
  | [] => some []
  | x :: r => match nkOf x with
    | some k => match nksOf r with
      | some ks => some (k :: ks)
      | none => none
    | none => none
end
theorem nkOf_tup {xs : List PV} {k : NestedKey} (h : nkOf (.tup xs) = some k) : ∃ ks, nksOf xs = some ks ∧ k = .tup ks := by
  rw [nkOf] at h
  cases q : nksOf xs with
  | none => rw [q] at h; cases h
  | some ks => rw [q] at h; cases h; exact ⟨ks, rfl, rfl⟩
theorem nksOf_cons {x : PV} {r : List PV} {ks : List NestedKey} (h : nksOf (x :: r) = some ks) : ∃ k t, nkOf x = some k ∧ nksOf r = some t ∧ ks = k :: t := by
  rw [nksOf] at h
  cases q : nkOf x with
  | none => rw [q] at h; cases h
  | some k =>
    rw [q] at h
    cases q' : nksOf r with
    | none => rw [q'] at h; cases h
    | some t => rw [q'] at h; cases h; exact ⟨k, t, rfl, rfl, rfl⟩
mutual
theorem nkOf_inj : ∀ (p q : PV) (k : NestedKey), nkOf p = some k → nkOf q = some k → p = q
  | .non, q, k, h, h' => by
    cases (show some NestedKey.none = some k by rw [← h]; rfl)
    cases q with
    | non => rfl
    | tup xs => obtain ⟨_, _, e⟩ := nkOf_tup h'; cases e
    | int i => cases h'
    | str i => cases h'
    | _ => cases h'
  | .int i, q, k, h, h' => by
    cases (show some (NestedKey.num i) = some k by rw [← h]; rfl)
    cases q with
    | non => cases h'
    | tup xs => obtain ⟨_, _, e⟩ := nkOf_tup h'; cases e
    | int j => cases h'; rfl
    | str i => cases h'
    | _ => cases h'
  | .str x, q, k, h, h' => by
    cases (show some (NestedKey.text ⟨x.toArray⟩) = some k by rw [← h]; rfl)
    cases q with
    | non => cases h'
    | tup xs => obtain ⟨_, _, e⟩ := nkOf_tup h'; cases e
    | int j => cases h'
    | str y =>
      have e : (some (NestedKey.text ⟨y.toArray⟩)) = some (NestedKey.text ⟨x.toArray⟩) := by rw [← h']; rfl
      injection e with e; injection e with e; injection e with e; injection e with e
      rw [e]
    | _ => cases h'
  | .tup xs, q, k, h, h' => by
    obtain ⟨ks, e1, e2⟩ := nkOf_tup h
    subst e2
    cases q with
    | non => cases h'
    | tup ys =>
      obtain ⟨ks', e3, e4⟩ := nkOf_tup h'
      cases e4
      rw [nksOf_inj xs ys ks e1 e3]
    | int j => cases h'
    | str y => cases h'
    | _ => cases h'
  | .bl _, _, _, h, _ => by cases h
  | .ty _, _, _, h, _ => by cases h
  | .gl _, _, _, h, _ => by cases h
  | .lst _, _, _, h, _ => by cases h
  | .frz _, _, _, h, _ => by cases h
  | .loc _, _, _, h, _ => by cases h
  | .xt _, _, _, h, _ => by cases h
theorem nksOf_inj : ∀ (p q : List PV) (k : List NestedKey), nksOf p = some k → nksOf q = some k → p = q
  | [], q, k, h, h' => by
    cases (show some ([] : List NestedKey) = some k by rw [← h]; rfl)
    cases q with
    | nil => rfl
    | cons y t => obtain ⟨_, _, _, _, e⟩ := nksOf_cons h'; cases e
  | x :: r, q, k, h, h' => by
    obtain ⟨k1, t1, e1, e2, e3⟩ := nksOf_cons h
    subst e3
    cases q with
    | nil => cases (show some ([] : List NestedKey) = some _ by rw [← h']; rfl)
    | cons y t =>
      obtain ⟨k2, t2, e4, e5, e6⟩ := nksOf_cons h'
      cases e6
      rw [nkOf_inj x y k1 e1 e4, nksOf_inj r t t1 e2 e5]
end
noncomputable def nkT : PV → Option NestedKey
  | .tup xs => match nksOf xs with
    | some ks => if NestedKey.depthAll ks + 1 ≤ 8 then some (.tup ks) else none
    | none => none
  | _ => none
theorem nkT_of {p : PV} {k : NestedKey} (h : nkT p = some k) : nkOf p = some k ∧ k.depth ≤ 8 := by
  cases p with
  | tup xs =>
    unfold nkT at h
    dsimp only at h
    cases q : nksOf xs with
    | none => rw [q] at h; cases h
    | some ks =>
      rw [q] at h
      dsimp only at h
      by_cases d : NestedKey.depthAll ks + 1 ≤ 8
      · rw [if_pos d] at h
        cases h
        exact ⟨by rw [nkOf, q], by rw [NestedKey.depth]; exact d⟩
      · rw [if_neg d] at h; cases h
  | _ => cases h
theorem nkT_inj {p q : PV} {k : NestedKey} (h : nkT p = some k) (h' : nkT q = some k) : p = q := nkOf_inj p q k (nkT_of h).1 (nkT_of h').1
noncomputable def entL (w : World) (e : DictEntry) (x : Leaf × Value) : Prop := Leaf.isOf x.1 e.key = true ∧ e.hash = x.1.key.hash w ∧ e.val = x.2
noncomputable def leafD (w : World) (a : Addr) (xs : List (Leaf × Value)) : HO := .ext fun h => ∃ o es ep, h.get? a = some o ∧ o.ExactDict ∧ o.data = .dict es ep ∧ Paired (entL w) es.toList xs
noncomputable def entN (w : World) (x : NestedKey × Addr × Value) : DictEntry := ⟨x.1.hash w, .ref x.2.1, x.2.2⟩
noncomputable def nestD (w : World) (a : Addr) (xs : List (NestedKey × Addr × Value)) : HO := .ext fun h => ∃ o es ep, h.get? a = some o ∧ o.ExactDict ∧ o.data = .dict es ep ∧ es.toList = xs.map (entN w)
noncomputable def LRs (K : PySem.W.Frag) (H : Hp) (μ : Mu) : List (PV × PV) → List (Leaf × Value) → Prop := Paired fun (p : PV × PV) (x : Leaf × Value) => lfOf p.1 = some x.1 ∧ ∃ v, VR K H μ p.2 v ∧ RelV v x.2
noncomputable def NRs (K : PySem.W.Frag) (H : Hp) (μ : Mu) : List (PV × PV) → List (NestedKey × Addr × Value) → Prop := Paired fun (p : PV × PV) (x : NestedKey × Addr × Value) => nkT p.1 = some x.1 ∧ VR K H μ p.1 (.ref x.2.1) ∧ ∃ v, VR K H μ p.2 v ∧ RelV v x.2.2
theorem LRs.mono {K : PySem.W.Frag} {H H' : Hp} {μ μ' : Mu} (g : Gv μ H μ' H') {ps : List (PV × PV)} {xs : List (Leaf × Value)} (r : LRs K H μ ps xs) : LRs K H' μ' ps xs :=
  Paired.mapP r fun _ _ ⟨h1, v, h2, h3⟩ => ⟨h1, v, VR.monov g _ _ h2, h3⟩
theorem NRs.mono {K : PySem.W.Frag} {H H' : Hp} {μ μ' : Mu} (g : Gv μ H μ' H') {ps : List (PV × PV)} {xs : List (NestedKey × Addr × Value)} (r : NRs K H μ ps xs) : NRs K H' μ' ps xs :=
  Paired.mapP r fun _ _ ⟨h1, h0, v, h2, h3⟩ => ⟨h1, VR.monov g _ _ h0, v, VR.monov g _ _ h2, h3⟩
noncomputable def CR (K : KW) (H : Hp) (μ : Mu) (a : Addr) : Cell → Prop
  | .lst xs => ∃ vs, H a = some (.lst vs) ∧ VRs K H μ xs vs
  | .dct kvs => ∃ kv, H a = some (.dK kv) ∧ KRs K H μ kvs kv
  | .ins c fs => ∃ C dx fv, ClsIn K c C ∧ H a = some (.ins C dx fv) ∧ FRs K H μ fs fv
  | .dcl kvs => ∃ xs, H a = some (leafD K.w a xs) ∧ (a == sysModules) = false ∧ kvs.length ≤ sizeLine ∧ LRs K H μ kvs xs ∧ (xs.map (·.1)).Nodup
  | .dcn kvs => ∃ xs, H a = some (nestD K.w a xs) ∧ (a == sysModules) = false ∧ kvs.length ≤ sizeLine ∧ NRs K H μ kvs xs ∧ (xs.map (·.1)).Nodup
  | .lck kvs => ∃ o u, H a = some (.frz o u) ∧ ((∃ kv, u = .dK kv ∧ KRs K H μ kvs kv) ∨ ∃ xs, u = nestD K.w a xs ∧ (a == sysModules) = false ∧ kvs.length ≤ sizeLine ∧ NRs K H μ kvs xs ∧ (xs.map (·.1)).Nodup)
structure SR (K : KW) (μ : Mu) (st : Sto) (H : Hp) : Prop where
  len : μ.l.length = st.length
  nd : μ.l.Nodup
  ban : ∀ a, a ∈ μ.b → a ∉ μ.l ∧ ∃ o, H a = some o
  cell : ∀ (n : Nat) (c : Cell) (a : Addr), st[n]? = some c → μ.l[n]? = some a → CR K H μ a c
theorem KRs.mono {K : PySem.W.Frag} {H H' : Hp} {μ μ' : Mu} (g : Gv μ H μ' H') : ∀ (ps : List (PV × PV)) (kv : List (Key × V)), KRs K H μ ps kv → KRs K H' μ' ps kv
  | [], _, h => h
  | p :: ps, kv, h => by
    obtain ⟨k, v, t, e, hk, h1, h2⟩ := h
    exact ⟨k, v, t, e, hk, VR.monov g _ _ h1, KRs.mono g ps t h2⟩
theorem FRs.mono {K : PySem.W.Frag} {H H' : Hp} {μ μ' : Mu} (g : Gv μ H μ' H') : ∀ (ps : List (String × PV)) (fv : List (Str × V)), FRs K H μ ps fv → FRs K H' μ' ps fv
  | [], _, h => h
  | p :: ps, fv, h => by
    obtain ⟨v, t, e, h1, h2⟩ := h
    exact ⟨v, t, e, VR.monov g _ _ h1, FRs.mono g ps t h2⟩
theorem CR.monov {K : KW} {H H' : Hp} {μ μ' : Mu} (g : Gv μ H μ' H') {a : Addr} (ha : H' a = H a) : ∀ {c : Cell}, CR K H μ a c → CR K H' μ' a c
  | .lst xs, h => by
    obtain ⟨vs, e, r⟩ := h
    exact ⟨vs, by rw [ha]; exact e, VRs.monov g _ _ r⟩
  | .dct kvs, h => by
    obtain ⟨kv, e, r⟩ := h
    exact ⟨kv, by rw [ha]; exact e, KRs.mono g _ _ r⟩
  | .ins c fs, h => by
    obtain ⟨C, dx, fv, hc, e, r⟩ := h
    exact ⟨C, dx, fv, hc, by rw [ha]; exact e, FRs.mono g _ _ r⟩
  | .dcl kvs, h => by
    obtain ⟨xs, e, hs, hz, r, nd⟩ := h
    exact ⟨xs, by rw [ha]; exact e, hs, hz, r.mono g, nd⟩
  | .dcn kvs, h => by
    obtain ⟨xs, e, hs, hz, r, nd⟩ := h
    exact ⟨xs, by rw [ha]; exact e, hs, hz, r.mono g, nd⟩
  | .lck kvs, h => by
    obtain ⟨o, u, e, r⟩ := h
    refine ⟨o, u, by rw [ha]; exact e, ?_⟩
    rcases r with ⟨kv, e', r⟩ | ⟨xs, e', hs, hz, r, nd⟩
    · exact .inl ⟨kv, e', KRs.mono g _ _ r⟩
    · exact .inr ⟨xs, e', hs, hz, r.mono g, nd⟩
theorem CR.mono {K : KW} {H H' : Hp} {μ μ' : Mu} (g : Gr μ H μ' H') {a : Addr} (ha : H' a = H a) {c : Cell} (h : CR K H μ a c) : CR K H' μ' a c := CR.monov g.v ha h
theorem CR.has {K : KW} {H : Hp} {μ : Mu} {a : Addr} : ∀ {c : Cell}, CR K H μ a c → ∃ o, H a = some o
  | .lst xs, ⟨vs, e, _⟩ => ⟨_, e⟩
  | .dct kvs, ⟨kv, e, _⟩ => ⟨_, e⟩
  | .ins c fs, ⟨C, dx, fv, _, e, _⟩ => ⟨_, e⟩
  | .dcl kvs, ⟨xs, e, _⟩ => ⟨_, e⟩
  | .dcn kvs, ⟨xs, e, _⟩ => ⟨_, e⟩
  | .lck kvs, ⟨_, _, e, _⟩ => ⟨_, e⟩
section
variable {K : KW} {H : Hp} {μ : Mu} {st : Sto}
theorem SR.has (s : SR K μ st H) {a : Addr} (h : a ∈ μ.l) : ∃ o, H a = some o := by
  obtain ⟨n, hn, e⟩ := List.getElem_of_mem h
  have h1 : μ.l[n]? = some a := List.getElem?_eq_some_iff.mpr ⟨hn, e⟩
  have h2 : n < st.length := by rw [← s.len]; exact hn
  exact (s.cell n st[n] a (List.getElem?_eq_some_iff.mpr ⟨h2, rfl⟩) h1).has
theorem SR.free (s : SR K μ st H) {p : Addr} (h : H p = none) : p ∉ μ := fun m => by
  rcases m with m | m
  · obtain ⟨o, e⟩ := s.has m
    rw [h] at e; cases e
  · obtain ⟨o, e⟩ := (s.ban p m).2
    rw [h] at e; cases e
theorem gr_new {p : Addr} {o : HO} (h : H p = none) : Gr μ H μ (upd H p o) := ⟨⟨[], by simp⟩, fun _ m => m, fun _ m => .inl m, fun _ m => .inl m, fun a u e _ => by rw [upd_ne (ne_of_none e h)]; exact e, fun a o' u e => by rw [upd_ne (ne_of_none e h)]; exact e⟩
theorem SR.new (s : SR K μ st H) {p : Addr} {o : HO} (h : H p = none) : SR K μ st (upd H p o) :=
  ⟨s.len, s.nd, fun a m => ⟨(s.ban a m).1, let ⟨u, e⟩ := (s.ban a m).2; ⟨u, by rw [upd_ne (ne_of_none e h)]; exact e⟩⟩, fun n c a e1 e2 => (s.cell n c a e1 e2).mono (gr_new h) (upd_ne (fun z => by
    obtain ⟨u, e⟩ := (s.cell n c a e1 e2).has
    rw [z, h] at e; cases e))⟩
theorem gr_alloc {p : Addr} {o : HO} (h : H p = none) : Gr μ H (μ.add p) (upd H p o) := ⟨⟨[p], rfl⟩, fun _ m => m, fun _ m => .inl m, fun a m => by
    rcases List.mem_append.mp m with z | z
    · exact .inl z
    · rw [List.mem_singleton.mp z]; exact .inr h, fun a u e _ => by rw [upd_ne (ne_of_none e h)]; exact e, fun a o' u e => by rw [upd_ne (ne_of_none e h)]; exact e⟩
theorem gv_alloc {p : Addr} {o : HO} (h : ∀ u, H p = some u → seqO u = false) : Gv μ H (μ.add p) (upd H p o) := ⟨⟨[p], rfl⟩, fun a u e hu n => by
  have ne : a ≠ p := fun z => by
    subst z
    rw [h u e] at hu
    cases hu
  refine ⟨by rw [upd_ne ne]; exact e, fun m => ?_⟩
  rcases m with m | m
  · rcases List.mem_append.mp m with z | z
    · exact n (.inl z)
    · exact ne (List.mem_singleton.mp z)
  · exact n (.inr m)⟩
theorem SR.track (s : SR K μ st H) {p : Addr} {o : HO} {c : Cell} (np : p ∉ μ) (h : ∀ u, H p = some u → seqO u = false) (hc : CR K (upd H p o) (μ.add p) p c) : SR K (μ.add p) (st ++ [c]) (upd H p o) := by
  refine ⟨by simp [Mu.add, s.len], ?_, fun a m => ?_, fun n d a e1 e2 => ?_⟩
  · refine List.nodup_append.mpr ⟨s.nd, by simp, fun a ha b hb => ?_⟩
    rw [List.mem_singleton.mp hb]
    rintro rfl
    exact np (.inl ha)
  · have ne : a ≠ p := fun z => np (.inr (by rw [← z]; exact m))
    obtain ⟨n1, u, e⟩ := s.ban a m
    refine ⟨fun z => ?_, u, by rw [upd_ne ne]; exact e⟩
    rcases List.mem_append.mp z with z | z
    · exact n1 z
    · exact ne (List.mem_singleton.mp z)
  · have e2 : (μ.l ++ [p])[n]? = some a := e2
    by_cases hn : n < st.length
    · rw [List.getElem?_append_left hn] at e1
      rw [List.getElem?_append_left (by rw [s.len]; exact hn)] at e2
      exact (s.cell n d a e1 e2).monov (gv_alloc h) (upd_ne (fun z => by
        rw [z] at e2
        exact np (.inl (List.mem_of_getElem? e2))))
    · rw [List.getElem?_append_right (by omega)] at e1
      rw [List.getElem?_append_right (by rw [s.len]; omega), s.len] at e2
      have e0 : n - st.length = 0 := by
        have := (List.getElem?_eq_some_iff.mp e1).1
        simp at this
        omega
      rw [e0] at e1 e2
      simp at e1 e2
      subst e1 e2
      exact hc
theorem SR.alloc (s : SR K μ st H) {p : Addr} {o : HO} {c : Cell} (h : H p = none) (hc : CR K (upd H p o) (μ.add p) p c) : SR K (μ.add p) (st ++ [c]) (upd H p o) :=
  s.track (s.free h) (fun u e => by rw [h] at e; cases e) hc
noncomputable def nofz : HO → Bool
  | .frz _ _ => false
  | _ => true
theorem gr_put {a : Addr} {o : HO} {n : Nat} (h : μ.l[n]? = some a) {u0 : HO} (h0 : H a = some u0) (nf : nofz u0 = true) : Gr μ H μ (upd H a o) := ⟨⟨[], by simp⟩, fun _ m => m, fun _ m => .inl m, fun _ m => .inl m, fun b u e nb => by
  rw [upd_ne (fun z => nb (by rw [z]; exact List.mem_of_getElem? h))]; exact e, fun b o' u e => by
  rw [upd_ne (fun z => by rw [z, h0] at e; cases e; cases nf)]; exact e⟩
theorem gv_put {a : Addr} {o : HO} {n : Nat} (h : μ.l[n]? = some a) : Gv μ H μ (upd H a o) := ⟨⟨[], by simp⟩, fun b u e _ nb => ⟨by
  rw [upd_ne (fun z => nb (.inl (by rw [z]; exact List.mem_of_getElem? h)))]; exact e, nb⟩⟩
theorem SR.put (s : SR K μ st H) {a : Addr} {o : HO} {n : Nat} {c : Cell} (h : μ.l[n]? = some a) (hc : CR K (upd H a o) μ a c) : SR K μ (st.set n c) (upd H a o) := by
  refine ⟨by simp [s.len], s.nd, fun b m => ?_, fun m d b e1 e2 => ?_⟩
  · obtain ⟨n1, u, e⟩ := s.ban b m
    exact ⟨n1, u, by rw [upd_ne (fun z => n1 (by rw [z]; exact List.mem_of_getElem? h))]; exact e⟩
  · by_cases hm : n = m
    · subst hm
      rw [h] at e2
      cases e2
      have hn : n < st.length := by rw [← s.len]; exact (List.getElem?_eq_some_iff.mp h).1
      rw [List.getElem?_set_self hn] at e1
      cases e1
      exact hc
    · rw [List.getElem?_set_ne hm] at e1
      refine (s.cell m d b e1 e2).monov (gv_put h) (upd_ne fun z => hm ?_)
      subst z
      obtain ⟨h1, e1'⟩ := List.getElem?_eq_some_iff.mp h
      obtain ⟨h2, e2'⟩ := List.getElem?_eq_some_iff.mp e2
      exact (List.getElem_inj s.nd).mp (e1'.trans e2'.symm)
end

noncomputable def XR (K : PySem.W.Frag) (H : Hp) (μ : Mu) (x : Exn) (d : Addr) : Prop := ∃ fv, H d = some (.xd fv) ∧ FRs K H μ x.fs fv
noncomputable def PostG {α β : Type} (K : KW) (E : XK) (R : Hp → Mu → α → β → Prop) (Q : β → Hp → Prop) (μ : Mu) (H : Hp) : Res α → Prop
  | .ok a st => ∀ μ' H' b, Gr μ H μ' H' → SR K μ' st H' → R H' μ' a b → Q b H'
  | .err x st => ∀ μ' H' d, Gr μ H μ' H' → SR K μ' st H' → XR K H' μ' x d → ∀ C, ClsIn K x.C C → E (.ref C) (some d) H'
  | .bad => False
section
variable {K : KW} {E : XK} {α β γ δ : Type} {R : Hp → Mu → α → β → Prop} {R' : Hp → Mu → γ → δ → Prop} {Q Q' : β → Hp → Prop} {μ μ' : Mu} {H H' : Hp} {st : Sto}
theorem PostG.mono {r : Res α} (h : PostG K E R Q μ H r) (i : ∀ b H', Q b H' → Q' b H') : PostG K E R Q' μ H r := by
  cases r with
  | ok a st => exact fun μ' H' b g s x => i _ _ (h μ' H' b g s x)
  | err x st => exact h
  | bad => exact h
theorem PostG.grow {r : Res α} (h : PostG K E R Q μ H r) (g : Gr μ H μ' H') : PostG K E R Q μ' H' r := by
  cases r with
  | ok a st => exact fun μ2 H2 b g2 s x => h μ2 H2 b (g.trans g2 fun a m => (s.ban a m).1) s x
  | err x st => exact fun μ2 H2 d g2 s x => h μ2 H2 d (g.trans g2 fun a m => (s.ban a m).1) s x
  | bad => exact h
theorem PostG.bind {m : M γ} {f : γ → M α} (h : PostG K E R Q μ H (M.bind m f st)) :
    PostG K E R' (fun b H' => ∃ μ' st' a, Gr μ H μ' H' ∧ SR K μ' st' H' ∧ R' H' μ' a b ∧ PostG K E R Q μ' H' (f a st')) μ H (m st) := by
  unfold M.bind at h
  cases e : m st with
  | ok a st' =>
    rw [e] at h
    exact fun μ' H' b g s r => ⟨μ', st', a, g, s, r, h.grow g⟩
  | err x st' =>
    rw [e] at h
    exact h
  | bad =>
    rw [e] at h
    exact h.elim
theorem PostG.bindAt {m : M γ} {f : γ → M α} (h : PostG K E R Q μ H (M.bind m f st)) (g0 : Gr μ H μ' H') :
    PostG K E R' (fun b H2 => ∃ μ2 st' a, Gr μ' H' μ2 H2 ∧ SR K μ2 st' H2 ∧ R' H2 μ2 a b ∧ PostG K E R Q μ H (f a st')) μ' H' (m st) := by
  unfold M.bind at h
  cases e : m st with
  | ok a st' =>
    rw [e] at h
    exact fun μ2 H2 b g s r => ⟨μ2, st', a, g, s, r, h⟩
  | err x st' =>
    rw [e] at h
    exact PostG.grow (r := .err x st') h g0
  | bad =>
    rw [e] at h
    exact h.elim
theorem PostG.calm {m : M α} (h : PostG K E R Q μ H (M.calm m st)) {E' : XK} : PostG K E' R Q μ H (m st) := by
  unfold M.calm at h
  cases e : m st with
  | ok a st' => rw [e] at h; exact h
  | err x st' => rw [e] at h; exact h.elim
  | bad => rw [e] at h; exact h.elim
end
structure ER (K : PySem.W.Frag) (H : Hp) (μ : Mu) (ρ : Rho) (σ : St) : Prop where
  len : ρ.length = σ.length
  get : ∀ (i : Nat) (p : PV), ρ[i]? = some (some p) → ∃ v, σ[i]? = some (some v) ∧ VR K H μ p v
theorem ER.mono {K : PySem.W.Frag} {H H' : Hp} {μ μ' : Mu} {ρ : Rho} {σ : St} (g : Gr μ H μ' H') (e : ER K H μ ρ σ) : ER K H' μ' ρ σ :=
  ⟨e.len, fun i p h => let ⟨v, h1, h2⟩ := e.get i p h; ⟨v, h1, VR.mono g p v h2⟩⟩
theorem ER.set {K : PySem.W.Frag} {H : Hp} {μ : Mu} {ρ : Rho} {σ : St} (e : ER K H μ ρ σ) {p : PV} {v : V} (r : VR K H μ p v) (i : Nat) : ER K H μ (ρ.set i (some p)) (σ.set i (some v)) := by
  refine ⟨by simp [e.len], fun j q h => ?_⟩
  by_cases hj : i = j
  · subst hj
    by_cases hi : i < ρ.length
    · rw [List.getElem?_set_self hi] at h
      cases h
      exact ⟨v, List.getElem?_set_self (by rw [← e.len]; exact hi), r⟩
    · rw [List.getElem?_eq_none (by simpa using hi)] at h
      cases h
  · rw [List.getElem?_set_ne hj] at h
    obtain ⟨w, h1, h2⟩ := e.get j q h
    exact ⟨w, by rw [List.getElem?_set_ne hj]; exact h1, h2⟩
theorem ER.unset {K : PySem.W.Frag} {H : Hp} {μ : Mu} {ρ : Rho} {σ : St} (e : ER K H μ ρ σ) (i : Nat) : ER K H μ (ρ.set i none) (σ.set i none) := by
  refine ⟨by simp [e.len], fun j q h => ?_⟩
  by_cases hj : i = j
  · subst hj
    by_cases hi : i < ρ.length
    · rw [List.getElem?_set_self hi] at h
      cases h
    · rw [List.getElem?_eq_none (by simpa using hi)] at h
      cases h
  · rw [List.getElem?_set_ne hj] at h
    obtain ⟨w, h1, h2⟩ := e.get j q h
    exact ⟨w, by rw [List.getElem?_set_ne hj]; exact h1, h2⟩
noncomputable def PostS (K : KW) (W : WX) (D : Ends) (μ : Mu) (H : Hp) : Res Fl → Prop
  | .ok (.next ρ) st => ∀ μ' H' σ', Gr μ H μ' H' → SR K μ' st H' → ER K H' μ' ρ σ' → D.nx σ' H'
  | .ok (.ret p) st => ∀ μ' H' v, Gr μ H μ' H' → SR K μ' st H' → VR K H' μ' p v → D.rt v H'
  | .ok (.brk ρ) st => ∀ μ' H' σ', Gr μ H μ' H' → SR K μ' st H' → ER K H' μ' ρ σ' → D.bk σ' H'
  | .ok (.cont ρ) st => ∀ μ' H' σ', Gr μ H μ' H' → SR K μ' st H' → ER K H' μ' ρ σ' → D.ct σ' H'
  | .ok (.exc x ρ) st => ∀ μ' H' σ' d, Gr μ H μ' H' → SR K μ' st H' → ER K H' μ' ρ σ' → XR K H' μ' x d → ∀ C, ClsIn K x.C C → W (.ref C) (some d) σ' H'
  | .err _ _ => False
  | .bad => False
theorem PostS.grow {K : KW} {W : WX} {D : Ends} {μ μ' : Mu} {H H' : Hp} {r : Res Fl} (h : PostS K W D μ H r) (g : Gr μ H μ' H') : PostS K W D μ' H' r := by
  cases r with
  | ok f st =>
    cases f with
    | next ρ => exact fun μ2 H2 σ g2 s e => h μ2 H2 σ (g.trans g2 fun a m => (s.ban a m).1) s e
    | ret p => exact fun μ2 H2 v g2 s e => h μ2 H2 v (g.trans g2 fun a m => (s.ban a m).1) s e
    | brk ρ => exact fun μ2 H2 σ g2 s e => h μ2 H2 σ (g.trans g2 fun a m => (s.ban a m).1) s e
    | cont ρ => exact fun μ2 H2 σ g2 s e => h μ2 H2 σ (g.trans g2 fun a m => (s.ban a m).1) s e
    | exc x ρ => exact fun μ2 H2 σ d g2 s e z => h μ2 H2 σ d (g.trans g2 fun a m => (s.ban a m).1) s e z
  | err x st => exact h
  | bad => exact h

noncomputable def tM (K : KW) (W : WX) (m : Rho → M PV) : TE := fun σ H Q => ∃ μ st ρ, ER K H μ ρ σ ∧ SR K μ st H ∧ PostG K (fun c d H' => W c d σ H') (VR K) Q μ H (m ρ st)
noncomputable def tMT (K : KW) (W : WX) (m : Rho → M Bool) : TT := fun σ H Q => ∃ μ st ρ, ER K H μ ρ σ ∧ SR K μ st H ∧ PostG K (fun c d H' => W c d σ H') (fun _ _ a b => a = b) Q μ H (m ρ st)
noncomputable def tMA (K : KW) (W : WX) (m : Rho → M (List PV)) : TA := fun σ H Q => ∃ μ st ρ, ER K H μ ρ σ ∧ SR K μ st H ∧ PostG K (fun c d H' => W c d σ H') (VRs K) Q μ H (m ρ st)
noncomputable def tMS (K : KW) (W : WX) (m : Rho → M Fl) : TS := fun D σ H => ∃ μ st ρ, ER K H μ ρ σ ∧ SR K μ st H ∧ PostS K W D μ H (m ρ st)
noncomputable def ME (X : Cx) (W : WX) (e : Expr) (m : Rho → M PV) : Prop := PE X e (tM (kw X) W m)
noncomputable def MT (X : Cx) (W : WX) (e : Expr) (m : Rho → M Bool) : Prop := PT X e (tMT (kw X) W m)
noncomputable def MW (X : Cx) (W : WX) (e : Expr) (m : Rho → M Bool) : Prop := PW X e (tMT (kw X) W m)
noncomputable def MA (X : Cx) (W : WX) (es : List Expr) (m : Rho → M (List PV)) : Prop := PA X es (tMA (kw X) W m)
noncomputable def MS (X : Cx) (W : WX) (s : Stmt) (m : Rho → M Fl) : Prop := PS X s (tMS (kw X) W m)
noncomputable def MSs (X : Cx) (W : WX) (s : List Stmt) (m : Rho → M Fl) : Prop := PSs X s (tMS (kw X) W m)
section
variable {X : Cx}
theorem PE.imp {e : Expr} {t t' : TE} (h : PE X e t) (i : ∀ σ H Q, t' σ H Q → t σ H Q) : PE X e t' := ⟨fun pins s σ H Q I q => h.run pins s σ H Q I (i σ H Q q)⟩
theorem PT.imp {e : Expr} {t t' : TT} (h : PT X e t) (i : ∀ σ H Q, t' σ H Q → t σ H Q) : PT X e t' := ⟨fun pins s σ H Q I q => h.run pins s σ H Q I (i σ H Q q)⟩
theorem PW.imp {e : Expr} {t t' : TT} (h : PW X e t) (i : ∀ σ H Q, t' σ H Q → t σ H Q) : PW X e t' := ⟨fun wh pins s σ H Q I q => h.run wh pins s σ H Q I (i σ H Q q)⟩
theorem PA.imp {es : List Expr} {t t' : TA} (h : PA X es t) (i : ∀ σ H Q, t' σ H Q → t σ H Q) : PA X es t' := ⟨fun pos pins s σ H Q I q => h.run pos pins s σ H Q I (i σ H Q q)⟩
theorem PS.imp {st : Stmt} {t t' : TS} (h : PS X st t) (i : ∀ D σ H, t' D σ H → t D σ H) : PS X st t' := ⟨fun pins s σ H D I q => h.run pins s σ H D I (i D σ H q)⟩
theorem PSs.imp {st : List Stmt} {t t' : TS} (h : PSs X st t) (i : ∀ D σ H, t' D σ H → t D σ H) : PSs X st t' := ⟨fun pins s σ H D I q => h.run pins s σ H D I (i D σ H q)⟩
end
end MP

set_option maxRecDepth 100000
namespace MP
open PySem L2
section
variable {K : KW} {W : WX} {α β : Type}
noncomputable def onErr (ρ : Rho) (m : M α) (k : α → M Fl) : M Fl := fun st => match m st with
  | .ok a st' => k a st'
  | .err x st' => .ok (.exc x ρ) st'
  | .bad => .bad
theorem PostS.onErr {R : Hp → Mu → α → β → Prop} {D : Ends} {μ : Mu} {H : Hp} {ρ : Rho} {σ : St} {m : M α} {k : α → M Fl} {st : Sto} (h : PostS K W D μ H (onErr ρ m k st)) (er : ER K H μ ρ σ) :
    PostG K (fun c d H' => W c d σ H') R (fun b H' => ∃ μ' st' a, Gr μ H μ' H' ∧ SR K μ' st' H' ∧ R H' μ' a b ∧ PostS K W D μ' H' (k a st')) μ H (m st) := by
  unfold MP.onErr at h
  cases e : m st with
  | ok a st' =>
    rw [e] at h
    exact fun μ' H' b g s r => ⟨μ', st', a, g, s, r, h.grow g⟩
  | err x st' =>
    rw [e] at h
    exact fun μ' H' d g s r => h μ' H' σ d g s (er.mono g) r
  | bad =>
    rw [e] at h
    exact h.elim
end

section
variable {X : Cx} {W : WX} {e a b : Expr} {pos : Pos}
theorem gl_of {x : Str} (h : X.env.kindOf x = some .globalImplicit) : Gl X x := h
noncomputable def eVar (i : Nat) : Rho → M PV := fun ρ => match ρ[i]? with
  | some (some p) => M.ret p
  | _ => M.fail
noncomputable def eC (p : PV) : Rho → M PV := fun _ => M.ret p
theorem me_var (i : Nat) {x : Str} (hN : X.N[i]? = some x := by kernel_rfl) (hv : Vis X.env.scope x := by first | exact Or.inl rfl | exact Or.inr (Or.inl rfl) | exact Or.inr (Or.inr rfl)) (hd : (x == ("__debug__" : Str)) = false := by kernel_rfl)
    (hcd : (x == ("__classdict__" : Str)) = false := by kernel_rfl) : ME X W (.Name x pos) (eVar i) := PE.imp (pv (X := X) (pos := pos) i hN hv hd hcd) fun σ H Q ⟨μ, st, ρ, er, sr, h⟩ => by
  unfold eVar at h
  cases e : ρ[i]? with
  | none => rw [e] at h; exact h.elim
  | some o =>
    rw [e] at h
    cases o with
    | none => exact h.elim
    | some p =>
      obtain ⟨v, h1, h2⟩ := er.get i p e
      exact ⟨v, h1, h μ H v (Gr.refl _ _) sr h2⟩
theorem me_c {p : PV} {v : V} (h : PE X e (tC v)) (r : ∀ H μ, VR X.K H μ p v) : ME X W e (eC p) := PE.imp h fun σ H Q ⟨μ, st, ρ, er, sr, q⟩ => q μ H v (Gr.refl _ _) sr (r H μ)
theorem me_int {i : Int} {j : Nat} : ME X W (.Constant (.int i) j pos) (eC (.int i)) := me_c pe_int fun _ _ => rfl
theorem me_bl {b : Bool} {j : Nat} : ME X W (.Constant (.bool b) j pos) (eC (.bl b)) := me_c pe_bl fun _ _ => rfl
theorem me_non {j : Nat} : ME X W (.Constant .none j pos) (eC .non) := me_c pe_non fun _ _ => rfl
theorem me_str {x : Str} {j : Nat} (l : List Nat) (h : x = ⟨l.toArray⟩) : ME X W (.Constant (.str x) j pos) (eC (.str l)) := me_c pe_str fun _ _ => by rw [h]; exact rfl
theorem me_ty {x : Str} {T : String} (hg : Gl X x) (hm : X.mg x = none) (hv : bootBuiltins x = some (.type T)) (hn : x ≠ "__name__" := by decide +kernel) (hd : (x == ("__debug__" : Str)) = false := by kernel_rfl) : ME X W (.Name x pos) (eC (.ty T)) :=
  me_c (pe_bltn (v := .ty T) hg hm hv rfl hn hd) fun _ _ => rfl

noncomputable def T2 (K : KW) (r : R2) (g : PV → PV → M PV) : Prop :=
  ∀ (μ : Mu) (st : Sto) (H : Hp) (x y : PV) (u v : V) (E : XK) (Q : VK), SR K μ st H → VR K H μ x u → VR K H μ y v → PostG K E (VR K) Q μ H (g x y st) → r u v H Q
noncomputable def T1 (K : KW) (r : V → Hp → VK → Prop) (g : PV → M PV) : Prop :=
  ∀ (μ : Mu) (st : Sto) (H : Hp) (x : PV) (u : V) (E : XK) (Q : VK), SR K μ st H → VR K H μ x u → PostG K E (VR K) Q μ H (g x st) → r u H Q
noncomputable def TL (K : KW) (r : List V → Hp → VK → Prop) (g : List PV → M PV) : Prop :=
  ∀ (μ : Mu) (st : Sto) (H : Hp) (xs : List PV) (us : List V) (E : XK) (Q : VK), SR K μ st H → VRs K H μ xs us → PostG K E (VR K) Q μ H (g xs st) → r us H Q
noncomputable def eBin (g : PV → PV → M PV) (ma mb : Rho → M PV) : Rho → M PV := fun ρ => M.bind (ma ρ) fun x => M.bind (mb ρ) fun y => g x y
noncomputable def eUn (g : PV → M PV) (ma : Rho → M PV) : Rho → M PV := fun ρ => M.bind (ma ρ) g
theorem two_imp {ma mb : Rho → M PV} {g : PV → PV → M PV} {r : R2} (t : T2 (kw X) r g) : ∀ σ H Q, tM (kw X) W (eBin g ma mb) σ H Q → tOp r (tM (kw X) W ma) (tM (kw X) W mb) σ H Q := fun σ H Q ⟨μ, st, ρ, er, sr, h⟩ =>
  ⟨μ, st, ρ, er, sr, (PostG.bind h).mono fun u H1 ⟨μ1, st1, x, g1, s1, rx, h1⟩ => ⟨μ1, st1, ρ, er.mono g1, s1, (PostG.bind h1).mono fun v H2 ⟨μ2, st2, y, g2, s2, ry, h2⟩ => t μ2 st2 H2 x y u v _ Q s2 (VR.mono g2 x u rx) ry h2⟩⟩
theorem me_bin {op : Operator} {r : R2} {g : PV → PV → M PV} {ma mb : Rho → M PV} (ho : OpR X (binaryOp op) r) (t : T2 (kw X) r g) (ha : ME X W a ma) (hb : ME X W b mb) : ME X W (.BinOp a op b pos) (eBin g ma mb) :=
  PE.imp (pe_op ho ha hb) (two_imp t)
theorem me_cmp {op : CmpOp} {r : R2} {g : PV → PV → M PV} {ma mb : Rho → M PV} (ho : OpR X (compareOp op) r) (t : T2 (kw X) r g) (ha : ME X W a ma) (hb : ME X W b mb) (hm : behindInMarks op b = false) : ME X W (.Compare a [op] [b] pos) (eBin g ma mb) :=
  PE.imp (pe_cmpR ho ha hb hm) (two_imp t)
theorem me_un {op : UnaryOp} {r : V → Hp → VK → Prop} {g : PV → M PV} {ma : Rho → M PV} (ho : UnR X (unaryOp op) r) (t : T1 (kw X) r g) (ha : ME X W a ma) : ME X W (.UnaryOp op a pos) (eUn g ma) :=
  PE.imp (pe_un ho ha) fun σ H Q ⟨μ, st, ρ, er, sr, h⟩ => ⟨μ, st, ρ, er, sr, (PostG.bind h).mono fun u H1 ⟨μ1, st1, x, g1, s1, rx, h1⟩ => t μ1 st1 H1 x u _ Q s1 rx h1⟩
theorem me_ix {r : R2} {g : PV → PV → M PV} {ma mb : Rho → M PV} (ho : IxR X r) (t : T2 (kw X) r g) (ha : ME X W a ma) (hb : ME X W b mb) (hs : PlainIx b) : ME X W (.Subscript a b pos) (eBin g ma mb) :=
  PE.imp (pe_ix ho ha hb hs) (two_imp t)

noncomputable def asB : PV → M Bool
  | .bl b => M.ret b
  | _ => M.fail
noncomputable def eB (m : Rho → M PV) : Rho → M Bool := fun ρ => M.bind (m ρ) asB
theorem asB_post {K : KW} {E : XK} {Q : Bool → Hp → Prop} {μ : Mu} {H : Hp} {st : Sto} {p : PV} {v : V} (sr : SR K μ st H) (r : VR K H μ p v) (h : PostG K E (fun _ _ (a : Bool) b => a = b) Q μ H (asB p st)) : ∃ k, v = .bl k ∧ Q k H := by
  cases p with
  | bl b => exact ⟨b, r, h μ H b (Gr.refl _ _) sr rfl⟩
  | _ => exact h.elim
theorem test_imp {m : Rho → M PV} : ∀ σ H Q, tMT (kw X) W (eB m) σ H Q → tTest (tM (kw X) W m) σ H Q := fun σ H Q ⟨μ, st, ρ, er, sr, h⟩ =>
  ⟨μ, st, ρ, er, sr, (PostG.bind h).mono fun u H1 ⟨μ1, st1, x, g1, s1, rx, h1⟩ => asB_post s1 rx h1⟩
theorem mt_cmp {op : CmpOp} {r : R2} {g : PV → PV → M PV} {ma mb : Rho → M PV} (ho : OpR X (compareOp op) r) (t : T2 (kw X) r g) (ha : ME X W a ma) (hb : ME X W b mb) (hm : behindInMarks op b = false) : MT X W (.Compare a [op] [b] pos) (eB (eBin g ma mb)) :=
  PT.imp (pt_cmpR ho ha hb hm) fun σ H Q h => by
    have q := test_imp (X := X) (W := W) (m := eBin g ma mb) σ H Q h
    exact two_imp t σ H _ q
theorem mt_val {m : Rho → M PV} (h : ME X W e m) (he : ∀ whole, isTrue e X.env whole = (do let v ← whole; standAt e.pos; holding [v] (truthy v)) := by intro _; rfl) : MT X W e (eB m) :=
  PT.imp (pt_val h he) fun σ H Q h => test_imp (X := X) (W := W) (m := m) σ H Q h
variable {tA tB' : Rho → M Bool} {rest : List Expr}
noncomputable def tAndM (t u : Rho → M Bool) : Rho → M Bool := fun ρ => M.bind (t ρ) fun c => if c = true then u ρ else M.ret false
noncomputable def tOrM (t u : Rho → M Bool) : Rho → M Bool := fun ρ => M.bind (t ρ) fun c => if c = true then M.ret true else u ρ
noncomputable def tNotM (t : Rho → M Bool) : Rho → M Bool := fun ρ => M.bind (t ρ) fun c => M.ret (!c)
theorem mw_and1 (ha : MT X W a tA) : MW X W (.BoolOp .And [a] pos) tA := pw_and1 ha
theorem mw_or1 (ha : MT X W a tA) : MW X W (.BoolOp .Or [a] pos) tA := pw_or1 ha
theorem mw_and (ha : MT X W a tA) (hb : MW X W (.BoolOp .And (b :: rest) pos) tB') : MW X W (.BoolOp .And (a :: b :: rest) pos) (tAndM tA tB') :=
  PW.imp (pw_and ha hb) fun σ H Q ⟨μ, st, ρ, er, sr, h⟩ => ⟨μ, st, ρ, er, sr, (PostG.bind h).mono fun c H1 ⟨μ1, st1, c', g1, s1, ec, h1⟩ => by
    subst ec
    cases c' with
    | true => rw [if_pos rfl] at h1 ⊢; exact ⟨μ1, st1, ρ, er.mono g1, s1, h1⟩
    | false => rw [if_neg Bool.false_ne_true] at h1 ⊢; exact h1 μ1 H1 false (Gr.refl _ _) s1 rfl⟩
theorem mw_or (ha : MT X W a tA) (hb : MW X W (.BoolOp .Or (b :: rest) pos) tB') : MW X W (.BoolOp .Or (a :: b :: rest) pos) (tOrM tA tB') :=
  PW.imp (pw_or ha hb) fun σ H Q ⟨μ, st, ρ, er, sr, h⟩ => ⟨μ, st, ρ, er, sr, (PostG.bind h).mono fun c H1 ⟨μ1, st1, c', g1, s1, ec, h1⟩ => by
    subst ec
    cases c' with
    | true => rw [if_pos rfl] at h1 ⊢; exact h1 μ1 H1 true (Gr.refl _ _) s1 rfl
    | false => rw [if_neg Bool.false_ne_true] at h1 ⊢; exact ⟨μ1, st1, ρ, er.mono g1, s1, h1⟩⟩
theorem mt_of (h : MW X W e tA) : MT X W e tA := PW.pt h
noncomputable def eAndV (ma mb : Rho → M PV) : Rho → M PV := fun ρ => M.bind (ma ρ) fun x => M.bind (asB x) fun c => if c = true then mb ρ else M.ret (.bl false)
noncomputable def eOrV (ma mb : Rho → M PV) : Rho → M PV := fun ρ => M.bind (ma ρ) fun x => M.bind (asB x) fun c => if c = true then M.ret (.bl true) else mb ρ
noncomputable def eNotV (ma : Rho → M PV) : Rho → M PV := fun ρ => M.bind (ma ρ) fun x => M.bind (asB x) fun c => M.ret (.bl (!c))
theorem asB_bind {α β : Type} {K : KW} {E : XK} {R : Hp → Mu → α → β → Prop} {Q : β → Hp → Prop} {μ : Mu} {H : Hp} {st : Sto} {p : PV} {v : V} {f : Bool → M α} (r : VR K H μ p v) (h : PostG K E R Q μ H (M.bind (asB p) f st)) :
    ∃ k, v = .bl k ∧ PostG K E R Q μ H (f k st) := by
  cases p with
  | bl b => exact ⟨b, r, h⟩
  | _ => exact h.elim
theorem me_one {op : BoolOp} {m : Rho → M PV} (h : ME X W a m) : ME X W (.BoolOp op [a] pos) m := pe_one h
theorem me_and {ma mb : Rho → M PV} (ha : ME X W a ma) (hb : ME X W (.BoolOp .And (b :: rest) pos) mb) : ME X W (.BoolOp .And (a :: b :: rest) pos) (eAndV ma mb) :=
  PE.imp (pe_and ha hb) fun σ H Q ⟨μ, st, ρ, er, sr, h⟩ => ⟨μ, st, ρ, er, sr, (PostG.bind h).mono fun u H1 ⟨μ1, st1, x, g1, s1, rx, h1⟩ => by
    obtain ⟨k, e, h2⟩ := asB_bind rx h1
    refine ⟨k, e, ?_⟩
    cases k with
    | true => rw [if_pos rfl] at h2 ⊢; exact ⟨μ1, st1, ρ, er.mono g1, s1, h2⟩
    | false => rw [if_neg Bool.false_ne_true] at h2 ⊢; exact h2 μ1 H1 _ (Gr.refl _ _) s1 rfl⟩
theorem me_not {ma : Rho → M PV} (ha : ME X W a ma) : ME X W (.UnaryOp .Not a pos) (eNotV ma) :=
  PE.imp (pe_not ha) fun σ H Q ⟨μ, st, ρ, er, sr, h⟩ => ⟨μ, st, ρ, er, sr, (PostG.bind h).mono fun u H1 ⟨μ1, st1, x, g1, s1, rx, h1⟩ => by
    obtain ⟨k, e, h2⟩ := asB_bind rx h1
    exact ⟨k, e, h2 μ1 H1 _ (Gr.refl _ _) s1 rfl⟩⟩
noncomputable def eIf (t : Rho → M Bool) (ma mb : Rho → M PV) : Rho → M PV := fun ρ => M.bind (t ρ) fun c => if c = true then ma ρ else mb ρ
theorem me_ifExp {c : Expr} {t : Rho → M Bool} {ma mb : Rho → M PV} (hc : MT X W c t) (ha : ME X W a ma) (hb : ME X W b mb) : ME X W (.IfExp c a b pos) (eIf t ma mb) :=
  PE.imp (pe_ifExp hc ha hb) fun σ H Q ⟨μ, st, ρ, er, sr, h⟩ => ⟨μ, st, ρ, er, sr, (PostG.bind h).mono fun c H1 ⟨μ1, st1, c', g1, s1, ec, h1⟩ => by
    subst ec
    cases c' with
    | true => rw [if_pos rfl] at h1 ⊢; exact ⟨μ1, st1, ρ, er.mono g1, s1, h1⟩
    | false => rw [if_neg Bool.false_ne_true] at h1 ⊢; exact ⟨μ1, st1, ρ, er.mono g1, s1, h1⟩⟩

noncomputable def aNil : Rho → M (List PV) := fun _ => M.ret []
noncomputable def aCons (m : Rho → M PV) (r : Rho → M (List PV)) : Rho → M (List PV) := fun ρ => M.bind (m ρ) fun x => M.bind (r ρ) fun xs => M.ret (x :: xs)
theorem ma_nil : MA X W [] aNil := PA.imp pa_nil fun σ H Q ⟨μ, st, ρ, er, sr, h⟩ => h μ H [] (Gr.refl _ _) sr rfl
theorem ma_cons {es : List Expr} {m : Rho → M PV} {r : Rho → M (List PV)} (ha : ME X W e m) (hr : MA X W es r) (hs : starEach (e :: es) X.env = (false, eval e X.env) :: starEach es X.env := by kernel_rfl) : MA X W (e :: es) (aCons m r) :=
  PA.imp (pa_cons ha hr hs) fun σ H Q ⟨μ, st, ρ, er, sr, h⟩ => ⟨μ, st, ρ, er, sr, (PostG.bind h).mono fun u H1 ⟨μ1, st1, x, g1, s1, rx, h1⟩ =>
    ⟨μ1, st1, ρ, er.mono g1, s1, (PostG.bind h1).mono fun us H2 ⟨μ2, st2, xs, g2, s2, rxs, h2⟩ => h2 μ2 H2 _ (Gr.refl _ _) s2 (VRs.cons (VR.mono g2 x u rx) rxs)⟩⟩
noncomputable def spM (K : KW) (m : List PV → M PV) (n : Nat) : Sp := fun vs H Q E => ∃ μ st ps, SR K μ st H ∧ VRs K H μ ps vs ∧ ps.length = n ∧ PostG K E (VR K) Q μ H (m ps st)
noncomputable def eCall (f : List PV → M PV) (m : Rho → M (List PV)) : Rho → M PV := fun ρ => M.bind (m ρ) f
noncomputable def aLen (n : Nat) (m : Rho → M (List PV)) : Prop := ∀ ρ st xs st', m ρ st = .ok xs st' → xs.length = n
theorem aLen_nil : aLen 0 aNil := fun ρ st xs st' h => by cases h; rfl
theorem aLen_cons {n : Nat} {m : Rho → M PV} {r : Rho → M (List PV)} (h : aLen n r) : aLen (n + 1) (aCons m r) := fun ρ st xs st' e => by
  unfold aCons M.bind at e
  cases e1 : m ρ st with
  | ok a s1 =>
    rw [e1] at e
    dsimp only at e
    cases e2 : r ρ s1 with
    | ok b s2 =>
      rw [e2] at e
      cases e
      rw [List.length_cons, h ρ s1 b _ e2]
    | err x s2 => rw [e2] at e; cases e
    | bad => rw [e2] at e; cases e
  | err x s1 => rw [e1] at e; cases e
  | bad => rw [e1] at e; cases e
theorem PostG.lens {K : KW} {E : XK} {Q : List V → Hp → Prop} {μ : Mu} {H : Hp} {n : Nat} {m : Rho → M (List PV)} {ρ : Rho} {st : Sto} (hl : aLen n m) (h : PostG K E (fun H μ (ps : List PV) vs => VRs K H μ ps vs ∧ ps.length = n) Q μ H (m ρ st)) :
    PostG K E (VRs K) Q μ H (m ρ st) := by
  cases e : m ρ st with
  | ok a s' => rw [e] at h; exact fun μ' H' b g s r => h μ' H' b g s ⟨r, hl ρ st a s' e⟩
  | err x s' => rw [e] at h; exact h
  | bad => rw [e] at h; exact h
theorem me_call {x : Str} {f : Addr} {fd : FuncData} {ps : List Str} {k n : Nat} {p : Pos} {es : List Expr} {ma : Rho → M (List PV)} {mf : List PV → M PV} (F : FnOk X.prog X.w X.K X.mg X.base (L2.CX X.prog X.w) k f fd ps (spM (kw X) mf n)) (hr : Room k X.A) (hg : Gl X x) (hm : X.mg x = some (.ref f))
    (hk : PySem.W.keepIn X.K (.ref f) = true) (hb : Binds X.K fd ps []) (tk : Takes X W) (ha : MA X W (e :: es) ma) (hl : aLen n ma) (hdb : (x == ("__debug__" : Str)) = false := by kernel_rfl)
    (he : starEach (e :: es) X.env = (false, eval e X.env) :: starEach es X.env := by kernel_rfl) (hpl : (backTo pos (starEach es X.env)).any (·.1) = false := by kernel_rfl) :
    ME X W (.Call (.Name x p) (e :: es) [] pos) (eCall mf ma) :=
  PE.imp (pe_callSD (dvs := []) (ds := []) (E := WE W) F hr hg hm hk hb .nil (fun σ => passAt tk σ) ha hdb he hpl) fun σ H Q ⟨μ, st, ρ, er, sr, h⟩ =>
    ⟨μ, st, ρ, er, sr, PostG.lens hl ((PostG.bind h).mono fun us H1 ⟨μ1, st1, xs, g1, s1, ⟨rxs, hn⟩, h1⟩ => ⟨μ1, st1, xs, s1, by rw [List.append_nil]; exact rxs, hn, h1⟩)⟩
theorem me_callB {x : Str} {id : String} {r : List V → Hp → VK → Prop} {g : List PV → M PV} {p : Pos} {es : List Expr} {ma : Rho → M (List PV)} (hc : CallR X (.builtin id) r) (t : TL (kw X) r g) (hg : Gl X x) (hm : X.mg x = none) (hv : bootBuiltins x = some (.builtin id)) (ha : MA X W (e :: es) ma)
    (hn : x ≠ "__name__" := by decide +kernel) (hdb : (x == ("__debug__" : Str)) = false := by kernel_rfl) (he : starEach (e :: es) X.env = (false, eval e X.env) :: starEach es X.env := by kernel_rfl) (hpl : (backTo pos (starEach es X.env)).any (·.1) = false := by kernel_rfl) :
    ME X W (.Call (.Name x p) (e :: es) [] pos) (eCall g ma) :=
  PE.imp (pe_callB hc hg hm hv ha hn hdb he hpl) fun σ H Q ⟨μ, st, ρ, er, sr, h⟩ =>
    ⟨μ, st, ρ, er, sr, (PostG.bind h).mono fun us H1 ⟨μ1, st1, xs, g1, s1, rxs, h1⟩ => t μ1 st1 H1 xs us _ Q s1 rxs h1⟩
theorem me_callTy {x : Str} {T : String} {r : List V → Hp → VK → Prop} {g : List PV → M PV} {p : Pos} {es : List Expr} {ma : Rho → M (List PV)} (hc : CallR X (.type T) r) (t : TL (kw X) r g) (hg : Gl X x) (hm : X.mg x = none) (hv : bootBuiltins x = some (.type T)) (ha : MA X W (e :: es) ma)
    (hn : x ≠ "__name__" := by decide +kernel) (hdb : (x == ("__debug__" : Str)) = false := by kernel_rfl) (he : starEach (e :: es) X.env = (false, eval e X.env) :: starEach es X.env := by kernel_rfl) (hpl : (backTo pos (starEach es X.env)).any (·.1) = false := by kernel_rfl) :
    ME X W (.Call (.Name x p) (e :: es) [] pos) (eCall g ma) :=
  PE.imp (pe_callTy hc hg hm hv ha hn hdb he hpl) fun σ H Q ⟨μ, st, ρ, er, sr, h⟩ =>
    ⟨μ, st, ρ, er, sr, (PostG.bind h).mono fun us H1 ⟨μ1, st1, xs, g1, s1, rxs, h1⟩ => t μ1 st1 H1 xs us _ Q s1 rxs h1⟩
end

section
variable {X : Cx} {W : WX} {e a b : Expr} {pos : Pos} {s : Stmt} {rest : List Stmt} {m m' : Rho → M Fl} {me : Rho → M PV}
noncomputable def sNext : Rho → M Fl := fun ρ => M.ret (.next ρ)
noncomputable def sSeq (m m' : Rho → M Fl) : Rho → M Fl := fun ρ st => match m ρ st with
  | .ok (.next ρ') st' => m' ρ' st'
  | r => r
theorem mss_nil : MSs X W [] sNext := PSs.imp pss_nil fun D σ H ⟨μ, st, ρ, er, sr, h⟩ => h μ H σ (Gr.refl _ _) sr er
theorem mss_cons (h1 : MS X W s m) (h2 : MSs X W rest m') : MSs X W (s :: rest) (sSeq m m') :=
  PSs.imp (pss_cons h1 h2) fun D σ H ⟨μ, st, ρ, er, sr, h⟩ => ⟨μ, st, ρ, er, sr, by
    unfold sSeq at h
    cases q : m ρ st with
    | ok f st' =>
      rw [q] at h
      cases f with
      | next ρ' => exact fun μ' H' σ' g s' e' => ⟨μ', st', ρ', e', s', PostS.grow h g⟩
      | ret p => exact h
      | brk ρ' => exact h
      | cont ρ' => exact h
      | exc x ρ' => exact h
    | err x st' => rw [q] at h; exact h
    | bad => rw [q] at h; exact h⟩
theorem mss_one (h1 : MS X W s m) : MSs X W [s] m := PSs.imp (pss_one h1) fun _ _ _ h => h
noncomputable def sPass : Rho → M Fl := fun ρ => M.ret (.next ρ)
noncomputable def sBreak : Rho → M Fl := fun ρ => M.ret (.brk ρ)
noncomputable def sCont : Rho → M Fl := fun ρ => M.ret (.cont ρ)
noncomputable def sDrop (me : Rho → M PV) : Rho → M Fl := fun ρ => onErr ρ (me ρ) fun _ => M.ret (.next ρ)
theorem ms_expr (he : ME X W e me) (hs : swapsWith e none pos.line X.env = pure false := by kernel_rfl) : MS X W (.Expr e pos) (sDrop me) :=
  PS.imp (ps_expr he hs) fun D σ H ⟨μ, st, ρ, er, sr, h⟩ => ⟨μ, st, ρ, er, sr, (PostS.onErr h er).mono fun u H1 ⟨μ1, st1, x, g1, s1, rx, h1⟩ => h1 μ1 H1 σ (Gr.refl _ _) s1 (er.mono g1)⟩
noncomputable def sRet (me : Rho → M PV) : Rho → M Fl := fun ρ => onErr ρ (me ρ) fun v => M.ret (.ret v)
theorem ms_ret (he : ME X W e me) : MS X W (.Return (some e) pos) (sRet me) :=
  PS.imp (ps_ret he) fun D σ H ⟨μ, st, ρ, er, sr, h⟩ => ⟨μ, st, ρ, er, sr, (PostS.onErr h er).mono fun u H1 ⟨μ1, st1, x, g1, s1, rx, h1⟩ => h1 μ1 H1 u (Gr.refl _ _) s1 rx⟩
noncomputable def sRetN : Rho → M Fl := fun _ => M.ret (.ret .non)
noncomputable def sIf (t : Rho → M Bool) (m m' : Rho → M Fl) : Rho → M Fl := fun ρ => onErr ρ (t ρ) fun c => if c = true then m ρ else m' ρ
theorem ms_if {c : Expr} {sa sb : List Stmt} {t : Rho → M Bool} (hc : MT X W c t) (ha : MSs X W sa m) (hb : MSs X W sb m') : MS X W (.If c sa sb pos) (sIf t m m') :=
  PS.imp (ps_if hc ha hb) fun D σ H ⟨μ, st, ρ, er, sr, h⟩ => ⟨μ, st, ρ, er, sr, (PostS.onErr h er).mono fun c H1 ⟨μ1, st1, c', g1, s1, ec, h1⟩ => by
    subst ec
    cases c' with
    | true => rw [if_pos rfl] at h1 ⊢; exact ⟨μ1, st1, ρ, er.mono g1, s1, h1⟩
    | false => rw [if_neg Bool.false_ne_true] at h1 ⊢; exact ⟨μ1, st1, ρ, er.mono g1, s1, h1⟩⟩
noncomputable abbrev GM := PV → Rho → M Rho
noncomputable def tMG (K : KW) (W : WX) (g : GM) : TG := fun v σ H Q => ∃ μ st ρ p, ER K H μ ρ σ ∧ SR K μ st H ∧ VR K H μ p v ∧ PostG K (fun c d H' => W c d σ H') (ER K) Q μ H (g p ρ st)
noncomputable def MG (X : Cx) (W : WX) (tg : Expr) (g : GM) : Prop := PG X tg (tMG (kw X) W g)
theorem PG.imp {tg : Expr} {t t' : TG} (h : PG X tg t) (i : ∀ v σ H Q, t' v σ H Q → t v σ H Q) : PG X tg t' := ⟨fun pins s σ H v u Q I r q => h.run pins s σ H v u Q I r (i v σ H Q q)⟩
noncomputable def gN (i : Nat) : GM := fun p ρ => M.ret (ρ.set i (some p))
theorem mg_name {i : Nat} {x : Str} (hN : X.N.Nodup) (hi : X.N[i]? = some x) (hx : Loc X.env.scope x) (hf : X.fn x = true ∨ X.env.scope.names.lookup x = some .local := by first | exact .inl rfl | exact .inr rfl | assumption) : MG X W (.Name x pos) (gN i) :=
  PG.imp (pg_name hN hi hx hf) fun v σ H Q ⟨μ, st, ρ, p, er, sr, rv, h⟩ => h μ H _ (Gr.refl _ _) sr (er.set rv i)
noncomputable abbrev GsM := List PV → Rho → M Rho
noncomputable def tMGs (K : KW) (W : WX) (g : GsM) : TGs := fun vs σ H Q => ∃ μ st ρ ps, ER K H μ ρ σ ∧ SR K μ st H ∧ VRs K H μ ps vs ∧ PostG K (fun c d H' => False) (ER K) Q μ H (g ps ρ st)
noncomputable def MGs (X : Cx) (W : WX) (tgs : List Expr) (g : GsM) : Prop := PGs X tgs (tMGs (kw X) W g)
theorem PGs.imp {tg : List Expr} {t t' : TGs} (h : PGs X tg t) (i : ∀ v σ H Q, t' v σ H Q → t v σ H Q) : PGs X tg t' := ⟨fun pins s σ H v u Q I r q => h.run pins s σ H v u Q I r (i v σ H Q q)⟩
noncomputable def gsNil : GsM := fun ps ρ => match ps with
  | [] => M.ret ρ
  | _ => M.fail
noncomputable def gsCons (g : GM) (r : GsM) : GsM := fun ps ρ => match ps with
  | p :: ps => M.bind (M.calm (g p ρ)) fun ρ1 => r ps ρ1
  | [] => M.fail
theorem mgs_nil : MGs X W [] gsNil := PGs.imp pgs_nil fun vs σ H Q ⟨μ, st, ρ, ps, er, sr, rv, h⟩ => by
  cases ps with
  | nil => exact ⟨rv, h μ H σ (Gr.refl _ _) sr er⟩
  | cons p ps => exact h.elim
theorem mgs_cons {es : List Expr} {g : GM} {r : GsM} (h1 : MG X W e g) (h2 : MGs X W es r) (hs : (assignEach (e :: es) X.env).map (·.2) = assign e X.env :: (assignEach es X.env).map (·.2) := by kernel_rfl) : MGs X W (e :: es) (gsCons g r) :=
  PGs.imp (pgs_cons h1 h2 hs) fun vs σ H Q ⟨μ, st, ρ, ps, er, sr, rv, h⟩ => by
    cases ps with
    | nil => exact h.elim
    | cons p ps =>
      obtain ⟨v, t, ev, rp, rt⟩ := (show ∃ v r, vs = v :: r ∧ VR X.K H μ p v ∧ VRs X.K H μ ps r from rv)
      refine ⟨v, t, ev, μ, st, ρ, p, er, sr, rp, ?_⟩
      have q := PostG.bind (R' := ER X.K) h
      exact (PostG.calm q).mono fun σ1 H1 ⟨μ1, st1, ρ1, g1, s1, e1, h3⟩ => ⟨μ1, st1, ρ1, ps, e1, s1, VRs.mono g1 ps t rt, h3⟩
noncomputable def gT (n : Nat) (r : GsM) : GM := fun p ρ => match p with
  | .tup xs => if xs.length = n then M.calm (r xs ρ) else M.fail
  | _ => M.fail
theorem mg_tup {es : List Expr} {k n : Nat} {r : GsM} (hc : X.calm = true) (h : MGs X W es r) (hn : (assignEach es X.env).length = n := by kernel_rfl) (hst : (assignEach es X.env).findIdx? (·.1) = none := by kernel_rfl) : MG X W (.Tuple es k pos) (gT n r) :=
  PG.imp (pg_tup hc h hn hst) fun v σ H Q ⟨μ, st, ρ, p, er, sr, rv, h⟩ => by
    cases p with
    | tup xs =>
      obtain ⟨a, vs, ev, ta, rs⟩ := (show ∃ a vs, v = .ref a ∧ TupAt X.K H μ a vs ∧ VRs X.K H μ xs vs from rv)
      have h' : PostG (kw X) (fun c d H' => W c d σ H') (ER X.K) Q μ H ((if xs.length = n then M.calm (r xs ρ) else M.fail) st) := h
      by_cases hx : xs.length = n
      · rw [if_pos hx] at h'
        exact ⟨a, vs, ev, ta.sq, by rw [← VRs.length rs]; exact hx, μ, st, ρ, xs, er, sr, rs, PostG.calm h'⟩
      · rw [if_neg hx] at h'
        exact h'.elim
    | _ => exact h.elim
noncomputable def gTL (n : Nat) (r : GsM) : GM := fun p ρ => match p with
  | .tup xs => if xs.length = n then M.calm (r xs ρ) else M.fail
  | .lst xs => if xs.length = n then M.calm (r xs ρ) else M.fail
  | _ => M.fail
theorem PG.or {tg : Expr} {t t' : TG} (h : PG X tg t) (h' : PG X tg t') : PG X tg (fun v σ H Q => t v σ H Q ∨ t' v σ H Q) := ⟨fun pins s σ H v u Q I r q => by
  rcases q with q | q
  · exact h.run pins s σ H v u Q I r q
  · exact h'.run pins s σ H v u Q I r q⟩
noncomputable def sAsg (me : Rho → M PV) (g : GM) : Rho → M Fl := fun ρ => onErr ρ (me ρ) fun v => onErr ρ (g v ρ) fun ρ' => M.ret (.next ρ')
theorem asg_imp {g : GM} {me : Rho → M PV} : ∀ D σ H, tMS (kw X) W (sAsg me g) D σ H → tAsg (tM (kw X) W me) (tMG (kw X) W g) D σ H := fun D σ H ⟨μ, st, ρ, er, sr, h⟩ =>
  ⟨μ, st, ρ, er, sr, (PostS.onErr h er).mono fun u H1 ⟨μ1, st1, x, g1, s1, rx, h1⟩ => ⟨μ1, st1, ρ, x, er.mono g1, s1, rx, (PostS.onErr h1 (er.mono g1)).mono fun σ2 H2 ⟨μ2, st2, ρ2, g2, s2, e2, h2⟩ => h2 μ2 H2 σ2 (Gr.refl _ _) s2 e2⟩⟩
theorem ms_asg {tg : Expr} {g : GM} (he : ME X W e me) (hg : MG X W tg g) (hs : swapsWithSole [tg] e pos.line X.env = pure false := by kernel_rfl) (hw : swappedStores [tg] e X.env = pure none := by kernel_rfl)
    (h1 : (assignEach [tg] X.env).map (·.2) = [assign tg X.env] := by kernel_rfl) : MS X W (.Assign [tg] e pos) (sAsg me g) := PS.imp (ps_asg he hg hs hw h1) asg_imp
noncomputable def sSet (i : Nat) (me : Rho → M PV) : Rho → M Fl := fun ρ => onErr ρ (me ρ) fun v => M.ret (.next (ρ.set i (some v)))
theorem ms_set {i : Nat} {x : Str} {pos' : Pos} (hN : X.N.Nodup) (hi : X.N[i]? = some x) (hx : Loc X.env.scope x) (he : ME X W e me) (hs : swapsWith e (some (.Name x pos')) pos.line X.env = pure false := by kernel_rfl)
    (hf : X.fn x = true ∨ X.env.scope.names.lookup x = some .local := by first | exact .inl rfl | exact .inr rfl | assumption) : MS X W (.Assign [.Name x pos'] e pos) (sSet i me) :=
  PS.imp (ps_set hN hi hx he hs hf) fun D σ H ⟨μ, st, ρ, er, sr, h⟩ => ⟨μ, st, ρ, er, sr, (PostS.onErr h er).mono fun u H1 ⟨μ1, st1, x, g1, s1, rx, h1⟩ => h1 μ1 H1 _ (Gr.refl _ _) s1 ((er.mono g1).set rx i)⟩

noncomputable def turnL (k : Rho → M Fl) (m : M Fl) : M Fl := fun st => match m st with
  | .ok (.next ρ') st' => k ρ' st'
  | .ok (.cont ρ') st' => k ρ' st'
  | .ok (.brk ρ') st' => .ok (.next ρ') st'
  | r => r
noncomputable def forL (g : GM) (b : Rho → M Fl) : List PV → Rho → M Fl
  | [], ρ => M.ret (.next ρ)
  | p :: ps, ρ => onErr ρ (g p ρ) fun ρ1 => turnL (forL g b ps) (b ρ1)
noncomputable def Sup (K : KW) (J : It) (ps : List PV) (μ0 : Mu) (H0 : Hp) : Prop :=
  ∀ μ H st, Gr μ0 H0 μ H → SR K μ st H → (∀ (i : Nat) (p : PV), ps[i]? = some p → J.go i H ∧ ∀ x H', J.yld i H x H' → Gr μ H μ H' ∧ SR K μ st H' ∧ VR K H' μ p x) ∧ J.stop ps.length H
theorem for_imp {K : KW} {W : WX} {D : Ends} {J : It} {ps : List PV} {g : GM} {b : Rho → M Fl} {μ : Mu} {H : Hp} {σ : St} {ρ : Rho} {st : Sto} (su : Sup K J ps μ H) (er : ER K H μ ρ σ) (sr : SR K μ st H) (h : PostS K W D μ H (forL g b ps ρ st)) :
    ∃ V : Nat → Nat → St → Hp → Prop, (∃ m, V 0 m σ H) ∧ ∀ i m σ H, V i m σ H →
      (J.stop i H ∧ D.nx σ H) ∨ (J.go i H ∧ ∃ N : St → Hp → Prop, (∀ σ' H', N σ' H' → ∃ m', m' < m ∧ V (i + 1) m' σ' H') ∧ ∀ x H', J.yld i H x H' → tMG K W g x σ H' fun σ2 H2 => tMS K W b { D with nx := N, ct := N, bk := D.nx } σ2 H2) := by
  refine ⟨fun i m σ' H' => m = ps.length - i ∧ i ≤ ps.length ∧ ∃ μ' st' ρ', Gr μ H μ' H' ∧ ER K H' μ' ρ' σ' ∧ SR K μ' st' H' ∧ PostS K W D μ' H' (forL g b (ps.drop i) ρ' st'), ⟨ps.length, by simp, Nat.zero_le _, μ, st, ρ, Gr.refl _ _, er, sr, by rw [List.drop_zero]; exact h⟩, ?_⟩
  rintro i m σ1 H1 ⟨rfl, hi, μ1, st1, ρ1, g1, e1, s1, h1⟩
  by_cases hlt : i < ps.length
  · have hp : ps[i]? = some ps[i] := by simp [hlt]
    obtain ⟨go, yl⟩ := (su μ1 H1 st1 g1 s1).1 i ps[i] hp
    refine .inr ⟨go, fun σ' H' => ∃ μ' st' ρ', Gr μ H μ' H' ∧ ER K H' μ' ρ' σ' ∧ SR K μ' st' H' ∧ PostS K W D μ' H' (forL g b (ps.drop (i + 1)) ρ' st'), fun σ' H' q => ⟨ps.length - (i + 1), by omega, rfl, hlt, q⟩, fun x H' y => ?_⟩
    obtain ⟨g2, s2, rx⟩ := yl x H' y
    rw [List.drop_eq_getElem_cons hlt] at h1
    unfold forL at h1
    refine ⟨μ1, st1, ρ1, ps[i], e1.mono g2, s2, rx, (PostS.onErr (PostS.grow h1 g2) (e1.mono g2)).mono fun σ3 H3 ⟨μ3, st3, ρ3, g3, s3, e3, h3⟩ => ⟨μ3, st3, ρ3, e3, s3, ?_⟩⟩
    have gg := (g1.trans g2 fun a m => (s2.ban a m).1).trans g3 fun a m => (s3.ban a m).1
    unfold turnL at h3
    cases q : b ρ3 st3 with
    | ok f st' =>
      rw [q] at h3
      cases f with
      | next ρ' => exact fun μ' H' σ' g4 s4 e4 => ⟨μ', st', ρ', gg.trans g4 (fun a m => (s4.ban a m).1), e4, s4, PostS.grow h3 g4⟩
      | cont ρ' => exact fun μ' H' σ' g4 s4 e4 => ⟨μ', st', ρ', gg.trans g4 (fun a m => (s4.ban a m).1), e4, s4, PostS.grow h3 g4⟩
      | brk ρ' => exact h3
      | ret p => exact h3
      | exc x ρ' => exact h3
    | err x st' => rw [q] at h3; exact h3
    | bad => rw [q] at h3; exact h3
  · have e : i = ps.length := by omega
    subst e
    rw [List.drop_length] at h1
    exact .inl ⟨(su μ1 H1 st1 g1 s1).2, h1 μ1 H1 σ1 (Gr.refl _ _) s1 e1⟩
noncomputable def tMI (K : KW) (W : WX) (m : Rho → M (List PV)) : TI := fun σ H R => ∃ μ st ρ, ER K H μ ρ σ ∧ SR K μ st H ∧ PostG K (fun c d H' => W c d σ H') (fun H μ ps (J : It) => Sup K J ps μ H) R μ H (m ρ st)
noncomputable def MI (X : Cx) (W : WX) (tg iter : Expr) (m : Rho → M (List PV)) : Prop := PI X tg iter (tMI (kw X) W m)
theorem PI.imp {tg iter : Expr} {t t' : TI} (h : PI X tg iter t) (i : ∀ σ H R, t' σ H R → t σ H R) : PI X tg iter t' := ⟨fun pins s σ H R I q => h.run pins s σ H R I (i σ H R q)⟩
noncomputable def sFor (mi : Rho → M (List PV)) (g : GM) (b : Rho → M Fl) : Rho → M Fl := fun ρ => onErr ρ (mi ρ) fun ps => forL g b ps ρ
theorem ms_for {tg iter : Expr} {body : List Stmt} {mi : Rho → M (List PV)} {g : GM} (hp : PassesOwn (model X.prog X.w) X.A X.env X.xe) (hc : X.calm = true) (hi : MI X W tg iter mi) (hg : MG X W tg g) (hb : MSs X W body m)
    (hs : ∀ x, foldedSetIterable iter X.env x = pure x := by intro _; kernel_rfl) : MS X W (.For tg iter body [] pos) (sFor mi g m) :=
  PS.imp (ps_for hp hc hi hg hb hs) fun D σ H ⟨μ, st, ρ, er, sr, h⟩ => ⟨μ, st, ρ, er, sr, (PostS.onErr h er).mono fun J H1 ⟨μ1, st1, ps, g1, s1, su, h1⟩ => for_imp su (er.mono g1) s1 h1⟩
end

noncomputable def runB (m : Rho → M Fl) (n : Nat) (ps : List PV) : M PV := fun st => match m (ps.map some ++ List.replicate (n - ps.length) none) st with
  | .ok (.next _) st' => .ok .non st'
  | .ok (.ret p) st' => .ok p st'
  | .ok (.exc x _) st' => .err x st'
  | _ => .bad
theorem er_start {K : PySem.W.Frag} {H : Hp} {μ : Mu} {N : List Str} {ps : List PV} {vs : List V} (r : VRs K H μ ps vs) : ER K H μ (ps.map some ++ List.replicate (N.length - ps.length) none) (L2.start N vs) := by
  have hl := VRs.length r
  refine ⟨by unfold L2.start; simp [hl], fun i p h => ?_⟩
  by_cases hi : i < ps.length
  · rw [List.getElem?_append_left (by simpa using hi), List.getElem?_map] at h
    cases q : ps[i]? with
    | none => rw [q] at h; cases h
    | some p' =>
      rw [q] at h
      cases h
      obtain ⟨v, e1, e2⟩ := VRs.get r q
      refine ⟨v, ?_, e2⟩
      unfold L2.start
      rw [List.getElem?_append_left (by simpa [← hl] using hi), List.getElem?_map, e1]
      rfl
  · rw [List.getElem?_append_right (by simpa using hi), List.getElem?_replicate] at h
    split at h <;> cases h
theorem def_ok {P : Program} {w : World} {K : PySem.W.Frag} {mg : Str → Option Value} {base : Heap} {x qual : Str} {st : Stmt} {f : Addr} {fd : FuncData} {N ps : List Str} {k : Nat} {m : Rho → M Fl} (F : Fun K x qual st f fd) (S : FnScope N ps (defScope st))
    (hb : ∀ (cdv : Value) (A : Around) (outer : List Env) (s : Shared) (H : Hp) (E : XK), Room k (A.deeper (PyProof.Rows.envOfC qual (defScope st) s.heap.objs.size f cdv)) →
      MSs (cxOf (L2.CX P w) P w K mg base N qual (defScope st) f cdv A outer s H E) (fun c d _ H => E c d H) (defBody st) m) :
    FnOk P w K mg base (L2.CX P w) (k + 1) f fd ps (spM ⟨w, K⟩ (runB m N.length) ps.length) := by
  refine F.okX S (fun vs H Q E h => ?_) (fun cdv A outer s H vs Q E hr h => ?_)
  · obtain ⟨μ, st, qs, _, r, hn, _⟩ := h
    rw [← VRs.length r, hn]
  · refine ⟨_, hb cdv A outer s H E hr, ?_⟩
    obtain ⟨μ, st, qs, sr, r, hn, h⟩ := h
    refine ⟨μ, st, _, er_start r, sr, ?_⟩
    unfold runB at h
    cases q : m (qs.map some ++ List.replicate (N.length - qs.length) none) st with
    | ok fl st' =>
      rw [q] at h
      cases fl with
      | next ρ' => exact fun μ' H' σ' g s e => h μ' H' .non g s rfl
      | ret p => exact h
      | brk ρ' => exact h.elim
      | cont ρ' => exact h.elim
      | exc x ρ' => exact fun μ' H' σ' d g s e z => h μ' H' d g s z
    | err x st' => rw [q] at h; exact h.elim
    | bad => rw [q] at h; exact h.elim
end MP

set_option maxRecDepth 100000
set_option maxHeartbeats 4000000
namespace MP
open PySem L2 PySem.Spec PyProof.Rows
theorem tuple_mul1 (l : Addr) (items : Array Value) (n : Nat) (dd : Option Addr) (sl : Array (Option Value)) (u : Tok) :
    Meets (Builtin.«tuple.__mul__» ⟨[.ref l, .int 1 u], []⟩) (fun _ R s => s.heap.get? l = some { cls := .type "tuple", dict := dd, data := .seq items n, slots := sl } ∧ R (.ok (.ret (Value.ref l))) s) :=
  .of_wp fun prog w A R s h => by
    obtain ⟨hp, g, d, tk, os⟩ := s
    obtain ⟨hl, h⟩ := h
    have f1 := AutoSeq1.idx_int
    wp_walk using wpAny_loadPart' hl
    exact ⟨_, rfl, h⟩
theorem tuple_mul0 (l : Addr) (items : Array Value) (n : Nat) (dd : Option Addr) (sl : Array (Option Value)) (x : Int) (u : Tok) (c0 : (decide (x < -(2 ^ 63)) || decide (x ≥ 2 ^ 63)) = false) (c1 : (items.isEmpty || x == 1) = false) (c2 : (decide (x ≤ 0) || items.isEmpty) = true) :
    Meets (Builtin.«tuple.__mul__» ⟨[.ref l, .int x u], []⟩) (fun _ R s => s.heap.get? l = some { cls := .type "tuple", dict := dd, data := .seq items n, slots := sl } ∧
      R (.ok (.ret (Value.ref s.heap.objs.size))) { s with heap := s.heap.push { cls := Value.type "tuple", data := Data.seq #[] }, toks := s.toks }) :=
  .of_wp fun prog w A R s h => by
    obtain ⟨hp, g, d, tk, os⟩ := s
    obtain ⟨hl, h⟩ := h
    have f1 := AutoSeq1.idx_int
    wp_walk using wpAny_loadPart' hl
    repeat (first
      | (refine wpAny_ite_false (decide_eq_false (by rw [c0]; exact Bool.false_ne_true)) ?_; wp_walk using wpAny_loadPart' hl)
      | (refine wpAny_ite_false (decide_eq_false (by rw [c1]; exact Bool.false_ne_true)) ?_; wp_walk using wpAny_loadPart' hl)
      | (refine wpAny_ite_true (decide_eq_true (by rw [c2])) ?_; wp_walk using wpAny_loadPart' hl))
    exact ⟨_, rfl, h⟩
noncomputable def rRepL (K : PySem.W.Frag) : R2 := fun x y H Q => ∃ l k xs, x = .ref l ∧ y = .int k ∧ SqT K H l xs ∧ ((k = 1 ∧ Q (.ref l) H) ∨ (xs ≠ [] ∧ k ≤ 0 ∧ -1000000 ≤ k ∧ ∀ p, H p = none → Q (.ref p) (upd H p (.tup []))))
theorem op_repL {X : Cx} : OpR X (binaryOp .Mult) (rRepL X.K) := by
  intro pins s σ H x y v u Q I rx ry h
  obtain ⟨l, k, xs, rfl, rfl, hT, h⟩ := h
  cases rx
  obtain ⟨t, rfl⟩ := ry
  obtain ⟨its, r, ⟨⟨cls, dd, data, sl⟩, ho, hc, n, hd⟩, hs⟩ := I.tuple hT
  simp only at hc hd
  subst hc hd
  have hle : its.length = xs.length := r.length.symm
  rcases h with ⟨rfl, q⟩ | ⟨hne, h1, h2, q⟩
  · refine wpAny_binaryOp_repeat_ref (T := "tuple") (U := "int") (by decide) ⟨_, ho, rfl⟩ (fun s' => typeIs_int s' 1 t) noFill_tuple_mul F.fills_int_mul F.slot_int_rmul repeat_tuple F.slot_int_index.lookup
      (call_meets F.slot_int_rmul (typeIs_int s 1 t) F.entry_int_rmul (F.args_int_rmul_2 _ _) (int_rmul_tuple 1 t l its.toArray n dd sl)
        ⟨ho, rfl, ⟨_, ho, rfl⟩, call_meets F.slot_tuple_mul ⟨_, ho, rfl⟩ F.entry_tuple_mul (F.args_tuple_mul_2 _ _) (tuple_mul1 l its.toArray n dd sl t) ⟨ho, ?_⟩⟩)
    exact ⟨.ref l, H, I, rfl, q⟩
  · have hn : its ≠ [] := fun e => hne (by
      rw [e] at hle
      exact List.eq_nil_of_length_eq_zero hle.symm)
    have hi : its.toArray.isEmpty = false := by
      cases its with
      | nil => exact absurd rfl hn
      | cons a b => rfl
    have c0 : (decide (k < -(2 ^ 63)) || decide (k ≥ 2 ^ 63)) = false := by
      rw [decide_eq_false (by omega), decide_eq_false (by omega)] <;> rfl
    have c1 : (its.toArray.isEmpty || k == 1) = false := by
      rw [hi, Bool.false_or]
      exact beq_eq_false_iff_ne.mpr (by omega)
    have c2 : (decide (k ≤ 0) || its.toArray.isEmpty) = true := by
      rw [hi, Bool.or_false]
      exact decide_eq_true (by omega)
    refine wpAny_binaryOp_repeat_ref (T := "tuple") (U := "int") (by decide) ⟨_, ho, rfl⟩ (fun s' => typeIs_int s' k t) noFill_tuple_mul F.fills_int_mul F.slot_int_rmul repeat_tuple F.slot_int_index.lookup
      (call_meets F.slot_int_rmul (typeIs_int s k t) F.entry_int_rmul (F.args_int_rmul_2 _ _) (int_rmul_tuple k t l its.toArray n dd sl)
        ⟨ho, rfl, ⟨_, ho, rfl⟩, call_meets F.slot_tuple_mul ⟨_, ho, rfl⟩ F.entry_tuple_mul (F.args_tuple_mul_2 _ _) (tuple_mul0 l its.toArray n dd sl k t c0 c1 c2) ⟨ho, ?_⟩⟩)
    refine ⟨.ref s.heap.objs.size, _, I.laid (t' := s.toks) (o := .tup []) (fun b ob q => Heap.get?_push_of_some _ q) (Nat.le_refl _) ?_, rfl, q _ (I.hok.fresh (Nat.le_refl _))⟩
    exact ⟨by rw [sizeLine_eq]; simp, _, .nil, IsTup.new _ _⟩
end MP

set_option maxRecDepth 100000
set_option maxHeartbeats 1000000
namespace MP
open PySem L2
noncomputable abbrev SZ : Nat := 16777216
theorem sz_eq : sizeLine = SZ := sizeLine_eq
section
variable {K : KW} {H : Hp} {μ : Mu} {st : Sto} {E : XK} {Q : VK} {x y : PV} {u v : V}
theorem post_tup {ps : List PV} {vs : List V} {p : Addr} (sr : SR K μ st H) (r : VRs K H μ ps vs) (hp : H p = none) (h : PostG K E (VR K) Q μ H (.ok (.tup ps) st)) : Q (.ref p) (upd H p (.tup vs)) :=
  h μ _ _ (gr_new hp) (sr.new hp) (show ∃ a ws, V.ref p = .ref a ∧ TupAt K (upd H p (.tup vs)) μ a ws ∧ VRs K (upd H p (.tup vs)) μ ps ws from ⟨p, vs, rfl, .inl ⟨.inl upd_same, sr.free hp⟩, VRs.mono (gr_new hp) ps vs r⟩)
theorem post_lst {ps : List PV} {vs : List V} {p : Addr} (sr : SR K μ st H) (r : VRs K H μ ps vs) (hp : H p = none) (h : PostG K E (VR K) Q μ H (.ok (.lst ps) st)) : Q (.ref p) (upd H p (.lst vs)) :=
  h μ _ _ (gr_new hp) (sr.new hp) (show ∃ a ws, V.ref p = .ref a ∧ LstAt (upd H p (.lst vs)) μ a ws ∧ VRs K (upd H p (.lst vs)) μ ps ws from ⟨p, vs, rfl, ⟨upd_same, sr.free hp⟩, VRs.mono (gr_new hp) ps vs r⟩)
theorem post_cell {c : Cell} {o : HO} {p : Addr} (h : PostG K E (VR K) Q μ H (.ok (.loc st.length) (st ++ [c]))) (sr : SR K μ st H) (hp : H p = none) (hc : CR K (upd H p o) (μ.add p) p c) : Q (.ref p) (upd H p o) :=
  h _ _ _ (gr_alloc hp) (sr.alloc hp hc) (show ∃ a, V.ref p = .ref a ∧ (μ.add p).l[st.length]? = some a from ⟨p, rfl, by rw [← sr.len]; simp [Mu.add]⟩)
theorem post_same {p : PV} (h : PostG K E (VR K) Q μ H (.ok p st)) (sr : SR K μ st H) (r : VR K H μ p v) : Q v H := h μ H v (Gr.refl _ _) sr r
theorem lst_at {K : PySem.W.Frag} {ps : List PV} (r : VR K H μ (.lst ps) v) : ∃ a vs, v = .ref a ∧ LstAt H μ a vs ∧ VRs K H μ ps vs := r
theorem frz_at {K : PySem.W.Frag} {ps : List PV} (r : VR K H μ (.frz ps) v) : ∃ a vs, v = .ref a ∧ FrzAt K H μ a vs ∧ VRs K H μ ps vs := r
theorem tup_at {K : PySem.W.Frag} {ps : List PV} (r : VR K H μ (.tup ps) v) : ∃ a vs, v = .ref a ∧ TupAt K H μ a vs ∧ VRs K H μ ps vs := r
theorem xt_at {K : PySem.W.Frag} {ps : List PV} (r : VR K H μ (.xt ps) v) : ∃ a vs, v = .ref a ∧ XtAt H μ a vs ∧ VRs K H μ ps vs := r
theorem loc_at {K : PySem.W.Frag} {n : Nat} (r : VR K H μ (.loc n) v) : ∃ a, v = .ref a ∧ μ.l[n]? = some a := r
noncomputable def listOf (p : PV) (st : Sto) : Option (List PV) := match p with
  | .lst xs => some xs
  | .loc n => match st[n]? with
    | some (.lst xs) => some xs
    | _ => none
  | _ => none
theorem listOf_at {ps : List PV} (sr : SR K μ st H) (r : VR K H μ x v) (h : listOf x st = some ps) : ∃ a vs, v = .ref a ∧ H a = some (.lst vs) ∧ VRs K H μ ps vs := by
  cases x with
  | lst xs =>
    cases h
    obtain ⟨a, vs, e, l, rs⟩ := lst_at r
    exact ⟨a, vs, e, l.1, rs⟩
  | loc n =>
    obtain ⟨a, e, ha⟩ := loc_at r
    unfold listOf at h
    dsimp only at h
    cases q : st[n]? with
    | none => rw [q] at h; cases h
    | some c =>
      rw [q] at h
      cases c with
      | lst xs =>
        cases h
        obtain ⟨vs, h1, h2⟩ := sr.cell n _ a q ha
        exact ⟨a, vs, e, h1, h2⟩
      | dct kvs => cases h
      | ins C fs => cases h
      | dcl kvs => cases h
      | dcn kvs => cases h
      | lck kvs => cases h
  | _ => cases h
noncomputable def seqOf (p : PV) (st : Sto) : Option (List PV) := match p with
  | .lst xs => some xs
  | .frz xs => some xs
  | .tup xs => some xs
  | .loc n => match st[n]? with
    | some (.lst xs) => some xs
    | _ => none
  | _ => none
theorem seqOf_at {ps : List PV} (sr : SR K μ st H) (r : VR K H μ x v) (h : seqOf x st = some ps) : ∃ a vs, v = .ref a ∧ (SqL K H a vs ∨ SqT K H a vs) ∧ VRs K H μ ps vs := by
  cases x with
  | lst xs =>
    cases h
    obtain ⟨a, vs, e, l, rs⟩ := lst_at r
    exact ⟨a, vs, e, .inl l.sq, rs⟩
  | frz xs =>
    cases h
    obtain ⟨a, vs, e, l, rs⟩ := frz_at r
    exact ⟨a, vs, e, .inl l.sq, rs⟩
  | tup xs =>
    cases h
    obtain ⟨a, vs, e, l, rs⟩ := tup_at r
    exact ⟨a, vs, e, .inr l.sq, rs⟩
  | loc n =>
    obtain ⟨a, vs, e, l, rs⟩ := listOf_at sr r (show listOf (.loc n) st = some ps from h)
    exact ⟨a, vs, e, .inl (SqL.of l), rs⟩
  | _ => cases h
theorem VRs.atI {K : PySem.W.Frag} {ps : List PV} {vs : List V} {i : Int} {p : PV} (r : VRs K H μ ps vs) (h : L2.atI ps i = some p) : ∃ w, L2.atI vs i = some w ∧ VR K H μ p w := by
  unfold L2.atI at h ⊢
  rw [VRs.length r] at h
  cases q : ixN vs.length i with
  | none => rw [q] at h; cases h
  | some j =>
    rw [q] at h
    exact VRs.get r h
end

noncomputable def addV (x y : PV) : M PV := match x, y with
  | .int i, .int j => M.ret (.int (i + j))
  | .str a, .str b => if a.length + b.length ≤ SZ then M.ret (.str (a ++ b)) else M.fail
  | .tup a, .tup b => if a.length + b.length ≤ SZ then M.ret (.tup (a ++ b)) else M.fail
  | x, y => fun st => match listOf x st, listOf y st with
    | some a, some b => if a.length + b.length ≤ SZ then .ok (.lst (a ++ b)) st else .bad
    | _, _ => .bad
noncomputable def rAddM (K : PySem.W.Frag) : R2 := fun x y H Q => (∃ i j, x = .int i ∧ y = .int j ∧ Q (.int (i + j)) H) ∨ (∃ i j, x = .str i ∧ y = .str j ∧ i.length + j.length ≤ sizeLine ∧ Q (.str (i ++ j)) H) ∨ rCatA K x y H Q ∨ rCat x y H Q
theorem op_addM {X : Cx} : OpR X (binaryOp .Add) (rAddM X.K) := op_add.or (op_add_str.or (op_catA.or op_cat))
theorem str_app (a b : List Nat) : (⟨a.toArray⟩ : Str) ++ (⟨b.toArray⟩ : Str) = ⟨(a ++ b).toArray⟩ := by
  show (⟨a.toArray ++ b.toArray⟩ : Str) = ⟨(a ++ b).toArray⟩
  simp
theorem str_len (a : List Nat) : (⟨a.toArray⟩ : Str).length = a.length := by
  show a.toArray.size = a.length
  simp
theorem add_list {K : KW} {μ : Mu} {st : Sto} {H : Hp} {x y : PV} {u v : V} {E : XK} {Q : VK} (sr : SR K μ st H) (rx : VR K H μ x u) (ry : VR K H μ y v)
    (h : PostG K E (VR K) Q μ H (match listOf x st, listOf y st with
    | some a, some b => if a.length + b.length ≤ SZ then .ok (.lst (a ++ b)) st else .bad
    | _, _ => .bad)) : rCat u v H Q := by
  cases q1 : listOf x st with
  | none => rw [q1] at h; exact h.elim
  | some a =>
    cases q2 : listOf y st with
    | none => rw [q1, q2] at h; exact h.elim
    | some b =>
      rw [q1, q2] at h
      dsimp only at h
      by_cases hz : a.length + b.length ≤ SZ
      · rw [if_pos hz] at h
        obtain ⟨p, vs, rfl, h1, r1⟩ := listOf_at sr rx q1
        obtain ⟨p', vs', rfl, h2, r2⟩ := listOf_at sr ry q2
        exact ⟨p, p', vs, vs', rfl, rfl, h1, h2, by rw [← VRs.length r1, ← VRs.length r2, sz_eq]; exact hz, fun q hq => post_lst sr (VRs.append r1 r2) hq h⟩
      · rw [if_neg hz] at h
        exact h.elim
theorem t_add {K : KW} : T2 K (rAddM K) addV := by
  intro μ st H x y u v E Q sr rx ry h
  cases x with
  | int i =>
    cases y with
    | int j =>
      cases (show u = V.int _ from rx); cases (show v = V.int _ from ry)
      exact .inl ⟨_, _, rfl, rfl, post_same h sr rfl⟩
    | _ => exact .inr (.inr (.inr (add_list sr rx ry h)))
  | str a =>
    cases y with
    | str b =>
      cases (show u = V.str ⟨a.toArray⟩ from rx); cases (show v = V.str ⟨b.toArray⟩ from ry)
      unfold addV at h
      dsimp only at h
      by_cases hz : a.length + b.length ≤ SZ
      · rw [if_pos hz] at h
        exact .inr (.inl ⟨_, _, rfl, rfl, by rw [str_len, str_len, sz_eq]; exact hz, by rw [str_app]; exact post_same h sr rfl⟩)
      · rw [if_neg hz] at h
        exact h.elim
    | _ => exact .inr (.inr (.inr (add_list sr rx ry h)))
  | tup a =>
    cases y with
    | tup b =>
      obtain ⟨p, vs, rfl, h1, r1⟩ := tup_at rx
      obtain ⟨p', vs', rfl, h2, r2⟩ := tup_at ry
      unfold addV at h
      dsimp only at h
      by_cases hz : a.length + b.length ≤ SZ
      · rw [if_pos hz] at h
        refine .inr (.inr (.inl ⟨p, p', vs, vs', rfl, rfl, h1.sq, h2.sq, by rw [← VRs.length r1, ← VRs.length r2, sz_eq]; exact hz, fun e => ?_, fun _ e => ?_, fun _ _ q hq => post_tup sr (VRs.append r1 r2) hq h⟩))
        · have ea : a = [] := (VRs.nil_iff r1).mp e
          subst ea
          exact post_same h sr ry
        · have eb : b = [] := (VRs.nil_iff r2).mp e
          subst eb
          rw [List.append_nil] at h
          exact post_same h sr rx
      · rw [if_neg hz] at h
        exact h.elim
    | _ => exact .inr (.inr (.inr (add_list sr rx ry h)))
  | _ => exact .inr (.inr (.inr (add_list sr rx ry h)))
noncomputable def subV (x y : PV) : M PV := match x, y with
  | .int i, .int j => M.ret (.int (i - j))
  | _, _ => M.fail
theorem t_sub {K : KW} : T2 K (rI0 fun i j => .int (i - j)) subV := by
  intro μ st H x y u v E Q sr rx ry h
  unfold subV at h
  split at h
  · cases (show u = V.int _ from rx); cases (show v = V.int _ from ry)
    exact ⟨_, _, rfl, rfl, post_same h sr rfl⟩
  · exact h.elim
noncomputable def mulOk (i j : Int) : Bool := decide (-18446744073709551616 < i ∧ i < 18446744073709551616) || decide (-18446744073709551616 < j ∧ j < 18446744073709551616)
noncomputable def mulV (x y : PV) : M PV := match x, y with
  | .int i, .int j => if mulOk i j = true then M.ret (.int (i * j)) else M.fail
  | .tup a, .int k => if a ≠ [] ∧ -1000000 ≤ k ∧ k ≤ 1000 ∧ a.length ≤ 1000 then M.ret (.tup (List.replicate k.toNat a).flatten) else M.fail
  | _, _ => M.fail
theorem VRs.rep {K : PySem.W.Frag} {H : Hp} {μ : Mu} {ps : List PV} {vs : List V} (r : VRs K H μ ps vs) : ∀ k : Nat, VRs K H μ (List.replicate k ps).flatten (List.replicate k vs).flatten
  | 0 => rfl
  | k + 1 => by
    rw [List.replicate_succ, List.replicate_succ, List.flatten_cons, List.flatten_cons]
    exact VRs.append r (VRs.rep r k)
theorem t_mul {K : KW} : T2 K (fun x y H Q => rI CMul (fun i j => .int (i * j)) x y H Q ∨ (rRepT K x y H Q ∨ rRepL K x y H Q)) mulV := by
  intro μ st H x y u v E Q sr rx ry h
  unfold mulV at h
  split at h
  · rename_i i j
    cases (show u = V.int i from rx); cases (show v = V.int j from ry)
    by_cases hz : mulOk i j = true
    · rw [if_pos hz] at h
      refine .inl ⟨_, _, rfl, rfl, ?_, post_same h sr rfl⟩
      unfold mulOk at hz
      rw [Bool.or_eq_true, decide_eq_true_eq, decide_eq_true_eq] at hz
      exact hz
    · rw [if_neg hz] at h
      exact h.elim
  · rename_i a k
    obtain ⟨p, vs, rfl, h1, r1⟩ := tup_at rx
    cases (show v = V.int k from ry)
    by_cases hz : a ≠ [] ∧ -1000000 ≤ k ∧ k ≤ 1000 ∧ a.length ≤ 1000
    · rw [if_pos hz] at h
      have hn : vs ≠ [] := fun e => hz.1 ((VRs.nil_iff r1).mp e)
      by_cases h2 : 2 ≤ k
      · exact .inr (.inl ⟨p, k, vs, rfl, rfl, h1.sq, hn, h2, hz.2.2.1, by rw [← VRs.length r1]; exact hz.2.2.2, fun q hq => post_tup sr (VRs.rep r1 _) hq h⟩)
      · by_cases h3 : k = 1
        · subst h3
          have e : (List.replicate (1 : Int).toNat a).flatten = a := by simp
          rw [e] at h
          exact .inr (.inr ⟨p, 1, vs, rfl, rfl, h1.sq, .inl ⟨rfl, post_same h sr rx⟩⟩)
        · have e : (List.replicate k.toNat a).flatten = [] := by rw [show k.toNat = 0 by omega]; rfl
          rw [e] at h
          exact .inr (.inr ⟨p, k, vs, rfl, rfl, h1.sq, .inr ⟨hn, by omega, hz.2.1, fun q hq => post_tup (ps := []) sr (show VRs K H μ [] [] from rfl) hq h⟩⟩)
    · rw [if_neg hz] at h
      exact h.elim
  · exact h.elim
noncomputable def fdivV (x y : PV) : M PV := match x, y with
  | .int i, .int j => if (j ≠ 0 ∧ j.natAbs < 1073741824) ∨ (0 < j ∧ j.natAbs.log2 < 9000) then M.ret (.int (i.fdiv j)) else M.fail
  | _, _ => M.fail
theorem t_fdiv {K : KW} : T2 K (fun x y H Q => rI CDivN (fun i j => .int (i.fdiv j)) x y H Q ∨ rI CDivW (fun i j => .int (i / j)) x y H Q) fdivV := by
  intro μ st H x y u v E Q sr rx ry h
  unfold fdivV at h
  split at h
  · rename_i i j
    cases (show u = V.int i from rx); cases (show v = V.int j from ry)
    by_cases hz : (j ≠ 0 ∧ j.natAbs < 1073741824) ∨ (0 < j ∧ j.natAbs.log2 < 9000)
    · rw [if_pos hz] at h
      rcases hz with hz | hz
      · exact .inl ⟨_, _, rfl, rfl, hz, post_same h sr rfl⟩
      · refine .inr ⟨_, _, rfl, rfl, hz, ?_⟩
        have q := post_same (v := V.int (i.fdiv j)) h sr rfl
        rw [Int.fdiv_eq_ediv_of_nonneg i (by omega)] at q
        exact q
    · rw [if_neg hz] at h
      exact h.elim
  · exact h.elim
noncomputable def modV (x y : PV) : M PV := match x, y with
  | .int i, .int j => if j ≠ 0 then M.ret (.int (i.fmod j)) else M.fail
  | _, _ => M.fail
theorem t_mod {K : KW} : T2 K (rI (fun _ j => j ≠ 0) fun i j => .int (i.fmod j)) modV := by
  intro μ st H x y u v E Q sr rx ry h
  unfold modV at h
  split at h
  · rename_i i j
    cases (show u = V.int i from rx); cases (show v = V.int j from ry)
    by_cases hz : j ≠ 0
    · rw [if_pos hz] at h
      exact ⟨_, _, rfl, rfl, hz, post_same h sr rfl⟩
    · rw [if_neg hz] at h
      exact h.elim
  · exact h.elim
noncomputable def powV (x y : PV) : M PV := match x, y with
  | .int i, .int j => if 0 ≤ j ∧ j ≤ 1000000 ∧ i.natAbs < 18446744073709551616 then M.ret (.int (i ^ j.toNat)) else M.fail
  | _, _ => M.fail
noncomputable def negV (x : PV) : M PV := match x with
  | .int i => M.ret (.int (-i))
  | _ => M.fail
theorem t_neg {K : KW} : T1 K (rU fun i => .int (-i)) negV := by
  intro μ st H x u E Q sr rx h
  unfold negV at h
  split at h
  · cases (show u = V.int _ from rx)
    exact ⟨_, rfl, post_same h sr rfl⟩
  · exact h.elim
section
variable {X : Cx} {W : WX} {a b : Expr} {pos : Pos} {ma mb : Rho → M PV}
theorem me_add (ha : ME X W a ma) (hb : ME X W b mb) : ME X W (.BinOp a .Add b pos) (eBin addV ma mb) := me_bin op_addM t_add ha hb
theorem me_sub (ha : ME X W a ma) (hb : ME X W b mb) : ME X W (.BinOp a .Sub b pos) (eBin subV ma mb) := me_bin op_sub t_sub ha hb
theorem me_mul (ha : ME X W a ma) (hb : ME X W b mb) : ME X W (.BinOp a .Mult b pos) (eBin mulV ma mb) := me_bin (op_mul.or (op_repT.or op_repL)) t_mul ha hb
theorem me_fdiv (ha : ME X W a ma) (hb : ME X W b mb) : ME X W (.BinOp a .FloorDiv b pos) (eBin fdivV ma mb) := me_bin (op_fdivN.or op_fdivW) t_fdiv ha hb
theorem me_mod (ha : ME X W a ma) (hb : ME X W b mb) : ME X W (.BinOp a .Mod b pos) (eBin modV ma mb) := me_bin op_modN t_mod ha hb
theorem me_neg (ha : ME X W a ma) : ME X W (.UnaryOp .USub a pos) (eUn negV ma) := me_un un_neg t_neg ha
end
noncomputable def ltV (p : Int → Int → Bool) (x y : PV) : M PV := match x, y with
  | .int i, .int j => M.ret (.bl (p i j))
  | _, _ => M.fail
theorem t_cmpI {K : KW} (p : Int → Int → Bool) : T2 K (rI0 fun i j => .bl (p i j)) (ltV p) := by
  intro μ st H x y u v E Q sr rx ry h
  unfold ltV at h
  split at h
  · cases (show u = V.int _ from rx); cases (show v = V.int _ from ry)
    exact ⟨_, _, rfl, rfl, post_same h sr rfl⟩
  · exact h.elim
noncomputable abbrev ltI : PV → PV → M PV := ltV fun i j => decide (i < j)
noncomputable abbrev leI : PV → PV → M PV := ltV fun i j => decide (i ≤ j)
noncomputable abbrev gtI : PV → PV → M PV := ltV fun i j => decide (j < i)
mutual
noncomputable def eqb : PV → PV → Bool
  | .non, .non => true
  | .bl a, .bl b => a == b
  | .bl a, .int j => (if a then 1 else 0) == j
  | .int i, .bl b => i == (if b then 1 else 0)
  | .int i, .int j => i == j
  | .str x, .str y => x == y
  | .lst xs, .lst ys => eqbs xs ys
  | .tup xs, .tup ys => eqbs xs ys
  | _, _ => false
noncomputable def eqbs : List PV → List PV → Bool
  | [], [] => true
  | x :: xs, y :: ys => eqb x y && eqbs xs ys
  | _, _ => false
end
mutual
noncomputable def toD : PV → Option PyData
  | .non => some .none
  | .bl b => some (.bool b)
  | .int i => some (.int i)
  | .str x => some (.str ⟨x.toArray⟩)
  | .lst xs => (toDs xs).map .list
  | .tup xs => (toDs xs).map .tuple
  | _ => none
noncomputable def toDs : List PV → Option (List PyData)
  | [] => some []
  | x :: xs => match toD x, toDs xs with
    | some d, some ds => some (d :: ds)
    | _, _ => none
end
end MP

set_option maxRecDepth 100000
set_option maxHeartbeats 1000000
namespace MP
open PySem L2
noncomputable def lookP : List (PV × PV) → PV → Option PV
  | [], _ => none
  | p :: r, k => if p.1 = k then some p.2 else lookP r k
noncomputable def putP (kvs : List (PV × PV)) (k v : PV) : List (PV × PV) :=
  if (kvs.any fun kv => decide (kv.1 = k)) = true then kvs.map (fun kv => if kv.1 = k then (kv.1, v) else kv) else kvs ++ [(k, v)]
section
variable {K : PySem.W.Frag} {H : Hp} {μ : Mu}
theorem valueAt_pos {κ : Type} [DecidableEq κ] {x : κ × Value} {r : List (κ × Value)} {k : κ} (e : x.1 = k) : valueAt (x :: r) k = some x.2 := by simp [valueAt, List.find?_cons, e]
theorem valueAt_neg {κ : Type} [DecidableEq κ] {x : κ × Value} {r : List (κ × Value)} {k : κ} (e : ¬ x.1 = k) : valueAt (x :: r) k = valueAt r k := by simp [valueAt, List.find?_cons, e]
theorem atKey_pos {κ : Type} [DecidableEq κ] {x : κ × Addr × Value} {r : List (κ × Addr × Value)} {k : κ} (e : x.1 = k) : atKey (x :: r) k = some x.2 := by simp [atKey, List.find?_cons, e]
theorem atKey_neg {κ : Type} [DecidableEq κ] {x : κ × Addr × Value} {r : List (κ × Addr × Value)} {k : κ} (e : ¬ x.1 = k) : atKey (x :: r) k = atKey r k := by simp [atKey, List.find?_cons, e]
theorem lf_dec {p k : PV} {x l : Leaf} (h : lfOf p = some x) (hk : lfOf k = some l) : (x = l) = (p = k) := by
  refine propext ⟨fun e => ?_, fun e => ?_⟩
  · rw [← e] at hk; exact lfOf_inj h hk
  · rw [e, hk] at h; exact (Option.some.inj h).symm
theorem nk_dec {p k : PV} {x l : NestedKey} (h : nkT p = some x) (hk : nkT k = some l) : (x = l) = (p = k) := by
  refine propext ⟨fun e => ?_, fun e => ?_⟩
  · rw [← e] at hk; exact nkT_inj h hk
  · rw [e, hk] at h; exact (Option.some.inj h).symm
theorem LRs.look {k : PV} {l : Leaf} (hk : lfOf k = some l) {kvs : List (PV × PV)} {xs : List (Leaf × Value)} (r : LRs K H μ kvs xs) :
    ∃ o : Option V, RelO o (valueAt xs l) ∧ (∀ p, lookP kvs k = some p → ∃ v, o = some v ∧ VR K H μ p v) ∧ (lookP kvs k = none → o = none) := by
  unfold LRs at r
  induction r with
  | nil => exact ⟨none, trivial, fun p h => (by cases h), fun _ => rfl⟩
  | @cons p x ps xs h t ih =>
    obtain ⟨h1, v, h2, h3⟩ := h
    unfold lookP
    by_cases e : p.1 = k
    · have e' : x.1 = l := by rw [lf_dec h1 hk]; exact e
      rw [if_pos e, valueAt_pos e']
      exact ⟨some v, h3, fun q hq => by cases hq; exact ⟨v, rfl, h2⟩, fun h => (by cases h)⟩
    · have e' : ¬ x.1 = l := by rw [lf_dec h1 hk]; exact e
      rw [if_neg e, valueAt_neg e']
      exact ih
theorem NRs.look {k : PV} {l : NestedKey} (hk : nkT k = some l) {kvs : List (PV × PV)} {xs : List (NestedKey × Addr × Value)} (r : NRs K H μ kvs xs) :
    ∃ o : Option V, RelO o ((atKey xs l).map (·.2)) ∧ (∀ p, lookP kvs k = some p → ∃ v, o = some v ∧ VR K H μ p v) ∧ (lookP kvs k = none → o = none) := by
  unfold NRs at r
  induction r with
  | nil => exact ⟨none, trivial, fun p h => (by cases h), fun _ => rfl⟩
  | @cons p x ps xs h t ih =>
    obtain ⟨h1, _, v, h2, h3⟩ := h
    unfold lookP
    by_cases e : p.1 = k
    · have e' : x.1 = l := by rw [nk_dec h1 hk]; exact e
      rw [if_pos e, atKey_pos e']
      exact ⟨some v, h3, fun q hq => by cases hq; exact ⟨v, rfl, h2⟩, fun h => (by cases h)⟩
    · have e' : ¬ x.1 = l := by rw [nk_dec h1 hk]; exact e
      rw [if_neg e, atKey_neg e']
      exact ih
theorem LRs.any {k : PV} {l : Leaf} (hk : lfOf k = some l) {kvs : List (PV × PV)} {xs : List (Leaf × Value)} (r : LRs K H μ kvs xs) : (xs.any fun x => decide (x.1 = l)) = (kvs.any fun x => decide (x.1 = k)) := by
  unfold LRs at r
  induction r with
  | nil => rfl
  | cons h t ih => rw [List.any_cons, List.any_cons, ih]; simp only [lf_dec h.1 hk]
theorem NRs.any {k : PV} {l : NestedKey} (hk : nkT k = some l) {kvs : List (PV × PV)} {xs : List (NestedKey × Addr × Value)} (r : NRs K H μ kvs xs) : (atKey xs l).isSome = (kvs.any fun x => decide (x.1 = k)) := by
  unfold NRs at r
  induction r with
  | nil => rfl
  | @cons p x ps xs h t ih =>
    rw [List.any_cons]
    by_cases e : p.1 = k
    · have e' : x.1 = l := by rw [nk_dec h.1 hk]; exact e
      rw [atKey_pos e', decide_eq_true e]; rfl
    · have e' : ¬ x.1 = l := by rw [nk_dec h.1 hk]; exact e
      rw [atKey_neg e', decide_eq_false e, ih]; rfl
theorem LRs.put {k p : PV} {l : Leaf} {v : V} {r : Value} (hk : lfOf k = some l) (rp : VR K H μ p v) (rv : RelV v r) {kvs : List (PV × PV)} {xs : List (Leaf × Value)} (h : LRs K H μ kvs xs) : LRs K H μ (putP kvs k p) (stored xs l r) := by
  unfold putP stored
  rw [h.any hk]
  split
  · next hsome =>
    clear hsome
    unfold LRs at h ⊢
    induction h with
    | nil => exact .nil
    | @cons q x qs xs h t ih =>
      rw [List.map_cons, List.map_cons]
      refine .cons ?_ ih
      simp only [lf_dec h.1 hk]
      by_cases e : q.1 = k
      · rw [if_pos e, if_pos e]; exact ⟨h.1, v, rp, rv⟩
      · rw [if_neg e, if_neg e]; exact h
  · exact Paired.snoc h ⟨hk, v, rp, rv⟩
theorem NRs.put {k p : PV} {l : NestedKey} {b : Addr} {v : V} {r : Value} (hk : nkT k = some l) (rk : VR K H μ k (.ref b)) (rp : VR K H μ p v) (rv : RelV v r) {kvs : List (PV × PV)} {xs : List (NestedKey × Addr × Value)} (h : NRs K H μ kvs xs) :
    NRs K H μ (putP kvs k p) (storedH xs l b r) := by
  unfold putP storedH
  rw [h.any hk]
  split
  · next hsome =>
    clear hsome
    unfold NRs at h ⊢
    induction h with
    | nil => exact .nil
    | @cons q x qs xs h t ih =>
      rw [List.map_cons, List.map_cons]
      refine .cons ?_ ih
      unfold putAt
      simp only [nk_dec h.1 hk]
      by_cases e : q.1 = k
      · rw [if_pos e, if_pos e]; exact ⟨h.1, h.2.1, v, rp, rv⟩
      · rw [if_neg e, if_neg e]; exact h
  · exact Paired.snoc h ⟨hk, rk, v, rp, rv⟩
theorem putP_len (kvs : List (PV × PV)) (k v : PV) : (putP kvs k v).length ≤ kvs.length + 1 := by
  unfold putP
  split
  · rw [List.length_map]; omega
  · rw [List.length_append]; simp
theorem stored_nodup {κ : Type} [DecidableEq κ] {xs : List (κ × Value)} {l : κ} {r : Value} (h : (xs.map (·.1)).Nodup) : ((stored xs l r).map (·.1)).Nodup := by
  unfold stored
  split
  · have e : (xs.map fun kv => if kv.1 = l then (kv.1, r) else kv).map (·.1) = xs.map (·.1) := by
      rw [List.map_map]; apply List.map_congr_left; intro x _; simp only [Function.comp]; split <;> rfl
    rw [e]; exact h
  · next q =>
    rw [List.map_append, List.nodup_append]
    refine ⟨h, by simp, fun a ha b hb => ?_⟩
    simp at hb
    subst hb
    rintro rfl
    apply q
    obtain ⟨x, hx, rfl⟩ := List.mem_map.mp ha
    exact List.any_eq_true.mpr ⟨x, hx, by simp⟩
theorem storedH_nodup {κ : Type} [DecidableEq κ] {xs : List (κ × Addr × Value)} {l : κ} {b : Addr} {r : Value} (h : (xs.map (·.1)).Nodup) : ((storedH xs l b r).map (·.1)).Nodup := by
  unfold storedH
  split
  · have e : (xs.map (putAt l r)).map (·.1) = xs.map (·.1) := by
      rw [List.map_map]; apply List.map_congr_left; intro x _; simp only [Function.comp, putAt]; split <;> rfl
    rw [e]; exact h
  · next q =>
    rw [List.map_append, List.nodup_append]
    refine ⟨h, by simp, fun a ha c hc => ?_⟩
    simp at hc
    subst hc
    rintro rfl
    apply q
    obtain ⟨x, hx, rfl⟩ := List.mem_map.mp ha
    unfold atKey
    rw [Option.isSome_map]
    exact List.find?_isSome.mpr ⟨x, hx, by simp⟩
end
section
variable {X : Cx} {pins : List (Addr × Obj)} {σ : L2.St} {H : Hp} {s : Shared} {μ : Mu}
mutual
theorem nk_is (I : Inv X pins σ H s) : ∀ (p : PV) (k : NestedKey) (v : V) (u : Value), nkOf p = some k → VR X.K H μ p v → RelV v u → NestedIs s.heap k u
  | .non, k, v, u, h, r, q => by
    cases (show some NestedKey.none = some k by rw [← h]; rfl)
    cases (show v = V.non from r)
    cases (show u = Value.none from q)
    exact .none
  | .int i, k, v, u, h, r, q => by
    cases (show some (NestedKey.num i) = some k by rw [← h]; rfl)
    cases (show v = V.int i from r)
    obtain ⟨t, rfl⟩ := (show ∃ t, u = Value.int i t from q)
    exact .int i t
  | .str x, k, v, u, h, r, q => by
    cases (show some (NestedKey.text ⟨x.toArray⟩) = some k by rw [← h]; rfl)
    cases (show v = V.str ⟨x.toArray⟩ from r)
    obtain ⟨t, rfl⟩ := (show ∃ t, u = Value.str ⟨x.toArray⟩ t from q)
    exact .text _ t
  | .tup xs, k, v, u, h, r, q => by
    obtain ⟨ks, e1, rfl⟩ := nkOf_tup h
    obtain ⟨a, vs, rfl, t, rs⟩ := (show ∃ a vs, v = .ref a ∧ TupAt X.K H μ a vs ∧ VRs X.K H μ xs vs from r)
    cases (show u = Value.ref a from q)
    obtain ⟨its, r', ⟨o, ho, hc, n, hd⟩, _⟩ := I.tuple t.sq
    exact .tup ho hc hd (by simpa using nks_is I xs ks vs its e1 rs r')
  | .bl _, _, _, _, h, _, _ => by cases h
  | .ty _, _, _, _, h, _, _ => by cases h
  | .gl _, _, _, _, h, _, _ => by cases h
  | .lst _, _, _, _, h, _, _ => by cases h
  | .frz _, _, _, _, h, _, _ => by cases h
  | .loc _, _, _, _, h, _, _ => by cases h
  | .xt _, _, _, _, h, _, _ => by cases h
theorem nks_is (I : Inv X pins σ H s) : ∀ (ps : List PV) (ks : List NestedKey) (vs : List V) (us : List Value), nksOf ps = some ks → VRs X.K H μ ps vs → Vals vs us → NestedAll s.heap ks us
  | [], ks, vs, us, h, r, q => by
    cases (show some ([] : List NestedKey) = some ks by rw [← h]; rfl)
    cases (show vs = [] from r)
    cases q
    exact .nil
  | p :: ps, ks, vs, us, h, r, q => by
    obtain ⟨k, t, e1, e2, rfl⟩ := nksOf_cons h
    obtain ⟨v, vs', rfl, r1, r2⟩ := (show ∃ v r, vs = v :: r ∧ VR X.K H μ p v ∧ VRs X.K H μ ps r from r)
    cases q with
    | cons q1 q2 => exact .cons (nk_is I p k v _ e1 r1 q1) (nks_is I ps t vs' _ e2 r2 q2)
end
end
noncomputable def NK (K : PySem.W.Frag) (H : Hp) (k : NestedKey) (b : Addr) : Prop := ∃ μ p, nkT p = some k ∧ VR K H μ p (.ref b)
theorem NK.is {X : Cx} {pins : List (Addr × Obj)} {σ : L2.St} {H : Hp} {s : Shared} (I : Inv X pins σ H s) {k : NestedKey} {b : Addr} (h : NK X.K H k b) : (nestedKind X.prog X.w).is s.heap k b := by
  obtain ⟨μ, p, h1, h2⟩ := h
  obtain ⟨h3, h4⟩ := nkT_of h1
  exact ⟨nk_is I p k _ _ h3 h2 rfl, h4⟩
noncomputable def NAt (w : World) (H : Hp) (a : Addr) (xs : List (NestedKey × Addr × Value)) : Prop := H a = some (nestD w a xs) ∨ ∃ od, H a = some (.frz od (nestD w a xs))
noncomputable def GGet (K : KW) (H : Hp) (a : Addr) (y : V) (o : Option V) : Prop :=
  (∃ xs k, H a = some (leafD K.w a xs) ∧ (a == sysModules) = false ∧ (xs.map (·.1)).Nodup ∧ (∀ u, RelV y u → Leaf.isOf k u = true) ∧ RelO o (valueAt xs k)) ∨
  (∃ xs k b, NAt K.w H a xs ∧ (a == sysModules) = false ∧ (xs.map (·.1)).Nodup ∧ (∀ x ∈ xs, NK K H x.1 x.2.1) ∧ y = .ref b ∧ NK K H k b ∧ RelO o ((atKey xs k).map (·.2)))
noncomputable def GPut (K : KW) (H : Hp) (a : Addr) (y v : V) (Q : Hp → Prop) : Prop :=
  (∃ xs k, H a = some (leafD K.w a xs) ∧ (a == sysModules) = false ∧ (xs.map (·.1)).Nodup ∧ xs.length ≤ sizeLine ∧ (∀ u, RelV y u → Leaf.isOf k u = true) ∧ ∀ r, RelV v r → Q (upd H a (leafD K.w a (stored xs k r)))) ∨
  (∃ xs k b, H a = some (nestD K.w a xs) ∧ (a == sysModules) = false ∧ (xs.map (·.1)).Nodup ∧ xs.length ≤ sizeLine ∧ (∀ x ∈ xs, NK K H x.1 x.2.1) ∧ y = .ref b ∧ NK K H k b ∧ ∀ r, RelV v r → Q (upd H a (nestD K.w a (storedH xs k b r))))
section
variable {X : Cx} {pins : List (Addr × Obj)} {σ : L2.St} {H : Hp} {s : Shared} {a : Addr} {A : Around} {E : Value → Shared → Prop} {y v : V} {o : Option V} {u r : Value}
theorem leaf_rd {xs : List (Leaf × Value)} (I : Inv X pins σ H s) (e : H a = some (leafD X.w a xs)) (nd : (xs.map (·.1)).Nodup) : s.heap.DictOf (leafKind X.prog X.w) a xs := by
  obtain ⟨⟨o, es, ep, h1, h2, h3, h4⟩, h5, h6⟩ := (show ObjOk X.prog X.w H s.heap a (leafD X.w a xs) from I.hok a _ e)
  refine ⟨o, es, ep, h1, h2, h3, ?_, ?_, nd⟩
  · intro z hz
    have hz' : z ∈ es.toList := by simpa using hz
    clear h3 nd e h6 h5
    generalize es.toList = l at h4 hz'
    induction h4 with
    | nil => cases hz'
    | @cons e x es' xs' q t ih =>
      rcases List.mem_cons.mp hz' with rfl | hz'
      · exact ⟨x.1, q.1, q.2.1⟩
      · exact ih hz'
  · clear h3 nd e h6 h5
    generalize es.toList = l at h4
    induction h4 with
    | nil => exact .nil
    | cons q t ih => exact .cons q.1 q.2.2 ih
theorem nest_rd {xs : List (NestedKey × Addr × Value)} (I : Inv X pins σ H s) (e : NAt X.w H a xs) (nd : (xs.map (·.1)).Nodup) (hk : ∀ x ∈ xs, NK X.K H x.1 x.2.1) : s.heap.DictOfH (nestedKind X.prog X.w) a xs := by
  have e' : ObjOk X.prog X.w H s.heap a (nestD X.w a xs) := by
    rcases e with e | ⟨od, e⟩
    · exact I.hok a _ e
    · exact (I.hok a _ e).2
  obtain ⟨⟨o, es, ep, h1, h2, h3, h4⟩, _, _⟩ := e'
  exact ⟨o, es, ep, h1, h2, h3, h4, fun x hx => (hk x hx).is I, nd⟩
theorem leafD_stay {w : World} {xs : List (Leaf × Value)} : ∀ h1 h2 : Heap, (∃ o es ep, h1.get? a = some o ∧ o.ExactDict ∧ o.data = .dict es ep ∧ Paired (entL w) es.toList xs) → (∀ o, h1.get? a = some o → h2.get? a = some o) → (∃ o es ep, h2.get? a = some o ∧ o.ExactDict ∧ o.data = .dict es ep ∧ Paired (entL w) es.toList xs) :=
  fun h1 h2 ⟨o, es, ep, q1, q2⟩ k => ⟨o, es, ep, k o q1, q2⟩
theorem nestD_stay {w : World} {xs : List (NestedKey × Addr × Value)} : ∀ h1 h2 : Heap, (∃ o es ep, h1.get? a = some o ∧ o.ExactDict ∧ o.data = .dict es ep ∧ es.toList = xs.map (entN w)) → (∀ o, h1.get? a = some o → h2.get? a = some o) → (∃ o es ep, h2.get? a = some o ∧ o.ExactDict ∧ o.data = .dict es ep ∧ es.toList = xs.map (entN w)) :=
  fun h1 h2 ⟨o, es, ep, q1, q2⟩ k => ⟨o, es, ep, k o q1, q2⟩
theorem leaf_ok {P : Program} {w : World} {H' : Hp} {h' : Heap} {xs : List (Leaf × Value)} (dd : h'.DictOf (leafKind P w) a xs) : ObjOk P w H' h' a (leafD w a xs) := by
  obtain ⟨o, es, ep, h1, h2, h3, h4, h5, nd⟩ := dd
  refine ⟨⟨o, es, ep, h1, h2, h3, ?_⟩, ⟨o, h1⟩, leafD_stay⟩
  have h4' : ∀ e ∈ es.toList, ∃ k, (leafKind P w).is k e.key = true ∧ e.hash = (leafKind P w).hash k := fun e he => h4 e (by simpa using he)
  clear h3 h4 nd
  generalize es.toList = l at h4' h5
  induction h5 with
  | nil => exact .nil
  | @cons e kv es' kvs' q1 q2 t ih =>
    refine .cons ⟨q1, ?_, q2⟩ (ih fun z hz => h4' z (List.mem_cons_of_mem _ hz))
    obtain ⟨k, e1, e2⟩ := h4' e List.mem_cons_self
    rw [e2, (leafKind P w).inj _ _ _ q1 e1]
    rfl
theorem nest_ok {P : Program} {w : World} {H' : Hp} {h' : Heap} {xs : List (NestedKey × Addr × Value)} (dd : h'.DictOfH (nestedKind P w) a xs) : ObjOk P w H' h' a (nestD w a xs) := by
  obtain ⟨o, es, ep, h1, h2, h3, h4, _, _⟩ := dd
  exact ⟨⟨o, es, ep, h1, h2, h3, h4⟩, ⟨o, h1⟩, nestD_stay⟩
theorem room1 (hu : A.units + 64 < cLine) : (nestedKind X.prog X.w).room A.in1 := by
  show A.units + 1 + 8 < cLine
  omega
theorem g_getItem {Q : Value → Shared → Prop} (hu : A.units + 64 < cLine) (I : Inv X pins σ H s) (g : GGet (kw X) H a y (some v)) (ry : RelV y u) (h : ∀ w' s', Inv X pins σ H s' → RelV v w' → Q w' s') :
    wpAny (model X.prog X.w) A (getItem (.ref a) u) Q E s := by
  rcases g with ⟨xs, k, e, hs, nd, hk, ro⟩ | ⟨xs, k, b, e, hs, nd, hks, rfl, hb, ro⟩
  · have dd := leaf_rd I e nd
    obtain ⟨w', hw, rw'⟩ := RelO.some_of (v := v) (o := valueAt xs k) ro
    exact wpAny_getItem_of (hk u ry) dd.mapOf hw (h w' _ (I.tok _) rw')
  · cases (show u = Value.ref b from ry)
    have dd := nest_rd I e nd hks
    obtain ⟨w', hw, rw'⟩ := RelO.some_of (v := v) (o := (atKey xs k).map (·.2)) ro
    obtain ⟨p, hp, hp2⟩ := Option.map_eq_some_iff.mp hw
    refine wpAny_getItem_heap (room1 hu) (hb.is I) dd hp ?_
    rw [hp2]
    exact h w' _ (I.tok _) rw'
theorem g_in {Q : Value → Shared → Prop} (hu : A.units + 64 < cLine) (I : Inv X pins σ H s) (g : GGet (kw X) H a y o) (ry : RelV y u) (h : ∀ s', Inv X pins σ H s' → Q (.bool o.isSome) s') :
    wpAny (model X.prog X.w) A (compareOp .In u (.ref a)) Q E s := by
  rcases g with ⟨xs, k, e, hs, nd, hk, ro⟩ | ⟨xs, k, b, e, hs, nd, hks, rfl, hb, ro⟩
  · refine wpAny_in_of (hk u ry) hs (leaf_rd I e nd).mapOf ?_
    rw [← ro.isSome_eq]
    exact h _ (I.tok _)
  · cases (show u = Value.ref b from ry)
    refine wpAny_in_heap (room1 hu) (hb.is I) hs (nest_rd I e nd hks) ?_
    have q := ro.isSome_eq
    rw [Option.isSome_map] at q
    rw [← q]
    exact h _ (I.tok _)
theorem g_notIn {Q : Value → Shared → Prop} (hu : A.units + 64 < cLine) (I : Inv X pins σ H s) (g : GGet (kw X) H a y o) (ry : RelV y u) (h : ∀ s', Inv X pins σ H s' → Q (.bool (!o.isSome)) s') :
    wpAny (model X.prog X.w) A (compareOp .NotIn u (.ref a)) Q E s := by
  rcases g with ⟨xs, k, e, hs, nd, hk, ro⟩ | ⟨xs, k, b, e, hs, nd, hks, rfl, hb, ro⟩
  · refine wpAny_notIn_of (hk u ry) hs (leaf_rd I e nd).mapOf ?_
    rw [← ro.isSome_eq]
    exact h _ (I.tok _)
  · cases (show u = Value.ref b from ry)
    refine PyProof.Rows.wpAny_notIn_heap (room1 hu) (hb.is I) hs (nest_rd I e nd hks) ?_
    have q := ro.isSome_eq
    rw [Option.isSome_map] at q
    rw [← q]
    exact h _ (I.tok _)
theorem g_typeIs (I : Inv X pins σ H s) (g : GGet (kw X) H a y o) : s.TypeIs (.ref a) "dict" := by
  rcases g with ⟨xs, k, e, hs, nd, hk, ro⟩ | ⟨xs, k, b, e, hs, nd, hks, rfl, hb, ro⟩
  · exact (leaf_rd I e nd).typeIs
  · exact (nest_rd I e nd hks).typeIs
theorem g_setItem {Q : Unit → Shared → Prop} {QH : Hp → Prop} (hu : A.units + 64 < cLine) (I : Inv X pins σ H s) (g : GPut (kw X) H a y v QH) (ry : RelV y u) (rv : RelV v r) (h : ∀ H' s', Inv X pins σ H' s' → QH H' → Q () s') :
    wpAny (model X.prog X.w) A (setItem (.ref a) u r) Q E s := by
  rcases g with ⟨xs, k, e, hs, nd, hz, hk, q⟩ | ⟨xs, k, b, e, hs, nd, hz, hks, rfl, hb, q⟩
  · refine wpAny_setItem_pairs (hsz := hz) (hk u ry) (leaf_rd I e nd) fun h' dd' sb => h _ _ ?_ (q r rv)
    have he : ∃ q, h'.get? a = some q := let ⟨q, _, _, hq, _⟩ := dd'; ⟨q, hq⟩
    exact d_write I (by rw [e]; exact True.intro) sb he (leaf_ok dd')
  · cases (show u = Value.ref b from ry)
    refine wpAny_setItem_heap (hsz := hz) (room1 hu) (hb.is I) (nest_rd I (.inl e) nd hks) fun h' dd' sb => h _ _ ?_ (q r rv)
    have he : ∃ q, h'.get? a = some q := let ⟨q, _, _, hq, _⟩ := dd'; ⟨q, hq⟩
    exact d_write I (by rw [e]; exact True.intro) sb he (nest_ok dd')
end
section
variable {K : KW} {H : Hp} {μ : Mu} {a : Addr} {kvs : List (PV × PV)} {k p : PV} {y v : V}
theorem lf_V {l : Leaf} (h : lfOf k = some l) (r : VR K H μ k y) : ∀ u, RelV y u → Leaf.isOf l u = true := by
  intro u q
  cases k with
  | non => cases h; cases (show y = V.non from r); cases (show u = Value.none from q); rfl
  | int i =>
    cases h; cases (show y = V.int i from r)
    obtain ⟨t, rfl⟩ := (show ∃ t, u = Value.int i t from q)
    simp [Leaf.isOf]
  | str x =>
    cases h; cases (show y = V.str ⟨x.toArray⟩ from r)
    obtain ⟨t, rfl⟩ := (show ∃ t, u = Value.str ⟨x.toArray⟩ t from q)
    simp [Leaf.isOf, Value.isStrOf]
  | _ => cases h
theorem nk_ref {l : NestedKey} (h : nkT k = some l) (r : VR K H μ k y) : ∃ b, y = .ref b := by
  cases k with
  | tup xs => obtain ⟨b, vs, e, _⟩ := (show ∃ a vs, y = .ref a ∧ TupAt K H μ a vs ∧ VRs K H μ xs vs from r); exact ⟨b, e⟩
  | _ => cases h
theorem NRs.nk {xs : List (NestedKey × Addr × Value)} (r : NRs K H μ kvs xs) : ∀ x ∈ xs, NK K H x.1 x.2.1 := by
  unfold NRs at r
  induction r with
  | nil => intro x h; cases h
  | @cons p x ps xs h t ih =>
    intro z hz
    rcases List.mem_cons.mp hz with rfl | hz
    · exact ⟨μ, p.1, h.1, h.2.1⟩
    · exact ih z hz
theorem CR.getL (c : CR K H μ a (.dcl kvs)) {l : Leaf} (hk : lfOf k = some l) (rk : VR K H μ k y) :
    ∃ o, GGet K H a y o ∧ (∀ p, lookP kvs k = some p → ∃ v, o = some v ∧ VR K H μ p v) ∧ (lookP kvs k = none → o = none) := by
  obtain ⟨xs, e, hs, hz, r, nd⟩ := c
  obtain ⟨o, ro, h1, h2⟩ := r.look hk
  exact ⟨o, .inl ⟨xs, l, e, hs, nd, lf_V hk rk, ro⟩, h1, h2⟩
theorem CR.getN (c : CR K H μ a (.dcn kvs)) {l : NestedKey} (hk : nkT k = some l) (rk : VR K H μ k y) :
    ∃ o, GGet K H a y o ∧ (∀ p, lookP kvs k = some p → ∃ v, o = some v ∧ VR K H μ p v) ∧ (lookP kvs k = none → o = none) := by
  obtain ⟨xs, e, hs, hz, r, nd⟩ := c
  obtain ⟨o, ro, h1, h2⟩ := r.look hk
  obtain ⟨b, rfl⟩ := nk_ref hk rk
  exact ⟨o, .inr ⟨xs, l, b, .inl e, hs, nd, r.nk, rfl, ⟨μ, k, hk, rk⟩, ro⟩, h1, h2⟩
theorem KRs.look_key : ∀ {kvs : List (PV × PV)} {kv : List (Key × V)}, KRs K H μ kvs kv → (lookP kvs k).isSome = true → (keyOf k).isSome = true
  | [], _, _, h => by cases h
  | q :: r, kv, h, hs => by
    obtain ⟨k', v, t, _, hk, _, h2⟩ := h
    unfold lookP at hs
    by_cases e : q.1 = k
    · rw [← e, hk]; rfl
    · rw [if_neg e] at hs
      exact KRs.look_key h2 hs
theorem CR.getK (c : CR K H μ a (.lck kvs)) {l : NestedKey} (hk : nkT k = some l) (rk : VR K H μ k y) (hl : (lookP kvs k).isSome = true) :
    ∃ o, GGet K H a y o ∧ (∀ p, lookP kvs k = some p → ∃ v, o = some v ∧ VR K H μ p v) ∧ (lookP kvs k = none → o = none) := by
  obtain ⟨od, u, e, r⟩ := c
  rcases r with ⟨kv, e', r⟩ | ⟨xs, e', hs, hz, r, nd⟩
  · have := KRs.look_key r hl
    cases k with
    | tup xs => cases this
    | _ => cases hk
  · subst e'
    obtain ⟨o, ro, h1, h2⟩ := r.look hk
    obtain ⟨b, rfl⟩ := nk_ref hk rk
    exact ⟨o, .inr ⟨xs, l, b, .inr ⟨od, e⟩, hs, nd, r.nk, rfl, ⟨μ, k, hk, rk⟩, ro⟩, h1, h2⟩
theorem CR.putL {Q : Hp → Prop} {n : Nat} (c : CR K H μ a (.dcl kvs)) (ha : μ.l[n]? = some a) {l : Leaf} (hk : lfOf k = some l) (hz : kvs.length < sizeLine) (rk : VR K H μ k y) (rv : VR K H μ p v) (h : ∀ o, CR K (upd H a o) μ a (.dcl (putP kvs k p)) → Q (upd H a o)) : GPut K H a y v Q := by
  obtain ⟨xs, e, hs, hz', r, nd⟩ := c
  have hl : xs.length = kvs.length := (Paired.length r).symm
  have hz2 := putP_len kvs k p
  exact .inl ⟨xs, l, e, hs, nd, by omega, lf_V hk rk, fun rr q => h _ ⟨_, upd_same, hs, by omega, (r.put hk rv q).mono (gv_put ha), stored_nodup nd⟩⟩
theorem CR.putN {Q : Hp → Prop} {n : Nat} (c : CR K H μ a (.dcn kvs)) (ha : μ.l[n]? = some a) {l : NestedKey} (hk : nkT k = some l) (hz : kvs.length < sizeLine) (rk : VR K H μ k y) (rv : VR K H μ p v) (h : ∀ o, CR K (upd H a o) μ a (.dcn (putP kvs k p)) → Q (upd H a o)) : GPut K H a y v Q := by
  obtain ⟨xs, e, hs, hz', r, nd⟩ := c
  have hl : xs.length = kvs.length := (Paired.length r).symm
  have hz2 := putP_len kvs k p
  obtain ⟨b, rfl⟩ := nk_ref hk rk
  exact .inr ⟨xs, l, b, e, hs, nd, by omega, r.nk, rfl, ⟨μ, k, hk, rk⟩, fun rr q => h _ ⟨_, upd_same, hs, by omega, (r.put hk rk rv q).mono (gv_put ha), storedH_nodup nd⟩⟩
end
end MP

set_option maxRecDepth 100000
set_option maxHeartbeats 1000000
namespace MP
open PySem L2
mutual
theorem eqb_eqv : ∀ (x y : PV) (d e : PyData), toD x = some d → toD y = some e → PyData.eqv d e = eqb x y
  | .non, y, d, e, h1, h2 => by
    cases h1
    cases y <;> simp [toD] at h2 <;> (try (obtain ⟨z, _, rfl⟩ := h2)) <;> (try subst h2) <;> simp [PyData.eqv, eqb]
  | .bl a, y, d, e, h1, h2 => by
    cases h1
    cases y <;> simp [toD] at h2 <;> (try (obtain ⟨z, _, rfl⟩ := h2)) <;> (try subst h2) <;> simp [PyData.eqv, eqb]
  | .int a, y, d, e, h1, h2 => by
    cases h1
    cases y <;> simp [toD] at h2 <;> (try (obtain ⟨z, _, rfl⟩ := h2)) <;> (try subst h2) <;> simp [PyData.eqv, eqb]
  | .str a, y, d, e, h1, h2 => by
    cases h1
    cases y <;> simp [toD] at h2 <;> (try (obtain ⟨z, _, rfl⟩ := h2)) <;> (try subst h2) <;> simp [PyData.eqv, eqb]
    rw [Bool.eq_iff_iff]
    simp
  | .tup xs, y, d, e, h1, h2 => by
    simp [toD] at h1
    obtain ⟨ds, q, rfl⟩ := h1
    cases y <;> simp [toD] at h2 <;> (try (obtain ⟨z, qz, rfl⟩ := h2)) <;> (try subst h2) <;> simp [PyData.eqv, eqb]
    exact eqbs_eqv xs _ ds z q qz
  | .lst xs, y, d, e, h1, h2 => by
    simp [toD] at h1
    obtain ⟨ds, q, rfl⟩ := h1
    cases y <;> simp [toD] at h2 <;> (try (obtain ⟨z, qz, rfl⟩ := h2)) <;> (try subst h2) <;> simp [PyData.eqv, eqb]
    exact eqbs_eqv xs _ ds z q qz
  | .ty _, _, _, _, h1, _ => by cases h1
  | .gl _, _, _, _, h1, _ => by cases h1
  | .frz _, _, _, _, h1, _ => by cases h1
  | .loc _, _, _, _, h1, _ => by cases h1
  | .xt _, _, _, _, h1, _ => by cases h1
theorem eqbs_eqv : ∀ (xs ys : List PV) (ds es : List PyData), toDs xs = some ds → toDs ys = some es → PyData.eqvAll ds es = eqbs xs ys
  | [], ys, ds, es, h1, h2 => by
    cases h1
    cases ys with
    | nil => cases h2; simp [PyData.eqvAll, eqbs]
    | cons y ys =>
      unfold toDs at h2
      cases q1 : toD y with
      | none => rw [q1] at h2; cases h2
      | some d =>
        cases q2 : toDs ys with
        | none => rw [q1, q2] at h2; cases h2
        | some r => rw [q1, q2] at h2; cases h2; simp [PyData.eqvAll, eqbs]
  | x :: xs, ys, ds, es, h1, h2 => by
    unfold toDs at h1
    cases p1 : toD x with
    | none => rw [p1] at h1; cases h1
    | some d =>
      cases p2 : toDs xs with
      | none => rw [p1, p2] at h1; cases h1
      | some r =>
        rw [p1, p2] at h1
        cases h1
        cases ys with
        | nil => cases h2; simp [PyData.eqvAll, eqbs]
        | cons y ys =>
          unfold toDs at h2
          cases q1 : toD y with
          | none => rw [q1] at h2; cases h2
          | some d' =>
            cases q2 : toDs ys with
            | none => rw [q1, q2] at h2; cases h2
            | some r' =>
              rw [q1, q2] at h2
              cases h2
              simp [PyData.eqvAll, eqbs, eqb_eqv x y d d' p1 q1, eqbs_eqv xs ys r r' p2 q2]
end
section
variable {K : PySem.W.Frag} {H : Hp} {μ : Mu}
mutual
theorem dp_of : ∀ (x : PV) (v : V) (d : PyData), VR K H μ x v → toD x = some d → Dp K H v d
  | .non, v, d, r, h => by cases h; cases (show v = .non from r); exact .non
  | .bl b, v, d, r, h => by cases h; cases (show v = .bl b from r); exact .bl b
  | .int b, v, d, r, h => by cases h; cases (show v = .int b from r); exact .int b
  | .str b, v, d, r, h => by cases h; cases (show v = .str ⟨b.toArray⟩ from r); exact .str _
  | .tup xs, v, d, r, h => by
    obtain ⟨a, vs, rfl, t, rs⟩ := tup_at r
    simp [toD] at h
    obtain ⟨ds, q, rfl⟩ := h
    exact .tup t.sq (dps_of xs vs ds rs q)
  | .lst xs, v, d, r, h => by
    obtain ⟨a, vs, rfl, t, rs⟩ := lst_at r
    simp [toD] at h
    obtain ⟨ds, q, rfl⟩ := h
    exact .lst t.sq (dps_of xs vs ds rs q)
  | .ty _, _, _, _, h => by cases h
  | .gl _, _, _, _, h => by cases h
  | .frz _, _, _, _, h => by cases h
  | .loc _, _, _, _, h => by cases h
  | .xt _, _, _, _, h => by cases h
theorem dps_of : ∀ (xs : List PV) (vs : List V) (ds : List PyData), VRs K H μ xs vs → toDs xs = some ds → DpAll K H vs ds
  | [], vs, ds, r, h => by cases h; cases (show vs = [] from r); exact .nil
  | x :: xs, vs, ds, r, h => by
    obtain ⟨v, t, rfl, r1, r2⟩ := (show ∃ v t, vs = v :: t ∧ VR K H μ x v ∧ VRs K H μ xs t from r)
    unfold toDs at h
    cases p1 : toD x with
    | none => rw [p1] at h; cases h
    | some d =>
      cases p2 : toDs xs with
      | none => rw [p1, p2] at h; cases h
      | some ds' =>
        rw [p1, p2] at h
        cases h
        exact .cons (dp_of x v d r1 p1) (dps_of xs t ds' r2 p2)
end
end
mutual
noncomputable def layP : PV → Bool
  | .non => true
  | .bl _ => true
  | .int _ => true
  | .str x => x.all fun c => decide (c < 1114112)
  | .tup xs => layPs xs
  | .lst xs => layPs xs
  | _ => false
noncomputable def layPs : List PV → Bool
  | [] => true
  | x :: xs => layP x && layPs xs
end
mutual
noncomputable def depP : PV → Nat
  | .tup xs => depPs xs + 1
  | .lst xs => depPs xs + 1
  | _ => 0
noncomputable def depPs : List PV → Nat
  | [] => 0
  | x :: xs => max (depP x) (depPs xs)
end
mutual
theorem lay_toD : ∀ (x : PV), layP x = true → ∃ d, toD x = some d ∧ d.canLay0 = true ∧ d.depth = depP x
  | .non, _ => ⟨_, rfl, by simp [PyData.canLay0], by simp [PyData.depth, depP]⟩
  | .bl b, _ => ⟨_, rfl, by simp [PyData.canLay0], by simp [PyData.depth, depP]⟩
  | .int b, _ => ⟨_, rfl, by simp [PyData.canLay0], by simp [PyData.depth, depP]⟩
  | .str x, h => ⟨_, rfl, by
      simp only [PyData.canLay0, PyData.strOk]
      simp [layP] at h
      simpa using h, by simp [PyData.depth, depP]⟩
  | .tup xs, h => by
    obtain ⟨ds, e, c, p⟩ := lays_toD xs (by simpa [layP] using h)
    exact ⟨.tuple ds, by simp [toD, e], by simpa [PyData.canLay0] using c, by simp [PyData.depth, depP, p]⟩
  | .lst xs, h => by
    obtain ⟨ds, e, c, p⟩ := lays_toD xs (by simpa [layP] using h)
    exact ⟨.list ds, by simp [toD, e], by simpa [PyData.canLay0] using c, by simp [PyData.depth, depP, p]⟩
  | .ty _, h => by simp [layP] at h
  | .gl _, h => by simp [layP] at h
  | .frz _, h => by simp [layP] at h
  | .loc _, h => by simp [layP] at h
  | .xt _, h => by simp [layP] at h
theorem lays_toD : ∀ (xs : List PV), layPs xs = true → ∃ ds, toDs xs = some ds ∧ PyData.canLayAll0 ds = true ∧ PyData.depthAll ds = depPs xs
  | [], _ => ⟨[], rfl, by simp [PyData.canLayAll0], by simp [PyData.depthAll, depPs]⟩
  | x :: xs, h => by
    have h' : layP x = true ∧ layPs xs = true := by simpa [layPs] using h
    obtain ⟨d, e, c, p⟩ := lay_toD x h'.1
    obtain ⟨ds, e2, c2, p2⟩ := lays_toD xs h'.2
    exact ⟨d :: ds, by simp [toDs, e, e2], by simp [PyData.canLayAll0, c, c2], by simp [PyData.depthAll, depPs, p, p2]⟩
end
noncomputable def shal (x : PV) (st : Sto) : PV := match x with
  | .frz xs => .lst xs
  | .loc n => match st[n]? with
    | some (.lst xs) => .lst xs
    | _ => .loc n
  | _ => x
noncomputable def scalP : PV → PV → Bool
  | .non, .non => true | .non, .int _ => true | .int _, .non => true | .non, .bl _ => true | .bl _, .non => true | .non, .str _ => true | .str _, .non => true
  | .int _, .int _ => true | .bl _, .bl _ => true | .str _, .str _ => true
  | .int _, .str _ => true | .str _, .int _ => true | .bl _, .str _ => true | .str _, .bl _ => true
  | _, _ => false
noncomputable def cmpOk (x y : PV) (st : Sto) : Bool := scalP x y || (layP (shal x st) && layP (shal y st) && decide (depP (shal x st) ≤ 64) && decide (depP (shal y st) ≤ 64))
noncomputable def lenNe (x y : PV) (st : Sto) : Bool := match shal x st, shal y st with
  | .lst a, .lst b => decide (a.length ≠ b.length)
  | _, _ => false
noncomputable def eqM (x y : PV) : M PV := fun st => if cmpOk x y st = true then .ok (.bl (eqb (shal x st) (shal y st))) st else if lenNe x y st = true then .ok (.bl false) st else .bad
noncomputable def neM (x y : PV) : M PV := fun st => if cmpOk x y st = true then .ok (.bl (!eqb (shal x st) (shal y st))) st else if lenNe x y st = true then .ok (.bl true) st else .bad
theorem shal_lst {K : KW} {H : Hp} {μ : Mu} {st : Sto} {x : PV} {v : V} {xs : List PV} (sr : SR K μ st H) (r : VR K H μ x v) (h : shal x st = .lst xs) : ∃ a vs, v = .ref a ∧ SqL K H a vs ∧ VRs K H μ xs vs := by
  cases x with
  | lst ys =>
    cases h
    obtain ⟨a, vs, e, l, rs⟩ := lst_at r
    exact ⟨a, vs, e, l.sq, rs⟩
  | frz ys =>
    cases h
    obtain ⟨a, vs, e, l, rs⟩ := frz_at r
    exact ⟨a, vs, e, l.sq, rs⟩
  | loc n =>
    obtain ⟨a, e, ha⟩ := loc_at r
    unfold shal at h
    dsimp only at h
    cases q : st[n]? with
    | none => rw [q] at h; cases h
    | some c =>
      rw [q] at h
      cases c with
      | lst ys =>
        cases h
        obtain ⟨vs, h1, h2⟩ := sr.cell n _ a q ha
        exact ⟨a, vs, e, SqL.of h1, h2⟩
      | dct kvs => cases h
      | ins C fs => cases h
      | dcl kvs => cases h
      | dcn kvs => cases h
      | lck kvs => cases h
  | _ => cases h
theorem dp_shal {K : KW} {H : Hp} {μ : Mu} {st : Sto} {x : PV} {v : V} {d : PyData} (sr : SR K μ st H) (r : VR K H μ x v) (h : toD (shal x st) = some d) : Dp K H v d := by
  cases x with
  | frz xs =>
    obtain ⟨a, vs, rfl, t, rs⟩ := frz_at r
    have h' : toD (.lst xs) = some d := h
    simp [toD] at h'
    obtain ⟨ds, q, rfl⟩ := h'
    exact .lst t.sq (dps_of xs vs ds rs q)
  | loc n =>
    obtain ⟨a, rfl, ha⟩ := loc_at r
    unfold shal at h
    dsimp only at h
    cases q : st[n]? with
    | none => rw [q] at h; cases h
    | some c =>
      rw [q] at h
      cases c with
      | lst xs =>
        obtain ⟨vs, h1, h2⟩ := sr.cell n _ a q ha
        have h' : toD (.lst xs) = some d := h
        simp [toD] at h'
        obtain ⟨ds, q, rfl⟩ := h'
        exact .lst (SqL.of h1) (dps_of xs vs ds h2 q)
      | dct kvs => cases h
      | ins C fs => cases h
      | dcl kvs => cases h
      | dcn kvs => cases h
      | lck kvs => cases h
  | non => exact dp_of _ _ _ r h
  | bl b => exact dp_of _ _ _ r h
  | int b => exact dp_of _ _ _ r h
  | str b => exact dp_of _ _ _ r h
  | tup b => exact dp_of _ _ _ r h
  | lst b => exact dp_of _ _ _ r h
  | ty b => cases h
  | gl b => cases h
  | xt b => cases h
theorem scal_eq {K : PySem.W.Frag} {H : Hp} {μ : Mu} {st : Sto} {x y : PV} {u v : V} (rx : VR K H μ x u) (ry : VR K H μ y v) (h : scalP x y = true) : scal u v = true ∧ decide (u = v) = eqb (shal x st) (shal y st) := by
  cases x <;> cases y <;> simp [scalP] at h <;> cases rx <;> cases ry <;> simp [scal, eqb, shal] <;> (rw [Bool.eq_iff_iff]; simp)
noncomputable def rEqM0 (K : PySem.W.Frag) (n : Bool) : R2 := fun x y H Q => (scal x y = true ∧ Q (.bl (if n then !decide (x = y) else decide (x = y))) H) ∨ ∃ d e, Dp K H x d ∧ Dp K H y e ∧ (SeqAt.shaped d = true ∧ SeqAt.shaped e = true ∧ Q (.bl (if n then !PyData.eqv d e else PyData.eqv d e)) H)
noncomputable def rEqN (K : PySem.W.Frag) (n : Bool) : R2 := fun x y H Q => ∃ a b xs ys, x = .ref a ∧ y = .ref b ∧ SqL K H a xs ∧ SqL K H b ys ∧ xs.length ≠ ys.length ∧ Q (.bl n) H
noncomputable def rEqM (K : PySem.W.Frag) (n : Bool) : R2 := fun x y H Q => rEqM0 K n x y H Q ∨ rEqN K n x y H Q
theorem op_eqN {X : Cx} (hu : X.A.units + 64 < cLine) : OpR X (compareOp .Eq) (rEqN X.K false) := by
  intro pins s σ H x y v u Q I rx ry h
  obtain ⟨a, b, xs, ys, rfl, rfl, hx, hy, hne, q⟩ := h
  cases rx
  cases ry
  obtain ⟨its, r1, p1, _⟩ := I.list hx
  obtain ⟨its2, r2, p2, _⟩ := I.list hy
  exact SeqAt.RcAt.lists_lengths p1.isList p2.isList (by have e1 := r1.length; have e2 := r2.length; simp; omega) (by omega) X.prog X.w X.xe _ ⟨.bl false, H, I, rfl, q⟩
theorem op_neN {X : Cx} (hu : X.A.units + 64 < cLine) : OpR X (compareOp .NotEq) (rEqN X.K true) := by
  intro pins s σ H x y v u Q I rx ry h
  obtain ⟨a, b, xs, ys, rfl, rfl, hx, hy, hne, q⟩ := h
  cases rx
  cases ry
  obtain ⟨its, r1, p1, _⟩ := I.list hx
  obtain ⟨its2, r2, p2, _⟩ := I.list hy
  exact SeqAt.RcNeAt.lists_lengths p1.isList p2.isList (by have e1 := r1.length; have e2 := r2.length; simp; omega) (by omega) X.prog X.w X.xe _ ⟨.bl true, H, I, rfl, q⟩
theorem op_eqM {X : Cx} (hu : X.A.units + 64 < cLine) : OpR X (compareOp .Eq) (rEqM X.K false) := (op_eq.or (op_eqD hu)).or (op_eqN hu)
theorem op_neM {X : Cx} (hu : X.A.units + 64 < cLine) : OpR X (compareOp .NotEq) (rEqM X.K true) := (op_ne.or (op_neD hu)).or (op_neN hu)
theorem t_eqn {K : KW} {n : Bool} : T2 K (rEqM K n) (fun x y st => if cmpOk x y st = true then .ok (.bl (if n then !eqb (shal x st) (shal y st) else eqb (shal x st) (shal y st))) st else if lenNe x y st = true then .ok (.bl n) st else .bad) := by
  intro μ st H x y u v E Q sr rx ry h
  dsimp only at h
  by_cases hc : cmpOk x y st = true
  · rw [if_pos hc] at h
    have q := post_same (v := .bl (if n then !eqb (shal x st) (shal y st) else eqb (shal x st) (shal y st))) h sr rfl
    unfold cmpOk at hc
    rw [Bool.or_eq_true] at hc
    rcases hc with hc | hc
    · obtain ⟨h1, h2⟩ := scal_eq (st := st) rx ry hc
      exact .inl (.inl ⟨h1, by rw [h2]; exact q⟩)
    · simp only [Bool.and_eq_true, decide_eq_true_eq] at hc
      obtain ⟨⟨⟨l1, l2⟩, d1⟩, d2⟩ := hc
      obtain ⟨d, e1, c1, p1⟩ := lay_toD _ l1
      obtain ⟨e, e2, c2, p2⟩ := lay_toD _ l2
      refine .inl (.inr ⟨d, e, dp_shal sr rx e1, dp_shal sr ry e2, ?_, ?_, ?_⟩)
      · unfold SeqAt.shaped
        rw [c1, p1]
        simpa using d1
      · unfold SeqAt.shaped
        rw [c2, p2]
        simpa using d2
      · rw [eqb_eqv _ _ d e e1 e2]
        exact q
  · rw [if_neg hc] at h
    by_cases hl : lenNe x y st = true
    · rw [if_pos hl] at h
      unfold lenNe at hl
      split at hl
      · rename_i xs ys e1 e2
        obtain ⟨a, vs, rfl, l1, r1⟩ := shal_lst sr rx e1
        obtain ⟨b, ws, rfl, l2, r2⟩ := shal_lst sr ry e2
        refine .inr ⟨a, b, vs, ws, rfl, rfl, l1, l2, ?_, post_same h sr rfl⟩
        rw [← VRs.length r1, ← VRs.length r2]
        exact of_decide_eq_true hl
      · cases hl
    · rw [if_neg hl] at h
      exact h.elim
theorem t_eq {K : KW} : T2 K (rEqM K false) eqM := t_eqn (n := false)
theorem t_ne {K : KW} : T2 K (rEqM K true) neM := t_eqn (n := true)
noncomputable def nonP : PV → Bool
  | .non => true
  | _ => false
noncomputable def isN (x y : PV) : M PV := match y with
  | .non => M.ret (.bl (nonP x))
  | .bl b => match x with
    | .bl a => M.ret (.bl (decide (a = b)))
    | _ => M.fail
  | _ => M.fail
noncomputable def notN (x y : PV) : M PV := match y with
  | .non => M.ret (.bl (!nonP x))
  | .bl b => match x with
    | .bl a => M.ret (.bl (!decide (a = b)))
    | _ => M.fail
  | _ => M.fail
theorem non_dec {K : PySem.W.Frag} {H : Hp} {μ : Mu} {x : PV} {v : V} (r : VR K H μ x v) : decide (v = .non) = nonP x := by
  cases x with
  | non => cases (show v = .non from r); rfl
  | bl b => cases (show v = .bl b from r); rfl
  | int b => cases (show v = .int b from r); rfl
  | str b => cases (show v = .str ⟨b.toArray⟩ from r); rfl
  | ty b => cases (show v = .ty b from r); rfl
  | gl b => cases (show v = .ref b from r); rfl
  | tup b => obtain ⟨a, vs, rfl, _⟩ := tup_at r; rfl
  | lst b => obtain ⟨a, vs, rfl, _⟩ := lst_at r; rfl
  | frz b => obtain ⟨a, vs, rfl, _⟩ := frz_at r; rfl
  | loc b => obtain ⟨a, rfl, _⟩ := loc_at r; rfl
  | xt b => obtain ⟨a, vs, rfl, _⟩ := xt_at r; rfl
theorem t_isN {K : KW} : T2 K (fun x y H Q => (y = .non ∧ Q (.bl (decide (x = .non))) H) ∨ ∃ a b, x = .bl a ∧ y = .bl b ∧ Q (.bl (decide (a = b))) H) isN := by
  intro μ st H x y u v E Q sr rx ry h
  unfold isN at h
  cases y with
  | non => exact .inl ⟨ry, by rw [non_dec rx]; exact post_same h sr rfl⟩
  | bl b =>
    cases x with
    | bl a => exact .inr ⟨a, b, rx, ry, post_same h sr rfl⟩
    | _ => exact h.elim
  | _ => exact h.elim
section
variable {K : PySem.W.Frag} {H : Hp} {μ : Mu}
theorem key_dec {p k : PV} {p' k' : Key} (h : keyOf p = some p') (hk : keyOf k = some k') : (p' = k') = (p = k) := by
  refine propext ⟨fun e => ?_, fun e => ?_⟩
  · rw [← e] at hk
    exact keyOf_inj h hk
  · rw [e, hk] at h
    exact (Option.some.inj h).symm
theorem KRs.look {k : PV} {k' : Key} (hk : keyOf k = some k') : ∀ {kvs : List (PV × PV)} {kv : List (Key × V)}, KRs K H μ kvs kv → (∀ p, lookP kvs k = some p → ∃ v, valV kv k' = some v ∧ VR K H μ p v) ∧ (lookP kvs k = none → valV kv k' = none)
  | [], kv, h => by
    have e : kv = [] := h
    subst e
    exact ⟨fun p q => (nomatch q), fun _ => rfl⟩
  | p :: r, kv, h => by
    obtain ⟨k1, v, t, rfl, e1, rv, rt⟩ := h
    unfold lookP
    by_cases e : p.1 = k
    · have e' : k1 = k' := by rw [key_dec e1 hk]; exact e
      rw [if_pos e, valV_pos (p := (k1, v)) e']
      exact ⟨fun q hq => by cases hq; exact ⟨v, rfl, rv⟩, fun hq => (nomatch hq)⟩
    · have e' : ¬ k1 = k' := by rw [key_dec e1 hk]; exact e
      rw [if_neg e, valV_neg (p := (k1, v)) e']
      exact KRs.look hk rt
theorem KRs.any {k : PV} {k' : Key} (hk : keyOf k = some k') : ∀ {kvs : List (PV × PV)} {kv : List (Key × V)}, KRs K H μ kvs kv → (kv.any fun x => decide (x.1 = k')) = (kvs.any fun x => decide (x.1 = k))
  | [], kv, h => by have e : kv = [] := h; subst e; rfl
  | p :: r, kv, h => by
    obtain ⟨k1, v, t, rfl, e1, rv, rt⟩ := h
    rw [List.any_cons, List.any_cons, KRs.any hk rt]
    simp only [key_dec e1 hk]
theorem KRs.length : ∀ {kvs : List (PV × PV)} {kv : List (Key × V)}, KRs K H μ kvs kv → kvs.length = kv.length
  | [], kv, h => by have e : kv = [] := h; subst e; rfl
  | p :: r, kv, h => by
    obtain ⟨k1, v, t, rfl, e1, rv, rt⟩ := h
    rw [List.length_cons, List.length_cons, KRs.length rt]
theorem KRs.mapPut {k p : PV} {k' : Key} {v : V} (hk : keyOf k = some k') (r : VR K H μ p v) : ∀ {kvs : List (PV × PV)} {kv : List (Key × V)}, KRs K H μ kvs kv →
    KRs K H μ (kvs.map fun x => if x.1 = k then (x.1, p) else x) (kv.map fun x => if x.1 = k' then (x.1, v) else x)
  | [], kv, h => by have e : kv = [] := h; subst e; exact rfl
  | q :: t, kv, h => by
    obtain ⟨k1, w, t', rfl, e1, rv, rt⟩ := h
    rw [List.map_cons, List.map_cons]
    simp only [key_dec e1 hk]
    by_cases e : q.1 = k
    · rw [if_pos e, if_pos e]
      exact ⟨k1, v, _, rfl, e1, r, KRs.mapPut hk r rt⟩
    · rw [if_neg e, if_neg e]
      exact ⟨k1, w, _, rfl, e1, rv, KRs.mapPut hk r rt⟩
theorem KRs.snoc {k p : PV} {k' : Key} {v : V} (hk : keyOf k = some k') (r : VR K H μ p v) : ∀ {kvs : List (PV × PV)} {kv : List (Key × V)}, KRs K H μ kvs kv → KRs K H μ (kvs ++ [(k, p)]) (kv ++ [(k', v)])
  | [], kv, h => by have e : kv = [] := h; subst e; exact ⟨k', v, [], rfl, hk, r, rfl⟩
  | q :: t, kv, h => by
    obtain ⟨k1, w, t', rfl, e1, rv, rt⟩ := h
    exact ⟨k1, w, _, rfl, e1, rv, KRs.snoc hk r rt⟩
theorem KRs.put {k p : PV} {k' : Key} {v : V} {kvs : List (PV × PV)} {kv : List (Key × V)} (h : KRs K H μ kvs kv) (hk : keyOf k = some k') (r : VR K H μ p v) : KRs K H μ (putP kvs k p) (putK kv k' v) := by
  unfold putP putK
  rw [KRs.any hk h]
  split
  · exact KRs.mapPut hk r h
  · exact KRs.snoc hk r h
theorem keyOf_kV {k : PV} {k' : Key} {v : V} (hk : keyOf k = some k') (r : VR K H μ k v) : v = kV k' := by
  cases k with
  | int i => cases hk; exact r
  | str x => cases hk; exact r
  | _ => cases hk
end
noncomputable def flatP : PV → Bool
  | .non => true
  | .bl _ => true
  | .int _ => true
  | .str _ => true
  | _ => false
noncomputable def ng (n b : Bool) : Bool := if n then !b else b
noncomputable def inM (n : Bool) (x y : PV) : M PV := fun st => match y with
  | .str z => match x with
    | .str [c] => .ok (.bl (ng n (decide (c ∈ z)))) st
    | _ => .bad
  | y => match seqOf y st with
    | some xs => if (flatP x && xs.all flatP) = true then .ok (.bl (ng n (xs.any fun p => eqb p x))) st else .bad
    | none => match y with
      | .loc m => match st[m]? with
        | some (.dct kvs) => if (keyOf x).isSome = true then .ok (.bl (ng n (lookP kvs x).isSome)) st else .bad
        | some (.dcl kvs) => if (lfOf x).isSome = true then .ok (.bl (ng n (lookP kvs x).isSome)) st else .bad
        | some (.dcn kvs) => if (nkT x).isSome = true then .ok (.bl (ng n (lookP kvs x).isSome)) st else .bad
        | _ => .bad
      | _ => .bad
theorem flat_eq {K : PySem.W.Frag} {H : Hp} {μ : Mu} {x y : PV} {u v : V} (rx : VR K H μ x u) (ry : VR K H μ y v) (fx : flatP x = true) (fy : flatP y = true) : flatV u = true ∧ flatV v = true ∧ L2.eqV u v = eqb x y := by
  cases x <;> simp [flatP] at fx <;> cases y <;> simp [flatP] at fy <;> cases rx <;> cases ry <;> simp [flatV, L2.eqV, eqb]
  rw [Bool.eq_iff_iff]
  simp
theorem flat_any {K : PySem.W.Frag} {H : Hp} {μ : Mu} {x : PV} {u : V} (rx : VR K H μ x u) (fx : flatP x = true) : ∀ {ps : List PV} {vs : List V}, VRs K H μ ps vs → ps.all flatP = true → vs.all flatV = true ∧ L2.inV u vs = ps.any fun p => eqb p x
  | [], vs, h, _ => by have e : vs = [] := h; subst e; exact ⟨rfl, rfl⟩
  | p :: ps, vs, h, hf => by
    obtain ⟨v, t, rfl, r1, r2⟩ := (show ∃ v t, vs = v :: t ∧ VR K H μ p v ∧ VRs K H μ ps t from h)
    rw [List.all_cons, Bool.and_eq_true] at hf
    obtain ⟨f1, f2, f3⟩ := flat_eq r1 rx hf.1 fx
    obtain ⟨g1, g2⟩ := flat_any rx fx r2 hf.2
    refine ⟨by rw [List.all_cons, f1, g1]; rfl, ?_⟩
    show (L2.eqV v u || L2.inV u t) = (eqb p x || ps.any fun q => eqb q x)
    rw [f3, g2]
noncomputable def rInM (K : KW) (n : Bool) : R2 := fun x y H Q => (∃ (c : Nat) (z : Str), x = .str ⟨#[c]⟩ ∧ y = .str z ∧ Q (.bl (ng n (decide (c ∈ z.cps.toList)))) H) ∨ rIn K n x y H Q ∨ (∃ a o, y = .ref a ∧ DGet H a x o ∧ Q (.bl (ng n o.isSome)) H) ∨ ∃ a o, y = .ref a ∧ GGet K H a x o ∧ Q (.bl (ng n o.isSome)) H
theorem op_inD {X : Cx} (hu : X.A.units + 1 < cLine) : OpR X (compareOp .In) (fun x y H Q => ∃ a o, y = .ref a ∧ DGet H a x o ∧ Q (.bl (ng false o.isSome)) H) := by
  intro pins s σ H x y v u Q I rx ry h
  obtain ⟨a, o, rfl, g, q⟩ := h
  cases (show u = Value.ref a from ry)
  exact d_in hu I g rx fun s3 I3 => ⟨.bl o.isSome, H, I3, rfl, q⟩
theorem op_notInD {X : Cx} (hu : X.A.units + 1 < cLine) : OpR X (compareOp .NotIn) (fun x y H Q => ∃ a o, y = .ref a ∧ DGet H a x o ∧ Q (.bl (ng true o.isSome)) H) := by
  intro pins s σ H x y v u Q I rx ry h
  obtain ⟨a, o, rfl, g, q⟩ := h
  cases (show u = Value.ref a from ry)
  exact d_notIn hu I g rx fun s3 I3 => ⟨.bl (!o.isSome), H, I3, rfl, q⟩
theorem op_inG {X : Cx} (hu : X.A.units + 64 < cLine) : OpR X (compareOp .In) (fun x y H Q => ∃ a o, y = .ref a ∧ GGet (kw X) H a x o ∧ Q (.bl (ng false o.isSome)) H) := by
  intro pins s σ H x y v u Q I rx ry h
  obtain ⟨a, o, rfl, g, q⟩ := h
  cases (show u = Value.ref a from ry)
  exact g_in hu I g rx fun s3 I3 => ⟨.bl o.isSome, H, I3, rfl, q⟩
theorem op_notInG {X : Cx} (hu : X.A.units + 64 < cLine) : OpR X (compareOp .NotIn) (fun x y H Q => ∃ a o, y = .ref a ∧ GGet (kw X) H a x o ∧ Q (.bl (ng true o.isSome)) H) := by
  intro pins s σ H x y v u Q I rx ry h
  obtain ⟨a, o, rfl, g, q⟩ := h
  cases (show u = Value.ref a from ry)
  exact g_notIn hu I g rx fun s3 I3 => ⟨.bl (!o.isSome), H, I3, rfl, q⟩
theorem op_inM {X : Cx} (hu : X.A.units + 64 < cLine) : OpR X (compareOp .In) (rInM (kw X) false) := op_in_sign.or (op_in_seq.or ((op_inD (by omega)).or (op_inG hu)))
theorem op_notInM {X : Cx} (hu : X.A.units + 64 < cLine) : OpR X (compareOp .NotIn) (rInM (kw X) true) := op_notIn_sign.or (op_notIn_seq.or ((op_notInD (by omega)).or (op_notInG hu)))
theorem t_in {K : KW} {n : Bool} : T2 K (rInM K n) (inM n) := by
  intro μ st H x y u v E Q sr rx ry h
  have seqC : ∀ xs, seqOf y st = some xs → PostG K E (VR K) Q μ H (if (flatP x && xs.all flatP) = true then .ok (.bl (ng n (xs.any fun p => eqb p x))) st else .bad) → rInM K n u v H Q := by
    intro xs hs h
    by_cases hf : (flatP x && xs.all flatP) = true
    · rw [if_pos hf] at h
      rw [Bool.and_eq_true] at hf
      obtain ⟨a, vs, rfl, hq, rs⟩ := seqOf_at sr ry hs
      obtain ⟨g1, g2⟩ := flat_any rx hf.1 rs hf.2
      obtain ⟨f1, _, _⟩ := flat_eq rx rx hf.1 hf.1
      refine .inr (.inl ⟨a, vs, rfl, hq, f1, g1, ?_⟩)
      rw [g2]
      exact post_same h sr rfl
    · rw [if_neg hf] at h
      exact h.elim
  cases y with
  | str z =>
    cases (show v = V.str ⟨z.toArray⟩ from ry)
    cases x with
    | str c =>
      cases c with
      | nil => exact h.elim
      | cons c r =>
        cases r with
        | nil =>
          cases (show u = V.str ⟨[c].toArray⟩ from rx)
          refine .inl ⟨c, ⟨z.toArray⟩, rfl, rfl, ?_⟩
          have q := post_same (v := V.bl (ng n (decide (c ∈ z)))) h sr rfl
          simpa using q
        | cons c' r => exact h.elim
    | _ => exact h.elim
  | lst xs => exact seqC xs rfl h
  | frz xs => exact seqC xs rfl h
  | tup xs => exact seqC xs rfl h
  | loc m =>
    unfold inM at h
    dsimp only at h
    cases hs : seqOf (.loc m) st with
    | some xs => rw [hs] at h; exact seqC xs hs h
    | none =>
      rw [hs] at h
      dsimp only at h
      cases q : st[m]? with
      | none => rw [q] at h; exact h.elim
      | some c =>
        rw [q] at h
        cases c with
        | dct kvs =>
          dsimp only at h
          by_cases hk : (keyOf x).isSome = true
          · rw [if_pos hk] at h
            obtain ⟨k', ek⟩ := Option.isSome_iff_exists.mp hk
            obtain ⟨a, rfl, ha⟩ := loc_at ry
            obtain ⟨kv, h1, h2⟩ := sr.cell m _ a q ha
            refine .inr (.inr (.inl ⟨a, valV kv k', rfl, ?_, ?_⟩))
            · rw [keyOf_kV ek rx]
              exact DGet.k h1
            · obtain ⟨l1, l2⟩ := KRs.look ek h2
              have e : (valV kv k').isSome = (lookP kvs x).isSome := by
                cases hl : lookP kvs x with
                | none => rw [l2 hl]; rfl
                | some p => obtain ⟨w, ew, _⟩ := l1 p hl; rw [ew]; rfl
              rw [e]
              exact post_same h sr rfl
          · rw [if_neg hk] at h
            exact h.elim
        | lst xs => exact h.elim
        | ins C fs => exact h.elim
        | dcl kvs =>
          dsimp only at h
          by_cases hk : (lfOf x).isSome = true
          · rw [if_pos hk] at h
            obtain ⟨k', ek⟩ := Option.isSome_iff_exists.mp hk
            obtain ⟨a, rfl, ha⟩ := loc_at ry
            obtain ⟨o, g, l1, l2⟩ := (sr.cell m _ a q ha).getL ek rx
            refine .inr (.inr (.inr ⟨a, o, rfl, g, ?_⟩))
            have e : o.isSome = (lookP kvs x).isSome := by
              cases hl : lookP kvs x with
              | none => rw [l2 hl]; rfl
              | some p => obtain ⟨w, ew, _⟩ := l1 p hl; rw [ew]; rfl
            rw [e]
            exact post_same h sr rfl
          · rw [if_neg hk] at h
            exact h.elim
        | dcn kvs =>
          dsimp only at h
          by_cases hk : (nkT x).isSome = true
          · rw [if_pos hk] at h
            obtain ⟨k', ek⟩ := Option.isSome_iff_exists.mp hk
            obtain ⟨a, rfl, ha⟩ := loc_at ry
            obtain ⟨o, g, l1, l2⟩ := (sr.cell m _ a q ha).getN ek rx
            refine .inr (.inr (.inr ⟨a, o, rfl, g, ?_⟩))
            have e : o.isSome = (lookP kvs x).isSome := by
              cases hl : lookP kvs x with
              | none => rw [l2 hl]; rfl
              | some p => obtain ⟨w, ew, _⟩ := l1 p hl; rw [ew]; rfl
            rw [e]
            exact post_same h sr rfl
          · rw [if_neg hk] at h
            exact h.elim
        | lck kvs => exact h.elim
  | _ => exact h.elim
section
variable {X : Cx} {W : WX} {a b : Expr} {pos : Pos} {ma mb : Rho → M PV}
theorem me_eq (hu : X.A.units + 64 < cLine) (ha : ME X W a ma) (hb : ME X W b mb) : ME X W (.Compare a [.Eq] [b] pos) (eBin eqM ma mb) := me_cmp (op_eqM hu) t_eq ha hb (nomark _)
theorem me_in (hu : X.A.units + 64 < cLine) (ha : ME X W a ma) (hb : ME X W b mb) (hm : behindInMarks .In b = false) : ME X W (.Compare a [.In] [b] pos) (eBin (inM false) ma mb) := me_cmp (op_inM hu) t_in ha hb hm
theorem mt_lt (ha : ME X W a ma) (hb : ME X W b mb) : MT X W (.Compare a [.Lt] [b] pos) (eB (eBin ltI ma mb)) := mt_cmp op_lt (t_cmpI _) ha hb (nomark _)
theorem mt_le (ha : ME X W a ma) (hb : ME X W b mb) : MT X W (.Compare a [.LtE] [b] pos) (eB (eBin leI ma mb)) := mt_cmp op_le (t_cmpI _) ha hb (nomark _)
theorem mt_gt (ha : ME X W a ma) (hb : ME X W b mb) : MT X W (.Compare a [.Gt] [b] pos) (eB (eBin gtI ma mb)) := mt_cmp op_gt (t_cmpI _) ha hb (nomark _)
theorem mt_eq (hu : X.A.units + 64 < cLine) (ha : ME X W a ma) (hb : ME X W b mb) : MT X W (.Compare a [.Eq] [b] pos) (eB (eBin eqM ma mb)) := mt_cmp (op_eqM hu) t_eq ha hb (nomark _)
theorem mt_ne (hu : X.A.units + 64 < cLine) (ha : ME X W a ma) (hb : ME X W b mb) : MT X W (.Compare a [.NotEq] [b] pos) (eB (eBin neM ma mb)) := mt_cmp (op_neM hu) t_ne ha hb (nomark _)
theorem mt_is (ha : ME X W a ma) (hb : ME X W b mb) : MT X W (.Compare a [.Is] [b] pos) (eB (eBin isN ma mb)) := mt_cmp (op_isN.or op_is_bl) t_isN ha hb (nomark _)
theorem mt_in (hu : X.A.units + 64 < cLine) (ha : ME X W a ma) (hb : ME X W b mb) (hm : behindInMarks .In b = false) : MT X W (.Compare a [.In] [b] pos) (eB (eBin (inM false) ma mb)) := mt_cmp (op_inM hu) t_in ha hb hm
theorem mt_notin (hu : X.A.units + 64 < cLine) (ha : ME X W a ma) (hb : ME X W b mb) (hm : behindInMarks .NotIn b = false) : MT X W (.Compare a [.NotIn] [b] pos) (eB (eBin (inM true) ma mb)) := mt_cmp (op_notInM hu) t_in ha hb hm
end
end MP

set_option maxRecDepth 100000
set_option maxHeartbeats 1000000
namespace MP
open PySem L2
noncomputable def optM {α : Type} : Option α → M α
  | some a => M.ret a
  | none => M.fail
noncomputable def dctOf (x : PV) (st : Sto) : Option (List (PV × PV)) := match x with
  | .loc n => match st[n]? with
    | some (.dct kvs) => some kvs
    | _ => none
  | _ => none
theorem dctOf_at {K : KW} {H : Hp} {μ : Mu} {st : Sto} {x : PV} {v : V} {kvs : List (PV × PV)} (sr : SR K μ st H) (r : VR K H μ x v) (h : dctOf x st = some kvs) :
    ∃ n a kv, x = .loc n ∧ v = .ref a ∧ μ.l[n]? = some a ∧ st[n]? = some (.dct kvs) ∧ H a = some (.dK kv) ∧ KRs K H μ kvs kv := by
  cases x with
  | loc n =>
    obtain ⟨a, rfl, ha⟩ := loc_at r
    unfold dctOf at h
    dsimp only at h
    cases q : st[n]? with
    | none => rw [q] at h; cases h
    | some c =>
      rw [q] at h
      cases c with
      | dct k =>
        cases h
        obtain ⟨kv, h1, h2⟩ := sr.cell n _ a q ha
        exact ⟨n, a, kv, rfl, rfl, ha, q, h1, h2⟩
      | lst xs => cases h
      | ins C fs => cases h
      | dcl kvs => cases h
      | dcn kvs => cases h
      | lck kvs => cases h
  | _ => cases h
noncomputable def gdOf (x : PV) (y : PV) (st : Sto) : Option (List (PV × PV)) := match x with
  | .loc n => match st[n]? with
    | some (.dcl kvs) => if (lfOf y).isSome = true then some kvs else none
    | some (.dcn kvs) => if (nkT y).isSome = true then some kvs else none
    | some (.lck kvs) => if (nkT y).isSome = true ∧ (lookP kvs y).isSome = true then some kvs else none
    | _ => none
  | _ => none
theorem gdOf_at {K : KW} {H : Hp} {μ : Mu} {st : Sto} {x y : PV} {v u : V} {kvs : List (PV × PV)} (sr : SR K μ st H) (r : VR K H μ x v) (ry : VR K H μ y u) (h : gdOf x y st = some kvs) :
    ∃ a o, v = .ref a ∧ GGet K H a u o ∧ (∀ p, lookP kvs y = some p → ∃ v, o = some v ∧ VR K H μ p v) ∧ (lookP kvs y = none → o = none) := by
  cases x with
  | loc n =>
    obtain ⟨a, rfl, ha⟩ := loc_at r
    unfold gdOf at h
    dsimp only at h
    cases q : st[n]? with
    | none => rw [q] at h; cases h
    | some c =>
      rw [q] at h
      cases c with
      | dct k => cases h
      | lst xs => cases h
      | ins C fs => cases h
      | lck k =>
        dsimp only at h
        by_cases hk : (nkT y).isSome = true ∧ (lookP k y).isSome = true
        · rw [if_pos hk] at h
          cases h
          obtain ⟨k', ek⟩ := Option.isSome_iff_exists.mp hk.1
          obtain ⟨o, g⟩ := (sr.cell n _ a q ha).getK ek ry hk.2
          exact ⟨a, o, rfl, g⟩
        · rw [if_neg hk] at h; cases h
      | dcl k =>
        dsimp only at h
        by_cases hk : (lfOf y).isSome = true
        · rw [if_pos hk] at h
          cases h
          obtain ⟨k', ek⟩ := Option.isSome_iff_exists.mp hk
          obtain ⟨o, g⟩ := (sr.cell n _ a q ha).getL ek ry
          exact ⟨a, o, rfl, g⟩
        · rw [if_neg hk] at h; cases h
      | dcn k =>
        dsimp only at h
        by_cases hk : (nkT y).isSome = true
        · rw [if_pos hk] at h
          cases h
          obtain ⟨k', ek⟩ := Option.isSome_iff_exists.mp hk
          obtain ⟨o, g⟩ := (sr.cell n _ a q ha).getN ek ry
          exact ⟨a, o, rfl, g⟩
        · rw [if_neg hk] at h; cases h
  | _ => cases h
noncomputable def ixM (x y : PV) : M PV := fun st => match seqOf x st with
  | some xs => match y with
    | .int i => optM (L2.atI xs i) st
    | _ => .bad
  | none => match x with
    | .str z => match y with
      | .int i => if z.length ≤ SZ then (match L2.atI z i with | some c => .ok (.str [c]) st | none => .bad) else .bad
      | _ => .bad
    | x => match dctOf x st with
      | some kvs => if (keyOf y).isSome = true then optM (lookP kvs y) st else .bad
      | none => match gdOf x y st with
        | some kvs => optM (lookP kvs y) st
        | none => .bad
noncomputable def rIxM (K : KW) : R2 := fun x y H Q => (rIxL K x y H Q ∨ rIxT K x y H Q ∨ rIxS x y H Q) ∨ (∃ a v, x = .ref a ∧ DGet H a y (some v) ∧ Q v H) ∨ ∃ a v, x = .ref a ∧ GGet K H a y (some v) ∧ Q v H
theorem ix_dictG {X : Cx} (hu : X.A.units + 64 < cLine) : IxR X (fun x y H Q => ∃ a v, x = .ref a ∧ GGet (kw X) H a y (some v) ∧ Q v H) := by
  intro value slice pins s σ H x y v u Q I rx ry h hs
  obtain ⟨a, w, rfl, g, q⟩ := h
  cases (show v = Value.ref a from rx)
  exact PyProof.Rows.tail_any (g_typeIs I g) PySem.F.slot_dict_getitem.lookup (g_getItem hu I g ry fun w' s3 I3 rw' => ⟨w, H, I3, rw', q⟩) hs
theorem ix_dict {X : Cx} (hu : X.A.units + 1 < cLine) : IxR X (fun x y H Q => ∃ a v, x = .ref a ∧ DGet H a y (some v) ∧ Q v H) := by
  intro value slice pins s σ H x y v u Q I rx ry h hs
  obtain ⟨a, w, rfl, g, q⟩ := h
  cases (show v = Value.ref a from rx)
  exact PyProof.Rows.tail_any (dict_typeIs I g) PySem.F.slot_dict_getitem.lookup (d_getItem hu I g ry fun w' s3 I3 rw' => ⟨w, H, I3, rw', q⟩) hs
theorem ix_M {X : Cx} (hu : X.A.units + 64 < cLine) : IxR X (rIxM (kw X)) := ix_seq.or ((ix_dict (by omega)).or (ix_dictG hu))
theorem t_ix {K : KW} : T2 K (rIxM K) ixM := by
  intro μ st H x y u v E Q sr rx ry h
  unfold ixM at h
  cases hs : seqOf x st with
  | some xs =>
    rw [hs] at h
    cases y with
    | int i =>
      cases (show v = V.int i from ry)
      dsimp only at h
      obtain ⟨a, vs, rfl, hq, rs⟩ := seqOf_at sr rx hs
      cases q : L2.atI xs i with
      | none => rw [q] at h; exact h.elim
      | some p =>
        rw [q] at h
        obtain ⟨w, e, rw'⟩ := VRs.atI rs q
        have z := post_same h sr rw'
        rcases hq with hq | hq
        · exact .inl (.inl ⟨a, vs, i, w, rfl, rfl, hq, e, z⟩)
        · exact .inl (.inr (.inl ⟨a, vs, i, w, rfl, rfl, hq, e, z⟩))
    | _ => exact h.elim
  | none =>
    rw [hs] at h
    dsimp only at h
    have dcase : PostG K E (VR K) Q μ H (match dctOf x st with
      | some kvs => if (keyOf y).isSome = true then optM (lookP kvs y) st else .bad
      | none => match gdOf x y st with
        | some kvs => optM (lookP kvs y) st
        | none => .bad) → rIxM K u v H Q := by
      intro h
      cases hd : dctOf x st with
      | none =>
        rw [hd] at h
        dsimp only at h
        cases hg : gdOf x y st with
        | none => rw [hg] at h; exact h.elim
        | some kvs =>
          rw [hg] at h
          dsimp only at h
          obtain ⟨a, o, rfl, g, l1, l2⟩ := gdOf_at sr rx ry hg
          cases q : lookP kvs y with
          | none => rw [q] at h; exact h.elim
          | some p =>
            rw [q] at h
            obtain ⟨w, rfl, rw'⟩ := l1 p q
            exact .inr (.inr ⟨a, w, rfl, g, post_same h sr rw'⟩)
      | some kvs =>
        rw [hd] at h
        dsimp only at h
        by_cases hk : (keyOf y).isSome = true
        · rw [if_pos hk] at h
          obtain ⟨k', ek⟩ := Option.isSome_iff_exists.mp hk
          obtain ⟨n, a, kv, ex, rfl, ha, hc, h1, h2⟩ := dctOf_at sr rx hd
          cases q : lookP kvs y with
          | none => rw [q] at h; exact h.elim
          | some p =>
            rw [q] at h
            obtain ⟨w, e, rw'⟩ := (KRs.look ek h2).1 p q
            refine .inr (.inl ⟨a, w, rfl, ?_, post_same h sr rw'⟩)
            rw [keyOf_kV ek ry, ← e]
            exact DGet.k h1
        · rw [if_neg hk] at h
          exact h.elim
    cases x with
    | str z =>
      cases (show u = V.str ⟨z.toArray⟩ from rx)
      cases y with
      | int i =>
        cases (show v = V.int i from ry)
        dsimp only at h
        by_cases hz : z.length ≤ SZ
        · rw [if_pos hz] at h
          cases q : L2.atI z i with
          | none => rw [q] at h; exact h.elim
          | some c =>
            rw [q] at h
            refine .inl (.inr (.inr ⟨⟨z.toArray⟩, i, c, rfl, rfl, by rw [str_len, sz_eq]; exact hz, ?_, post_same h sr rfl⟩))
            simpa using q
        · rw [if_neg hz] at h
          exact h.elim
      | _ => exact h.elim
    | _ => exact dcase h
section
variable {X : Cx} {W : WX} {a b : Expr} {pos : Pos} {ma mb : Rho → M PV}
theorem me_sub_ix (hu : X.A.units + 64 < cLine) (ha : ME X W a ma) (hb : ME X W b mb) (hs : PlainIx b) : ME X W (.Subscript a b pos) (eBin ixM ma mb) := me_ix (ix_M hu) t_ix ha hb hs
end
noncomputable def cutL {α : Type} (xs : List α) (lo hi : Option Int) : List α := (xs.drop (HT.sIx xs.length 0 lo)).take (HT.sIx xs.length xs.length hi - HT.sIx xs.length 0 lo)
theorem VRs.cut {K : PySem.W.Frag} {H : Hp} {μ : Mu} {ps : List PV} {vs : List V} (r : VRs K H μ ps vs) (lo hi : Option Int) : VRs K H μ (cutL ps lo hi) (cutV vs lo hi) := by
  unfold cutL cutV
  rw [VRs.length r]
  exact VRs.take _ (VRs.drop _ r)
noncomputable def slM (x : PV) (lo hi : Option Int) : M PV := match x with
  | .str z => if z.length ≤ SZ then M.ret (.str (cutL z lo hi)) else M.fail
  | .tup xs => M.ret (.tup (cutL xs lo hi))
  | x => fun st => match seqOf x st with
    | some xs => .ok (.lst (cutL xs lo hi)) st
    | none => .bad
noncomputable def oNone : Rho → M (Option Int) := fun _ => M.ret none
noncomputable def asI : PV → M Int
  | .int i => M.ret i
  | _ => M.fail
noncomputable def oSome (m : Rho → M PV) : Rho → M (Option Int) := fun ρ => M.bind (m ρ) fun x => M.bind (asI x) fun i => M.ret (some i)
noncomputable def tMO (K : KW) (W : WX) (m : Rho → M (Option Int)) : TO := fun σ H Q => ∃ μ st ρ, ER K H μ ρ σ ∧ SR K μ st H ∧ PostG K (fun c d H' => W c d σ H') (fun _ _ (a : Option Int) b => a = b) Q μ H (m ρ st)
noncomputable def MO (X : Cx) (W : WX) (e : Option Expr) (m : Rho → M (Option Int)) : Prop := PO X e (tMO (kw X) W m)
theorem PO.imp {X : Cx} {e : Option Expr} {t t' : TO} (h : PO X e t) (i : ∀ σ H Q, t' σ H Q → t σ H Q) : PO X e t' := ⟨fun pins s σ H Q I q => h.run pins s σ H Q I (i σ H Q q)⟩
noncomputable def eSl (f : PV → Option Int → Option Int → M PV) (me : Rho → M PV) (ml mh : Rho → M (Option Int)) : Rho → M PV := fun ρ => M.bind (me ρ) fun x => M.bind (ml ρ) fun l => M.bind (mh ρ) fun h => f x l h
noncomputable def rSlM (K : PySem.W.Frag) : V → Option Int → Option Int → Hp → VK → Prop := fun x lo hi H Q => rSlS x lo hi H Q ∨ rSlA K x lo hi H Q ∨ rSlL K x lo hi H Q
section
variable {X : Cx} {W : WX} {e : Expr} {lo hi : Option Expr} {pos p2 : Pos} {me : Rho → M PV} {ml mh : Rho → M (Option Int)}
theorem mo_none : MO X W none oNone := PO.imp po_none fun σ H Q ⟨μ, st, ρ, er, sr, h⟩ => h μ H none (Gr.refl _ _) sr rfl
theorem mo_some (he : ME X W e me) : MO X W (some e) (oSome me) := PO.imp (po_some he) fun σ H Q ⟨μ, st, ρ, er, sr, h⟩ => ⟨μ, st, ρ, er, sr, (PostG.bind h).mono fun u H1 ⟨μ1, st1, x, g1, s1, rx, h1⟩ => by
  cases x with
  | int i => exact ⟨i, rx, h1 μ1 H1 _ (Gr.refl _ _) s1 rfl⟩
  | _ => exact h1.elim⟩
noncomputable def TSl (K : KW) (r : V → Option Int → Option Int → Hp → VK → Prop) (f : PV → Option Int → Option Int → M PV) : Prop :=
  ∀ (μ : Mu) (st : Sto) (H : Hp) (x : PV) (lo hi : Option Int) (u : V) (E : XK) (Q : VK), SR K μ st H → VR K H μ x u → PostG K E (VR K) Q μ H (f x lo hi st) → r u lo hi H Q
theorem me_slG {f : PV → Option Int → Option Int → M PV} (t : TSl (kw X) (rSlM X.K) f) (he : ME X W e me) (hl : MO X W lo ml) (hh : MO X W hi mh) : ME X W (.Subscript e (.Slice lo hi none p2) pos) (eSl f me ml mh) :=
  PE.imp (pe_slice (sl_str.or (sl_tupA.or sl_list)) he hl hh) fun σ H Q ⟨μ, st, ρ, er, sr, h⟩ => ⟨μ, st, ρ, er, sr, (PostG.bind h).mono fun u H1 ⟨μ1, st1, x, g1, s1, rx, h1⟩ =>
    ⟨μ1, st1, ρ, er.mono g1, s1, (PostG.bind h1).mono fun l H2 ⟨μ2, st2, l', g2, s2, el, h2⟩ => ⟨μ2, st2, ρ, (er.mono g1).mono g2, s2, (PostG.bind h2).mono fun k H3 ⟨μ3, st3, k', g3, s3, ek, h3⟩ => by
      subst el ek
      exact t μ3 st3 H3 x l' k' u _ Q s3 (VR.mono g3 x u (VR.mono g2 x u rx)) h3⟩⟩⟩
theorem sl_lists {K : KW} {μ : Mu} {st : Sto} {H : Hp} {x : PV} {lo hi : Option Int} {u : V} {E : XK} {Q : VK} (sr : SR K μ st H) (rx : VR K H μ x u) (nt : ∀ xs, x ≠ .tup xs)
    (h : PostG K E (VR K) Q μ H (match seqOf x st with
    | some xs => .ok (.lst (cutL xs lo hi)) st
    | none => .bad)) : rSlM K u lo hi H Q := by
  cases q : seqOf x st with
  | none => rw [q] at h; exact h.elim
  | some xs =>
    rw [q] at h
    obtain ⟨a, vs, rfl, hq, rs⟩ : ∃ a vs, u = .ref a ∧ SqL K H a vs ∧ VRs K H μ xs vs := by
      cases x with
      | lst xs => cases q; obtain ⟨a, vs, e, l, rs⟩ := lst_at rx; exact ⟨a, vs, e, l.sq, rs⟩
      | frz xs => cases q; obtain ⟨a, vs, e, l, rs⟩ := frz_at rx; exact ⟨a, vs, e, l.sq, rs⟩
      | loc n => obtain ⟨a, vs, e, l, rs⟩ := listOf_at sr rx (show listOf (.loc n) st = some xs from q); exact ⟨a, vs, e, SqL.of l, rs⟩
      | tup xs => exact absurd rfl (nt xs)
      | _ => cases q
    exact .inr (.inr ⟨a, vs, rfl, hq, fun p hp => post_lst sr (VRs.cut rs lo hi) hp h⟩)
theorem t_sl {K : KW} : TSl K (rSlM K) slM := by
  intro μ st H x lo hi u E Q sr rx h
  cases x with
  | str z =>
    cases (show u = V.str ⟨z.toArray⟩ from rx)
    unfold slM at h
    dsimp only at h
    by_cases hz : z.length ≤ SZ
    · rw [if_pos hz] at h
      refine .inl ⟨⟨z.toArray⟩, rfl, by rw [str_len, sz_eq]; exact hz, ?_⟩
      have e : cutS ⟨z.toArray⟩ lo hi = ⟨(cutL z lo hi).toArray⟩ := by
        unfold cutS cutL
        rw [str_len]
      rw [e]
      exact post_same h sr rfl
    · rw [if_neg hz] at h
      exact h.elim
  | tup xs =>
    obtain ⟨a, vs, rfl, t, rs⟩ := tup_at rx
    refine .inr (.inl ⟨a, vs, rfl, t.sq, fun hw => ?_, fun _ p hp => post_tup sr (VRs.cut rs lo hi) hp h⟩)
    have h' : PostG K E (VR K) Q μ H (.ok (.tup (cutL xs lo hi)) st) := h
    have e : cutL xs lo hi = xs := by
      unfold cutL
      rw [VRs.length rs, hw.1, hw.2, List.drop_zero, Nat.sub_zero, ← VRs.length rs]
      simp
    rw [e] at h'
    exact post_same h' sr rx
  | lst xs => exact sl_lists sr rx (fun _ z => nomatch z) h
  | frz xs => exact sl_lists sr rx (fun _ z => nomatch z) h
  | loc n => exact sl_lists sr rx (fun _ z => nomatch z) h
  | _ => exact h.elim
theorem me_slice (he : ME X W e me) (hl : MO X W lo ml) (hh : MO X W hi mh) : ME X W (.Subscript e (.Slice lo hi none p2) pos) (eSl slM me ml mh) := me_slG t_sl he hl hh
end
section
variable {X : Cx} {W : WX} {es : List Expr} {pos : Pos} {ma : Rho → M (List PV)}
noncomputable def mkTup (xs : List PV) : M PV := if xs.length ≤ SZ then M.ret (.tup xs) else M.fail
noncomputable def mkLst (xs : List PV) : M PV := if xs.length ≤ SZ then M.ret (.lst xs) else M.fail
noncomputable def mkLstN (xs : List PV) : M PV := fun st => if xs.length ≤ SZ then .ok (.loc st.length) (st ++ [.lst xs]) else .bad
theorem me_tup {k : Nat} (h : MA X W es ma) : ME X W (.Tuple es k pos) (eCall mkTup ma) :=
  PE.imp (pe_tup h) fun σ H Q ⟨μ, st, ρ, er, sr, h⟩ => ⟨μ, st, ρ, er, sr, (PostG.bind h).mono fun us H1 ⟨μ1, st1, xs, g1, s1, rxs, h1⟩ => by
    unfold mkTup at h1
    by_cases hz : xs.length ≤ SZ
    · rw [if_pos hz] at h1
      exact ⟨by rw [← VRs.length rxs, sz_eq]; exact hz, fun p hp => post_tup s1 rxs hp h1⟩
    · rw [if_neg hz] at h1
      exact h1.elim⟩
theorem me_lst (h : MA X W es ma) : ME X W (.List es pos) (eCall mkLst ma) :=
  PE.imp (pe_lst h) fun σ H Q ⟨μ, st, ρ, er, sr, h⟩ => ⟨μ, st, ρ, er, sr, (PostG.bind h).mono fun us H1 ⟨μ1, st1, xs, g1, s1, rxs, h1⟩ => by
    unfold mkLst at h1
    by_cases hz : xs.length ≤ SZ
    · rw [if_pos hz] at h1
      exact ⟨by rw [← VRs.length rxs, sz_eq]; exact hz, fun p hp => post_lst s1 rxs hp h1⟩
    · rw [if_neg hz] at h1
      exact h1.elim⟩
theorem me_lstN (h : MA X W es ma) : ME X W (.List es pos) (eCall mkLstN ma) :=
  PE.imp (pe_lst h) fun σ H Q ⟨μ, st, ρ, er, sr, h⟩ => ⟨μ, st, ρ, er, sr, (PostG.bind h).mono fun us H1 ⟨μ1, st1, xs, g1, s1, rxs, h1⟩ => by
    unfold mkLstN at h1
    by_cases hz : xs.length ≤ SZ
    · rw [if_pos hz] at h1
      exact ⟨by rw [← VRs.length rxs, sz_eq]; exact hz, fun p hp => post_cell h1 s1 hp ⟨_, upd_same, VRs.mono (gr_alloc hp) _ _ rxs⟩⟩
    · rw [if_neg hz] at h1
      exact h1.elim⟩
noncomputable def eDct0 : Rho → M PV := fun _ st => .ok (.loc st.length) (st ++ [.dct []])
theorem me_dict0 : ME X W (.Dict [] [] pos) eDct0 := PE.imp pe_dnewK fun σ H Q ⟨μ, st, ρ, er, sr, h⟩ p hp => post_cell h sr hp ⟨_, upd_same, rfl⟩
noncomputable def eDcl0 : Rho → M PV := fun _ st => .ok (.loc st.length) (st ++ [.dcl []])
noncomputable def eDcn0 : Rho → M PV := fun _ st => .ok (.loc st.length) (st ++ [.dcn []])
noncomputable def pairsM : List ((Rho → M PV) × (Rho → M PV)) → Rho → M (List (PV × PV))
  | [], _ => M.ret []
  | m :: r, ρ => M.bind (m.1 ρ) fun k => M.bind (m.2 ρ) fun v => M.bind (pairsM r ρ) fun ps => M.ret ((k, v) :: ps)
noncomputable def PRs (K : PySem.W.Frag) (H : Hp) (μ : Mu) : List (PV × PV) → List (V × V) → Prop
  | [], ps => ps = []
  | p :: r, ps => ∃ k v t, ps = (k, v) :: t ∧ VR K H μ p.1 k ∧ VR K H μ p.2 v ∧ PRs K H μ r t
theorem PRs.mono {K : PySem.W.Frag} {H H' : Hp} {μ μ' : Mu} (g : Gr μ H μ' H') : ∀ (ps : List (PV × PV)) (kv : List (V × V)), PRs K H μ ps kv → PRs K H' μ' ps kv
  | [], _, h => h
  | p :: ps, kv, h => by
    obtain ⟨k, v, t, e, hk, h1, h2⟩ := h
    exact ⟨k, v, t, e, VR.mono g _ _ hk, VR.mono g _ _ h1, PRs.mono g ps t h2⟩
theorem pairs_imp {K : KW} {W : WX} {σ : St} {ρ : Rho} : ∀ (ms : List ((Rho → M PV) × (Rho → M PV))) (μ : Mu) (st : Sto) (H : Hp) (Q : List (V × V) → Hp → Prop), ER K H μ ρ σ → SR K μ st H →
    PostG K (fun c d H' => W c d σ H') (PRs K) Q μ H (pairsM ms ρ st) → tPairs (ms.map fun m => (tM K W m.1, tM K W m.2)) σ H Q
  | [], μ, st, H, Q, er, sr, h => h μ H [] (Gr.refl _ _) sr rfl
  | m :: r, μ, st, H, Q, er, sr, h => ⟨μ, st, ρ, er, sr, (PostG.bind h).mono fun u H1 ⟨μ1, st1, x, g1, s1, rx, h1⟩ => ⟨μ1, st1, ρ, er.mono g1, s1, (PostG.bind h1).mono fun w H2 ⟨μ2, st2, y, g2, s2, ry, h2⟩ =>
      pairs_imp r μ2 st2 H2 _ ((er.mono g1).mono g2) s2 ((PostG.bind h2).mono fun ps H3 ⟨μ3, st3, qs, g3, s3, rs, h3⟩ => h3 μ3 H3 _ (Gr.refl _ _) s3 ⟨u, w, ps, rfl, VR.mono g3 x u (VR.mono g2 x u rx), VR.mono g3 y w ry, rs⟩)⟩⟩
noncomputable def mergeP (kvs more : List (PV × PV)) : List (PV × PV) := more.foldl (fun acc kv => putP acc kv.1 kv.2) kvs
noncomputable def keysOk (kvs : List (PV × PV)) : Bool := kvs.all fun kv => (keyOf kv.1).isSome
noncomputable def eDct (ms : List ((Rho → M PV) × (Rho → M PV))) : Rho → M PV := fun ρ => M.bind (pairsM ms ρ) fun ps st => if keysOk ps = true ∧ ps.length ≤ 15 then .ok (.loc st.length) (st ++ [.dct (mergeP [] ps)]) else .bad
noncomputable def MPs (X : Cx) (W : WX) (pos : Pos) (keys : List (Option Expr)) (values : List Expr) (ms : List ((Rho → M PV) × (Rho → M PV))) : Prop := PPs X pos keys values (ms.map fun m => (tM (kw X) W m.1, tM (kw X) W m.2))
theorem mps_nil : MPs X W pos [] [] [] := pps_nil
theorem mps_cons {k v : Expr} {ks : List (Option Expr)} {vs : List Expr} {mk mv : Rho → M PV} {ms : List ((Rho → M PV) × (Rho → M PV))} (hk : ME X W k mk) (hv : ME X W v mv) (hr : MPs X W pos ks vs ms) : MPs X W pos (some k :: ks) (v :: vs) ((mk, mv) :: ms) := pps_cons hk hv hr
theorem PRs.keys {K : PySem.W.Frag} {H : Hp} {μ : Mu} : ∀ {ps : List (PV × PV)} {kv : List (V × V)}, PRs K H μ ps kv → keysOk ps = true → ∃ ks : List (Key × V), kv = ks.map (fun x => (kV x.1, x.2)) ∧ KRs K H μ ps ks
  | [], kv, h, _ => by have e : kv = [] := h; subst e; exact ⟨[], rfl, rfl⟩
  | p :: ps, kv, h, hk => by
    obtain ⟨k, v, t, rfl, h1, h2, h3⟩ := h
    have hk' : (keyOf p.1).isSome = true ∧ keysOk ps = true := by simpa [keysOk] using hk
    obtain ⟨k', ek⟩ := Option.isSome_iff_exists.mp hk'.1
    obtain ⟨ks, e, r⟩ := PRs.keys h3 hk'.2
    exact ⟨(k', v) :: ks, by rw [List.map_cons, ← e, keyOf_kV ek h1], k', v, ks, rfl, ek, h2, r⟩
theorem KRs.merge {K : PySem.W.Frag} {H : Hp} {μ : Mu} : ∀ {ps : List (PV × PV)} {ks : List (Key × V)} {qs : List (PV × PV)} {ls : List (Key × V)}, KRs K H μ ps ks → KRs K H μ qs ls → KRs K H μ (mergeP qs ps) (mergeK ls ks)
  | [], ks, qs, ls, h, r => by have e : ks = [] := h; subst e; exact r
  | p :: ps, ks, qs, ls, h, r => by
    obtain ⟨k, v, t, rfl, ek, h1, h2⟩ := h
    show KRs K H μ (mergeP (putP qs p.1 p.2) ps) (mergeK (putK ls k v) t)
    exact KRs.merge h2 (r.put ek h1)
theorem me_dict {keys : List (Option Expr)} {values : List Expr} {ms : List ((Rho → M PV) × (Rho → M PV))} (h : MPs X W pos keys values ms) (hall : keys.all (·.isSome) = true := by kernel_rfl) (hl : keys.length = values.length := by kernel_rfl) (h0 : keys ≠ [] := by intro z; cases z) (h15 : keys.length ≤ 15 := by decide) : ME X W (.Dict keys values pos) (eDct ms) :=
  PE.imp (pe_disp h hall hl h0 h15) fun σ H Q ⟨μ, st, ρ, er, sr, h⟩ p hp => pairs_imp ms μ st _ _ (er.mono (gr_new hp)) (sr.new hp) ((PostG.bindAt h (gr_new (o := .dK []) hp)).mono fun ps H1 ⟨μ1, st1, qs, g1, s1, rs, h1⟩ => by
    have hp1 : H1 p = some (.dK []) := g1.keep p _ upd_same (fun z => sr.free hp (.inl z))
    have np : p ∉ μ1 := g1.out upd_same (sr.free hp)
    by_cases hk : keysOk qs = true ∧ qs.length ≤ 15
    · rw [if_pos hk] at h1
      obtain ⟨ks, e, r⟩ := PRs.keys rs hk.1
      refine ⟨hp1, ks, e, by rw [← KRs.length r]; exact hk.2, ?_⟩
      have nseq : ∀ u, H1 p = some u → seqO u = false := fun u z => by rw [hp1] at z; cases z; rfl
      have gr : Gr μ H (μ1.add p) (upd H1 p (.dK (mergeK [] ks))) := by
        obtain ⟨t, et⟩ := g1.pre
        refine ⟨⟨t ++ [p], by show μ1.l ++ [p] = _; rw [et, List.append_assoc]⟩, g1.ban, fun b m => ?_, fun b m => ?_, fun b o e nb => ?_, fun b o u e => ?_⟩
        · rcases g1.bnew b m with z | z
          · exact .inl z
          · by_cases hb : b = p
            · rw [hb]; exact .inr hp
            · rw [upd_ne hb] at z; exact .inr z
        · rcases List.mem_append.mp m with z | z
          · rcases g1.new b z with z | z
            · exact .inl z
            · by_cases hb : b = p
              · rw [hb]; exact .inr hp
              · rw [upd_ne hb] at z; exact .inr z
          · rw [List.mem_singleton.mp z]; exact .inr hp
        · have hb : b ≠ p := ne_of_none e hp
          rw [upd_ne hb]
          exact g1.keep b o (by rw [upd_ne hb]; exact e) nb
        · have hb : b ≠ p := ne_of_none e hp
          rw [upd_ne hb]
          exact g1.fz b o u (by rw [upd_ne hb]; exact e)
      refine h1 _ _ (.ref p) gr (s1.track np nseq ⟨_, upd_same, KRs.mono (gv_alloc nseq) _ _ (KRs.merge r (show KRs X.K H1 μ1 [] [] from rfl))⟩) ?_
      exact (show ∃ a, V.ref p = .ref a ∧ (μ1.add p).l[st1.length]? = some a from ⟨p, rfl, by rw [← s1.len]; simp [Mu.add]⟩)
    · rw [if_neg hk] at h1
      exact h1.elim)
end
end MP

set_option maxRecDepth 100000
set_option maxHeartbeats 1000000
namespace MP
open PySem L2
noncomputable def setM (o i v : PV) : M Unit := fun st => match o with
  | .loc n => match st[n]? with
    | some (.lst xs) => match i with
      | .int k => match ixN xs.length k with
        | some j => .ok () (st.set n (.lst (xs.set j v)))
        | none => .bad
      | _ => .bad
    | some (.dct kvs) => if (keyOf i).isSome = true ∧ kvs.length < SZ then .ok () (st.set n (.dct (putP kvs i v))) else .bad
    | some (.dcl kvs) => if (lfOf i).isSome = true ∧ kvs.length < SZ then .ok () (st.set n (.dcl (putP kvs i v))) else .bad
    | some (.dcn kvs) => if (nkT i).isSome = true ∧ kvs.length < SZ then .ok () (st.set n (.dcn (putP kvs i v))) else .bad
    | _ => .bad
  | _ => .bad
noncomputable def rSetM (K : KW) : V → V → V → Hp → (Hp → Prop) → Prop := fun o i v H Q => rSetL o i v H Q ∨ (∃ a H', o = .ref a ∧ DPut H a i v H' ∧ Q H') ∨ ∃ a, o = .ref a ∧ GPut K H a i v Q
theorem set_M {X : Cx} (hu : X.A.units + 64 < cLine) : PSet X (rSetM (kw X)) := by
  intro pins s σ H o i v ov iv u Q I ro ri rv h
  rcases h with h | ⟨a, H', rfl, g, q⟩ | ⟨a, rfl, g⟩
  · exact set_list pins s σ H o i v ov iv u Q I ro ri rv h
  · cases (show ov = Value.ref a from ro)
    exact d_setItem (by omega) I g ri rv fun s4 I4 => ⟨H', I4, q⟩
  · cases (show ov = Value.ref a from ro)
    exact g_setItem hu I g ri rv fun H' s4 I4 q => ⟨H', I4, q⟩
theorem t_set {K : KW} {μ : Mu} {st : Sto} {H : Hp} {o i v : PV} {a b c : V} {E : XK} {Q : Hp → Prop} (sr : SR K μ st H) (ro : VR K H μ o a) (ri : VR K H μ i b) (rv : VR K H μ v c)
    (h : PostG K E (fun _ _ (_ : Unit) (_ : Unit) => True) (fun _ H' => Q H') μ H (setM o i v st)) : rSetM K a b c H Q := by
  cases o with
  | loc n =>
    obtain ⟨p, rfl, hp⟩ := loc_at ro
    unfold setM at h
    dsimp only at h
    cases q : st[n]? with
    | none => rw [q] at h; exact h.elim
    | some cc =>
      rw [q] at h
      cases cc with
      | lst xs =>
        dsimp only at h
        cases i with
        | int k =>
          dsimp only at h
          cases (show b = V.int k from ri)
          cases qj : ixN xs.length k with
          | none => rw [qj] at h; exact h.elim
          | some j =>
            rw [qj] at h
            obtain ⟨vs, h1, h2⟩ := sr.cell n _ p q hp
            refine .inl ⟨p, vs, k, j, rfl, rfl, h1, by rw [← VRs.length h2]; exact qj, ?_⟩
            exact h μ _ () (gr_put hp h1 rfl) (sr.put hp ⟨_, upd_same, VRs.monov (gv_put hp) _ _ (VRs.set rv j h2)⟩) trivial
        | _ => exact h.elim
      | dct kvs =>
        dsimp only at h
        by_cases hk : (keyOf i).isSome = true ∧ kvs.length < SZ
        · rw [if_pos hk] at h
          obtain ⟨k', ek⟩ := Option.isSome_iff_exists.mp hk.1
          obtain ⟨kv, h1, h2⟩ := sr.cell n _ p q hp
          refine .inr (.inl ⟨p, upd H p (.dK (putK kv k' c)), rfl, ?_, ?_⟩)
          · rw [keyOf_kV ek ri]
            exact DPut.k h1 (by rw [← KRs.length h2, sz_eq]; exact hk.2)
          · exact h μ _ () (gr_put hp h1 rfl) (sr.put hp ⟨_, upd_same, KRs.mono (gv_put hp) _ _ (h2.put ek rv)⟩) trivial
        · rw [if_neg hk] at h
          exact h.elim
      | ins C fs => exact h.elim
      | dcl kvs =>
        dsimp only at h
        by_cases hk : (lfOf i).isSome = true ∧ kvs.length < SZ
        · rw [if_pos hk] at h
          obtain ⟨k', ek⟩ := Option.isSome_iff_exists.mp hk.1
          exact .inr (.inr ⟨p, rfl, (sr.cell n _ p q hp).putL hp ek (by rw [sz_eq]; exact hk.2) ri rv fun o cr => h μ _ () (let ⟨_, h1, _⟩ := sr.cell n _ p q hp; gr_put hp h1 rfl) (sr.put hp cr) trivial⟩)
        · rw [if_neg hk] at h
          exact h.elim
      | dcn kvs =>
        dsimp only at h
        by_cases hk : (nkT i).isSome = true ∧ kvs.length < SZ
        · rw [if_pos hk] at h
          obtain ⟨k', ek⟩ := Option.isSome_iff_exists.mp hk.1
          exact .inr (.inr ⟨p, rfl, (sr.cell n _ p q hp).putN hp ek (by rw [sz_eq]; exact hk.2) ri rv fun o cr => h μ _ () (let ⟨_, h1, _⟩ := sr.cell n _ p q hp; gr_put hp h1 rfl) (sr.put hp cr) trivial⟩)
        · rw [if_neg hk] at h
          exact h.elim
      | lck kvs => exact h.elim
  | _ => exact h.elim
noncomputable def gSubM (mo mi : Rho → M PV) : GM := fun p ρ => M.bind (mo ρ) fun o => M.bind (mi ρ) fun i => M.bind (setM o i p) fun _ => M.ret ρ
section
variable {X : Cx} {W : WX} {o i : Expr} {pos : Pos} {mo mi : Rho → M PV}
theorem mg_sub (hu : X.A.units + 64 < cLine) (ho : ME X W o mo) (hi : ME X W i mi)
    (ha : ∀ v, assign (.Subscript o i pos) X.env v = (do
      let ov ← holding [v] (eval o X.env)
      let iv ← holding [v, ov] (eval i X.env)
      standAt pos
      holding [v, ov, iv] (setItem ov iv v)
      release [v, ov, iv] []) := by intro _; rfl) : MG X W (.Subscript o i pos) (gSubM mo mi) :=
  PG.imp (pg_sub ho hi (set_M hu) ha) fun v σ H Q ⟨μ, st, ρ, p, er, sr, rv, h⟩ => ⟨μ, st, ρ, er, sr, (PostG.bind h).mono fun u H1 ⟨μ1, st1, x, g1, s1, rx, h1⟩ =>
    ⟨μ1, st1, ρ, er.mono g1, s1, (PostG.bind h1).mono fun w H2 ⟨μ2, st2, y, g2, s2, ry, h2⟩ => t_set s2 (VR.mono g2 x u rx) ry (VR.mono g2 p v (VR.mono g1 p v rv))
      ((PostG.bind (R' := fun _ _ (_ : Unit) (_ : Unit) => True) h2).mono fun _ H3 ⟨μ3, st3, _, g3, s3, _, h3⟩ => h3 μ3 H3 σ (Gr.refl _ _) s3 (((er.mono g1).mono g2).mono g3))⟩⟩
end
noncomputable def lenM (xs : List PV) : M PV := fun st => match xs with
  | [x] => match seqOf x st with
    | some ys => .ok (.int ys.length) st
    | none => match x with
      | .str z => if z.length ≤ SZ then .ok (.int z.length) st else .bad
      | x => match dctOf x st with
        | some kvs => .ok (.int kvs.length) st
        | none => .bad
  | _ => .bad
theorem one_of {K : PySem.W.Frag} {H : Hp} {μ : Mu} {x : PV} {us : List V} (r : VRs K H μ [x] us) : ∃ u, us = [u] ∧ VR K H μ x u := by
  obtain ⟨u, t, rfl, h1, h2⟩ := (show ∃ v t, us = v :: t ∧ VR K H μ x v ∧ VRs K H μ [] t from r)
  cases (show t = [] from h2)
  exact ⟨u, rfl, h1⟩
theorem two_of {K : PySem.W.Frag} {H : Hp} {μ : Mu} {x y : PV} {us : List V} (r : VRs K H μ [x, y] us) : ∃ u v, us = [u, v] ∧ VR K H μ x u ∧ VR K H μ y v := by
  obtain ⟨u, t, rfl, h1, h2⟩ := (show ∃ v t, us = v :: t ∧ VR K H μ x v ∧ VRs K H μ [y] t from r)
  obtain ⟨v, rfl, h3⟩ := one_of h2
  exact ⟨u, v, rfl, h1, h3⟩
noncomputable def rLenM (K : PySem.W.Frag) : List V → Hp → VK → Prop := fun xs H Q => (∃ x n, xs = [x] ∧ LenV K x H n ∧ Q (.int n) H) ∨ ∃ a kvs, xs = [V.ref a] ∧ H a = some (.dK kvs) ∧ Q (.int kvs.length) H
theorem cr_lenM {X : Cx} : CallR X (.builtin "len") (rLenM X.K) := call_len.or call_lenD
theorem t_len {K : KW} : TL K (rLenM K) lenM := by
  intro μ st H xs us E Q sr r h
  cases xs with
  | nil => exact h.elim
  | cons x t =>
    cases t with
    | cons y t => exact h.elim
    | nil =>
      obtain ⟨u, rfl, rx⟩ := one_of r
      unfold lenM at h
      dsimp only at h
      cases hs : seqOf x st with
      | some ys =>
        rw [hs] at h
        obtain ⟨a, vs, rfl, hq, rs⟩ := seqOf_at sr rx hs
        refine .inl ⟨.ref a, ys.length, rfl, ?_, post_same h sr rfl⟩
        rcases hq with hq | hq
        · exact .inl ⟨vs, hq, VRs.length rs⟩
        · exact .inr ⟨vs, hq, VRs.length rs⟩
      | none =>
        rw [hs] at h
        dsimp only at h
        have dc : PostG K E (VR K) Q μ H (match dctOf x st with
          | some kvs => .ok (.int kvs.length) st
          | none => .bad) → rLenM K [u] H Q := by
          intro h
          cases hd : dctOf x st with
          | none => rw [hd] at h; exact h.elim
          | some kvs =>
            rw [hd] at h
            obtain ⟨n, a, kv, ex, rfl, ha, hc, h1, h2⟩ := dctOf_at sr rx hd
            refine .inr ⟨a, kv, rfl, h1, ?_⟩
            rw [← KRs.length h2]
            exact post_same h sr rfl
        cases x with
        | str z =>
          cases (show u = V.str ⟨z.toArray⟩ from rx)
          dsimp only at h
          by_cases hz : z.length ≤ SZ
          · rw [if_pos hz] at h
            refine .inl ⟨_, z.length, rfl, ?_, post_same h sr rfl⟩
            exact ⟨by rw [str_len, sz_eq]; exact hz, by rw [str_len]⟩
          · rw [if_neg hz] at h
            exact h.elim
        | _ => exact dc h
noncomputable def listM (xs : List PV) : M PV := fun st => match xs with
  | [x] => match seqOf x st with
    | some ys => .ok (.lst ys) st
    | none => .bad
  | _ => .bad
noncomputable def listN (xs : List PV) : M PV := fun st => match xs with
  | [x] => match seqOf x st with
    | some ys => .ok (.loc st.length) (st ++ [.lst ys])
    | none => .bad
  | _ => .bad
noncomputable abbrev rListM (K : PySem.W.Frag) : List V → Hp → VK → Prop := fun xs H Q => ∃ p ys, xs = [.ref p] ∧ (SqL K H p ys ∨ SqT K H p ys) ∧ ∀ l, H l = none → Q (.ref l) (upd H l (.lst ys))
noncomputable def tupleM (xs : List PV) : M PV := fun st => match xs with
  | [x] => match seqOf x st with
    | some ys => .ok (.tup ys) st
    | none => .bad
  | _ => .bad
noncomputable abbrev rTupM (K : PySem.W.Frag) : List V → Hp → VK → Prop := fun xs H Q => ∃ p ys, xs = [.ref p] ∧ ((SqL K H p ys ∧ ∀ l, H l = none → Q (.ref l) (upd H l (.tup ys))) ∨ (SqT K H p ys ∧ Q (.ref p) H))
theorem t_tuple {K : KW} : TL K (rTupM K) tupleM := by
  intro μ st H xs us E Q sr r h
  cases xs with
  | nil => exact h.elim
  | cons x t =>
    cases t with
    | cons y t => exact h.elim
    | nil =>
      obtain ⟨u, rfl, rx⟩ := one_of r
      unfold tupleM at h
      dsimp only at h
      cases hs : seqOf x st with
      | none => rw [hs] at h; exact h.elim
      | some ys =>
        rw [hs] at h
        cases x with
        | tup zs =>
          cases hs
          obtain ⟨a, vs, rfl, t, rs⟩ := tup_at rx
          exact ⟨a, vs, rfl, .inr ⟨t.sq, post_same h sr rx⟩⟩
        | lst zs =>
          cases hs
          obtain ⟨a, vs, rfl, t, rs⟩ := lst_at rx
          exact ⟨a, vs, rfl, .inl ⟨t.sq, fun l hl => post_tup sr rs hl h⟩⟩
        | frz zs =>
          cases hs
          obtain ⟨a, vs, rfl, t, rs⟩ := frz_at rx
          exact ⟨a, vs, rfl, .inl ⟨t.sq, fun l hl => post_tup sr rs hl h⟩⟩
        | loc n =>
          obtain ⟨a, vs, rfl, t, rs⟩ := listOf_at sr rx (show listOf (.loc n) st = some ys from hs)
          exact ⟨a, vs, rfl, .inl ⟨SqL.of t, fun l hl => post_tup sr rs hl h⟩⟩
        | _ => cases hs
noncomputable def tyP (x : PV) (st : Sto) : Option String := match x with
  | .non => some "NoneType"
  | .bl _ => some "bool"
  | .int _ => some "int"
  | .str _ => some "str"
  | .tup _ => some "tuple"
  | .lst _ => some "list"
  | .loc n => match st[n]? with
    | some (.lst _) => some "list"
    | some (.dct _) => some "dict"
    | _ => none
  | _ => none
noncomputable def isiT (t T : String) : Bool := t == T || (t == "bool" && T == "int")
noncomputable def isiOk (T : String) : Bool := T == "int" || T == "bool" || T == "str" || T == "tuple" || T == "list" || T == "dict"
noncomputable def isiM (xs : List PV) : M PV := fun st => match xs with
  | [x, .ty T] => if isiOk T = true then (match tyP x st with
    | some t => .ok (.bl (isiT t T)) st
    | none => .bad) else .bad
  | _ => .bad
theorem kit_tab : ∀ t ∈ ["NoneType", "bool", "int", "str", "tuple", "list", "dict"], ∀ T ∈ ["int", "bool", "str", "tuple", "list", "dict"], kitB t T = some (isiT t T) := by decide +kernel
theorem tyP_at {K : KW} {H : Hp} {μ : Mu} {st : Sto} {x : PV} {v : V} {t : String} (sr : SR K μ st H) (r : VR K H μ x v) (h : tyP x st = some t) : t ∈ ["NoneType", "bool", "int", "str", "tuple", "list", "dict"] ∧ TyX K H v (.type t) := by
  cases x with
  | non => cases h; cases (show v = .non from r); exact ⟨by decide, .base .non⟩
  | bl b => cases h; cases (show v = .bl b from r); exact ⟨by decide, .base (.bl b)⟩
  | int b => cases h; cases (show v = .int b from r); exact ⟨by decide, .base (.int b)⟩
  | str b => cases h; cases (show v = .str ⟨b.toArray⟩ from r); exact ⟨by decide, .base (.str _)⟩
  | tup b =>
    cases h
    obtain ⟨a, vs, rfl, t, rs⟩ := tup_at r
    rcases t with ⟨t | ⟨o, t⟩, _⟩ | ⟨o, its, n, hk, hc, _⟩
    · exact ⟨by decide, .base (.tup t)⟩
    · exact ⟨by decide, .fTuple t⟩
    · exact ⟨by decide, .kTuple hk hc⟩
  | lst b =>
    cases h
    obtain ⟨a, vs, rfl, t, rs⟩ := lst_at r
    exact ⟨by decide, .base (.lst t.1)⟩
  | loc n =>
    obtain ⟨a, rfl, ha⟩ := loc_at r
    unfold tyP at h
    dsimp only at h
    cases q : st[n]? with
    | none => rw [q] at h; cases h
    | some c =>
      rw [q] at h
      cases c with
      | lst xs =>
        cases h
        obtain ⟨vs, h1, _⟩ := sr.cell n _ a q ha
        exact ⟨by decide, .base (.lst h1)⟩
      | dct kvs =>
        cases h
        obtain ⟨vs, h1, _⟩ := sr.cell n _ a q ha
        exact ⟨by decide, .base (.dK h1)⟩
      | ins C fs => cases h
      | dcl kvs => cases h
      | dcn kvs => cases h
      | lck kvs => cases h
  | _ => cases h
theorem t_isi {K : KW} : TL K (rIsi K) isiM := by
  intro μ st H xs us E Q sr r h
  cases xs with
  | nil => exact h.elim
  | cons x t =>
    cases t with
    | nil => exact h.elim
    | cons y t =>
      cases t with
      | cons z t =>
        unfold isiM at h
        cases y <;> exact h.elim
      | nil =>
        obtain ⟨u, v, rfl, rx, ry⟩ := two_of r
        cases y with
        | ty T =>
          cases (show v = V.ty T from ry)
          unfold isiM at h
          dsimp only at h
          by_cases hT : isiOk T = true
          · rw [if_pos hT] at h
            have hT' : T ∈ ["int", "bool", "str", "tuple", "list", "dict"] := by
              unfold isiOk at hT
              simp only [Bool.or_eq_true, beq_iff_eq] at hT
              simp only [List.mem_cons]
              rcases hT with ((((e | e) | e) | e) | e) | e <;> simp [e]
            cases q : tyP x st with
            | none => rw [q] at h; exact h.elim
            | some t =>
              rw [q] at h
              obtain ⟨m, ty⟩ := tyP_at sr rx q
              exact ⟨u, .ty T, .type t, .type T, _, rfl, .ty T, ty, kit_ty (kit_tab t m T hT'), post_same h sr rfl⟩
          · rw [if_neg hT] at h
            exact h.elim
        | _ => exact h.elim
noncomputable def intM (xs : List PV) : M PV := match xs with
  | [.int i] => M.ret (.int i)
  | [.bl b] => M.ret (.int (if b then 1 else 0))
  | [.str x] => if x.length ≤ 640 then (match PySem.intText? ⟨x.toArray⟩ with | some n => M.ret (.int n) | none => M.fail) else M.fail
  | _ => M.fail
noncomputable def rIntM : List V → Hp → VK → Prop := fun xs H Q => ((∃ i, xs = [.int i] ∧ Q (.int i) H) ∨ ∃ k, xs = [.bl k] ∧ Q (.int (if k then 1 else 0)) H) ∨ ∃ a n, xs = [.str a] ∧ PySem.intText? a = some n ∧ a.length ≤ 640 ∧ Q (.int n) H
theorem t_int {K : KW} : TL K rIntM intM := by
  intro μ st H xs us E Q sr r h
  cases xs with
  | nil => exact h.elim
  | cons x t =>
    cases t with
    | cons y t => cases x <;> exact h.elim
    | nil =>
      obtain ⟨u, rfl, rx⟩ := one_of r
      cases x with
      | int i => cases (show u = V.int i from rx); exact .inl (.inl ⟨i, rfl, post_same h sr rfl⟩)
      | bl i => cases (show u = V.bl i from rx); exact .inl (.inr ⟨i, rfl, post_same h sr rfl⟩)
      | str x =>
        cases (show u = V.str ⟨x.toArray⟩ from rx)
        unfold intM at h
        dsimp only at h
        by_cases hz : x.length ≤ 640
        · rw [if_pos hz] at h
          cases q : PySem.intText? ⟨x.toArray⟩ with
          | none => rw [q] at h; exact h.elim
          | some n => rw [q] at h; exact .inr ⟨_, n, rfl, q, by rw [str_len]; exact hz, post_same h sr rfl⟩
        · rw [if_neg hz] at h
          exact h.elim
      | _ => exact h.elim
noncomputable def maxM (xs : List PV) : M PV := match xs with
  | [.int i, .int j] => M.ret (.int (if j > i then j else i))
  | _ => M.fail
noncomputable def minM (xs : List PV) : M PV := match xs with
  | [.int i, .int j] => M.ret (.int (if j < i then j else i))
  | _ => M.fail
section
variable {X : Cx} {W : WX} {e : Expr} {es : List Expr} {p pos : Pos} {ma : Rho → M (List PV)}
theorem me_len (hg : Gl X "len") (hm : X.mg "len" = none) (ha : MA X W [e] ma) (he : starEach [e] X.env = (false, eval e X.env) :: starEach [] X.env := by kernel_rfl) : ME X W (.Call (.Name "len" p) [e] [] pos) (eCall lenM ma) :=
  me_callB cr_lenM t_len hg hm PySem.boot_len ha (by decide) (by decide) he rfl
theorem me_tupleOf (hg : Gl X "tuple") (hm : X.mg "tuple" = none) (ha : MA X W [e] ma) (he : starEach [e] X.env = (false, eval e X.env) :: starEach [] X.env := by kernel_rfl) : ME X W (.Call (.Name "tuple" p) [e] [] pos) (eCall tupleM ma) :=
  me_callTy call_tuple_of t_tuple hg hm (by decide +kernel) ha (by decide) (by decide) he rfl
theorem me_isinst (hg : Gl X "isinstance") (hm : X.mg "isinstance" = none) (ha : MA X W (e :: es) ma) (he : starEach (e :: es) X.env = (false, eval e X.env) :: starEach es X.env := by kernel_rfl) (hpl : (backTo pos (starEach es X.env)).any (·.1) = false := by kernel_rfl) : ME X W (.Call (.Name "isinstance" p) (e :: es) [] pos) (eCall isiM ma) :=
  me_callB call_isi t_isi hg hm (by decide +kernel) ha (by decide) (by decide) he hpl
theorem me_intOf (hg : Gl X "int") (hm : X.mg "int" = none) (ha : MA X W [e] ma) (he : starEach [e] X.env = (false, eval e X.env) :: starEach [] X.env := by kernel_rfl) : ME X W (.Call (.Name "int" p) [e] [] pos) (eCall intM ma) :=
  me_callTy (call_int1.or call_int_str) t_int hg hm (by decide +kernel) ha (by decide) (by decide) he rfl
end
end MP

set_option maxRecDepth 100000
set_option maxHeartbeats 1000000
namespace MP
open PySem L2
theorem TupAt.grow {K : PySem.W.Frag} {H H' : Hp} {μ μ' : Mu} {a : Addr} {vs : List V} (g : Gr μ H μ' H') (t : TupAt K H μ a vs) : TupAt K H' μ' a vs := by
  rcases t with ⟨t | ⟨o, t⟩, n⟩ | t
  · exact .inl ⟨.inl (g.keep a _ t (fun z => n (.inl z))), g.out t n⟩
  · exact .inl ⟨.inr ⟨o, g.keep a _ t (fun z => n (.inl z))⟩, g.out t n⟩
  · exact .inr t
theorem LstAt.grow {H H' : Hp} {μ μ' : Mu} {a : Addr} {vs : List V} (g : Gr μ H μ' H') (t : LstAt H μ a vs) : LstAt H' μ' a vs := ⟨g.keep a _ t.1 (fun z => t.2 (.inl z)), g.out t.1 t.2⟩
theorem FrzAt.grow {K : PySem.W.Frag} {H H' : Hp} {μ μ' : Mu} {a : Addr} {vs : List V} (g : Gr μ H μ' H') (t : FrzAt K H μ a vs) : FrzAt K H' μ' a vs := by
  rcases t with ⟨t | ⟨o, t⟩, n⟩ | t
  · exact .inl ⟨.inl (g.keep a _ t (fun z => n (.inl z))), g.out t n⟩
  · exact .inl ⟨.inr ⟨o, g.keep a _ t (fun z => n (.inl z))⟩, g.out t n⟩
  · exact .inr t
theorem sup_tup {K : KW} {H : Hp} {μ : Mu} {a : Addr} {ps : List PV} {vs : List V} (t : TupAt K H μ a vs) (r : VRs K H μ ps vs) : Sup K (Itt K a) ps μ H := fun μ' H' st g sr => by
  have q := (t.grow g).sq
  refine ⟨fun i p hp => ?_, ⟨vs, q, by rw [VRs.length r]; exact Nat.le_refl _⟩⟩
  obtain ⟨v, e1, e2⟩ := VRs.get (VRs.mono g ps vs r) hp
  refine ⟨⟨vs, v, q, e1⟩, fun x H2 ⟨eh, y⟩ => ?_⟩
  subst eh
  have ex : v = x := Option.some.inj (e1.symm.trans (y vs q))
  subst ex
  exact ⟨Gr.refl _ _, sr, e2⟩
theorem sup_lst {K : KW} {H : Hp} {μ : Mu} {a : Addr} {ps : List PV} {vs : List V} (t : ∀ μ' H', Gr μ H μ' H' → SqL K H' a vs) (r : VRs K H μ ps vs) : Sup K (Itl K a) ps μ H := fun μ' H' st g sr => by
  have q := t μ' H' g
  refine ⟨fun i p hp => ?_, ⟨vs, q, by rw [VRs.length r]; exact Nat.le_refl _⟩⟩
  obtain ⟨v, e1, e2⟩ := VRs.get (VRs.mono g ps vs r) hp
  refine ⟨⟨vs, v, q, e1⟩, fun x H2 ⟨eh, y⟩ => ?_⟩
  subst eh
  have ex : v = x := Option.some.inj (e1.symm.trans (y vs q))
  subst ex
  exact ⟨Gr.refl _ _, sr, e2⟩
theorem sup_str {K : KW} {H : Hp} {μ : Mu} {z : List Nat} : Sup K (Its ⟨z.toArray⟩) (z.map fun c => .str [c]) μ H := fun μ' H' st g sr => by
  refine ⟨fun i p hp => ?_, by show z.toArray.size ≤ _; simp⟩
  rw [List.getElem?_map] at hp
  cases q : z[i]? with
  | none => rw [q] at hp; cases hp
  | some c =>
    rw [q] at hp
    cases hp
    refine ⟨by show i < z.toArray.size; have := (List.getElem?_eq_some_iff.mp q).1; simpa using this, fun x H2 ⟨eh, c', ec, ex⟩ => ?_⟩
    subst eh ex
    have e : z.toArray[i]? = some c' := ec
    have e' : c' = c := by
      rw [List.getElem?_toArray, q] at e
      exact (Option.some.inj e).symm
    subst e'
    exact ⟨Gr.refl _ _, sr, rfl⟩
theorem sup_range {K : KW} {H : Hp} {μ : Mu} {lo : Int} {n : Nat} : Sup K (Itr lo n) ((List.range n).map fun (i : Nat) => .int (lo + (i : Int))) μ H := fun μ' H' st g sr => by
  refine ⟨fun i p hp => ?_, by show n ≤ _; simp⟩
  rw [List.getElem?_map] at hp
  cases q : (List.range n)[i]? with
  | none => rw [q] at hp; cases hp
  | some c =>
    rw [q] at hp
    cases hp
    obtain ⟨h1, h2⟩ := List.getElem?_eq_some_iff.mp q
    rw [List.getElem_range] at h2
    subst h2
    refine ⟨by show i < n; simpa using h1, fun x H2 ⟨eh, ex⟩ => ?_⟩
    subst eh ex
    exact ⟨Gr.refl _ _, sr, rfl⟩
noncomputable def itemsM : PV → M (List PV)
  | .tup xs => M.ret xs
  | .lst xs => M.ret xs
  | .frz xs => M.ret xs
  | .str z => M.ret (z.map fun c => .str [c])
  | _ => M.fail
noncomputable def iSeq (m : Rho → M PV) : Rho → M (List PV) := fun ρ => M.bind (m ρ) itemsM
section
variable {X : Cx} {W : WX} {tg e a b : Expr} {p pos : Pos} {me : Rho → M PV} {ma : Rho → M (List PV)}
theorem PI.or {iter : Expr} {t t' : TI} (h : PI X tg iter t) (h' : PI X tg iter t') : PI X tg iter (fun σ H R => t σ H R ∨ t' σ H R) := ⟨fun pins s σ H R I q => by
  rcases q with q | q
  · exact h.run pins s σ H R I q
  · exact h'.run pins s σ H R I q⟩
theorem mi_seq (he : ME X W e me) : MI X W tg e (iSeq me) :=
  PI.imp (PI.or (pi_tup he) (PI.or (pi_list he) (pi_str he))) fun σ H R ⟨μ, st, ρ, er, sr, h⟩ => by
    have h0 := h
    unfold iSeq M.bind at h
    cases q : me ρ st with
    | bad => rw [q] at h; exact h.elim
    | err x st' =>
      rw [q] at h
      refine .inl ⟨μ, st, ρ, er, sr, ?_⟩
      rw [q]
      exact h
    | ok v st' =>
      rw [q] at h
      dsimp only at h
      cases v with
      | tup xs =>
        refine .inl ⟨μ, st, ρ, er, sr, ?_⟩
        rw [q]
        intro μ1 H1 u g1 s1 ru
        obtain ⟨a, vs, rfl, t, rs⟩ := tup_at ru
        exact ⟨a, rfl, ⟨vs, t.sq⟩, h μ1 H1 _ g1 s1 (sup_tup t rs)⟩
      | lst xs =>
        refine .inr (.inl ⟨μ, st, ρ, er, sr, ?_⟩)
        rw [q]
        intro μ1 H1 u g1 s1 ru
        obtain ⟨a, vs, rfl, t, rs⟩ := lst_at ru
        exact ⟨a, rfl, ⟨vs, t.sq⟩, h μ1 H1 _ g1 s1 (sup_lst (fun _ _ g => (t.grow g).sq) rs)⟩
      | frz xs =>
        refine .inr (.inl ⟨μ, st, ρ, er, sr, ?_⟩)
        rw [q]
        intro μ1 H1 u g1 s1 ru
        obtain ⟨a, vs, rfl, t, rs⟩ := frz_at ru
        exact ⟨a, rfl, ⟨vs, t.sq⟩, h μ1 H1 _ g1 s1 (sup_lst (fun _ _ g => (t.grow g).sq) rs)⟩
      | str z =>
        refine .inr (.inr ⟨μ, st, ρ, er, sr, ?_⟩)
        rw [q]
        intro μ1 H1 u g1 s1 ru
        cases (show u = V.str ⟨z.toArray⟩ from ru)
        exact ⟨_, rfl, h μ1 H1 _ g1 s1 sup_str⟩
      | _ => exact h.elim
noncomputable def rangeOk (i : Int) : Prop := -4611686018427387904 ≤ i ∧ i < 4611686018427387904
noncomputable instance (i : Int) : Decidable (rangeOk i) := by unfold rangeOk; exact inferInstance
noncomputable def range1 (xs : List PV) : M (List PV) := match xs with
  | [.int j] => if rangeOk j then M.ret ((List.range j.toNat).map fun (i : Nat) => .int ((0 : Int) + (i : Int))) else M.fail
  | _ => M.fail
noncomputable def range2 (xs : List PV) : M (List PV) := match xs with
  | [.int i, .int j] => if rangeOk i ∧ rangeOk j then M.ret ((List.range (j - i).toNat).map fun (k : Nat) => .int (i + (k : Int))) else M.fail
  | _ => M.fail
noncomputable def iCall (f : List PV → M (List PV)) (m : Rho → M (List PV)) : Rho → M (List PV) := fun ρ => M.bind (m ρ) f
theorem mi_range1 (hg : Gl X "range") (hm : X.mg "range" = none) (ha : MA X W [a] ma) (hs : starEach [a] X.env = [(false, eval a X.env)] := by kernel_rfl) : MI X W tg (.Call (.Name "range" p) [a] [] pos) (iCall range1 ma) :=
  PI.imp (pi_range1 hg hm ha hs) fun σ H R ⟨μ, st, ρ, er, sr, h⟩ => ⟨μ, st, ρ, er, sr, (PostG.bind h).mono fun us H1 ⟨μ1, st1, xs, g1, s1, rxs, h1⟩ => by
    unfold range1 at h1
    split at h1
    · rename_i j
      by_cases hj : rangeOk j
      · rw [if_pos hj] at h1
        obtain ⟨u, rfl, ru⟩ := one_of rxs
        cases (show u = V.int j from ru)
        exact ⟨j, rfl, hj.1, hj.2, h1 μ1 H1 _ (Gr.refl _ _) s1 sup_range⟩
      · rw [if_neg hj] at h1
        exact h1.elim
    · exact h1.elim⟩
noncomputable def enumM (xs : List PV) : M (List PV) := match xs with
  | [.lst ps] => M.ret (ps.mapIdx fun i p => .tup [.int (i : Nat), p])
  | [.frz ps] => M.ret (ps.mapIdx fun i p => .tup [.int (i : Nat), p])
  | _ => M.fail
end
noncomputable def wipeP (ρ : Rho) : List Nat → Rho
  | [] => ρ
  | v :: vs => (wipeP ρ vs).set v none
theorem ER.wipe {K : PySem.W.Frag} {H : Hp} {μ : Mu} {ρ : Rho} {σ : St} (e : ER K H μ ρ σ) : ∀ vs : List Nat, ER K H μ (wipeP ρ vs) (L2.wipe σ vs)
  | [] => e
  | v :: vs => by
    unfold wipeP L2.wipe
    exact (ER.wipe e vs).unset v
theorem wipe_far {σ : St} {j : Nat} {o : Option V} : ∀ {vs : List Nat}, j ∉ vs → L2.wipe (σ.set j o) vs = (L2.wipe σ vs).set j o
  | [], _ => rfl
  | v :: vs, h => by
    have h1 : j ≠ v := fun z => h (by rw [z]; exact List.mem_cons_self)
    have h2 : j ∉ vs := fun z => h (List.mem_cons_of_mem _ z)
    unfold L2.wipe
    rw [wipe_far h2, List.set_comm _ _ h1]
theorem wipe_set {σ : St} {j : Nat} {o : Option V} : ∀ {vs : List Nat}, j ∈ vs → L2.wipe (σ.set j o) vs = L2.wipe σ vs
  | [], h => (nomatch h)
  | v :: vs, h => by
    unfold L2.wipe
    by_cases hj : j ∈ vs
    · rw [wipe_set hj]
    · have e : j = v := by
        rcases List.mem_cons.mp h with z | z
        · exact z
        · exact absurd z hj
      subst e
      rw [wipe_far hj, List.set_set]
theorem wipe_wipe {σ : St} {vs : List Nat} : ∀ {us : List Nat}, (∀ u ∈ us, u ∈ vs) → L2.wipe (L2.wipe σ us) vs = L2.wipe σ vs
  | [], _ => rfl
  | u :: us, h => by
    show L2.wipe ((L2.wipe σ us).set u none) vs = _
    rw [wipe_set (h u List.mem_cons_self), wipe_wipe fun w hw => h w (List.mem_cons_of_mem _ hw)]
noncomputable def TGo (K : KW) (vs : List Nat) (g0 : TG) (g : GM) : Prop := ∀ (v : V) (σ : St) (H : Hp) (Q : St → Hp → Prop) (μ : Mu) (st : Sto) (ρ : Rho) (p : PV), ER K H μ ρ σ → SR K μ st H → VR K H μ p v →
  PostG K (fun _ _ _ => False) (fun H μ ρ' σ' => ER K H μ ρ' σ' ∧ L2.wipe σ' vs = L2.wipe σ vs) Q μ H (g p ρ st) → g0 v σ H Q
theorem tgo_name {K : KW} {vs : List Nat} {j : Nat} (h : j ∈ vs) : TGo K vs (gName j) (gN j) := fun v σ H Q μ st ρ p er sr rv q => q μ H _ (Gr.refl _ _) sr ⟨er.set rv j, wipe_set h⟩
noncomputable def TGos (K : KW) (vs : List Nat) (g0 : TGs) (g : GsM) : Prop := ∀ (us : List V) (σ : St) (H : Hp) (Q : St → Hp → Prop) (μ : Mu) (st : Sto) (ρ : Rho) (ps : List PV), ER K H μ ρ σ → SR K μ st H → VRs K H μ ps us →
  PostG K (fun _ _ _ => False) (fun H μ ρ' σ' => ER K H μ ρ' σ' ∧ L2.wipe σ' vs = L2.wipe σ vs) Q μ H (g ps ρ st) → g0 us σ H Q
theorem tgos_nil {K : KW} {vs : List Nat} : TGos K vs gNil gsNil := fun us σ H Q μ st ρ ps er sr rv q => by
  cases ps with
  | nil => exact ⟨rv, q μ H σ (Gr.refl _ _) sr ⟨er, rfl⟩⟩
  | cons p ps => exact q.elim
theorem tgos_cons {K : KW} {vs : List Nat} {g0 : TG} {g : GM} {r0 : TGs} {r : GsM} (h1 : TGo K vs g0 g) (h2 : TGos K vs r0 r) : TGos K vs (gCons g0 r0) (gsCons g r) := fun us σ H Q μ st ρ ps er sr rv q => by
  cases ps with
  | nil => exact q.elim
  | cons p ps =>
    obtain ⟨v, t, ev, rp, rt⟩ := (show ∃ v r, us = v :: r ∧ VR K H μ p v ∧ VRs K H μ ps r from rv)
    refine ⟨v, t, ev, h1 v σ H _ μ st ρ p er sr rp ?_⟩
    have z := PostG.bind (R' := fun H μ ρ' σ' => ER K H μ ρ' σ' ∧ L2.wipe σ' vs = L2.wipe σ vs) q
    exact (PostG.calm z).mono fun σ1 H1 ⟨μ1, st1, ρ1, g1, s1, ⟨e1, w1⟩, h3⟩ => h2 t σ1 H1 Q μ1 st1 ρ1 ps e1 s1 (VRs.mono g1 ps t rt) (by
      cases hr : r ps ρ1 st1 with
      | ok a st' =>
        have h3' := h3
        rw [hr] at h3'
        exact fun μ2 H2 σ2 g2 s2 ⟨e2, w2⟩ => h3' μ2 H2 σ2 g2 s2 ⟨e2, w2.trans w1⟩
      | err x st' => have h3' := h3; rw [hr] at h3'; exact h3'
      | bad => have h3' := h3; rw [hr] at h3'; exact h3'.elim)
theorem tgo_tup {K : KW} {vs : List Nat} {n : Nat} {r0 : TGs} {r : GsM} (h : TGos K vs r0 r) : TGo K vs (gTup K n r0) (gT n r) := fun v σ H Q μ st ρ p er sr rv q => by
  cases p with
  | tup xs =>
    obtain ⟨a, ws, ev, ta, rs⟩ := tup_at rv
    have q' : PostG K (fun _ _ _ => False) (fun H μ ρ' σ' => ER K H μ ρ' σ' ∧ L2.wipe σ' vs = L2.wipe σ vs) Q μ H ((if xs.length = n then M.calm (r xs ρ) else M.fail) st) := q
    by_cases hx : xs.length = n
    · rw [if_pos hx] at q'
      exact ⟨a, ws, ev, ta.sq, by rw [← VRs.length rs]; exact hx, h ws σ H Q μ st ρ xs er sr rs (PostG.calm q')⟩
    · rw [if_neg hx] at q'
      exact q'.elim
  | _ => exact q.elim
noncomputable def lcL (g : GM) (t : Rho → M Bool) (e : Rho → M PV) (ρ0 : Rho) : List PV → List PV → M (List PV)
  | [], acc => M.ret acc
  | p :: ps, acc => M.bind (M.calm (g p ρ0)) fun ρ1 => M.bind (M.calm (t ρ1)) fun c => if c = true then M.bind (M.calm (e ρ1)) fun y => if acc.length < SZ then lcL g t e ρ0 ps (acc ++ [y]) else M.fail else lcL g t e ρ0 ps acc
noncomputable def Mu.bar (μ : Mu) (D : Addr) : Mu := ⟨μ.l, D :: μ.b⟩
theorem gv_bar {μ : Mu} {H : Hp} {D : Addr} {va : List V} (hb : D ∈ μ.b) : Gv μ H μ (upd H D (.lst va)) := ⟨⟨[], by simp⟩, fun a o e _ n => ⟨by rw [upd_ne (fun z => n (by rw [z]; exact .inr hb))]; exact e, n⟩⟩
theorem sr_bar {K : KW} {μ : Mu} {st : Sto} {H : Hp} {D : Addr} {va : List V} (hb : D ∈ μ.b) (s : SR K μ st H) : SR K μ st (upd H D (.lst va)) := by
  have nD := (s.ban D hb).1
  refine ⟨s.len, s.nd, fun a m => ⟨(s.ban a m).1, ?_⟩, fun n c a e1 e2 => (s.cell n c a e1 e2).monov (gv_bar hb) (upd_ne (fun z => nD (by rw [← z]; exact List.mem_of_getElem? e2)))⟩
  by_cases ha : a = D
  · rw [ha]; exact ⟨_, upd_same⟩
  · rw [upd_ne ha]; exact (s.ban a m).2
theorem M.bind_assoc {α β γ : Type} (m : M α) (f : α → M β) (k : β → M γ) : M.bind (M.bind m f) k = M.bind m fun a => M.bind (f a) k := by
  funext st
  unfold M.bind
  cases m st <;> rfl
noncomputable def Mu.unbar (μ : Mu) (D : Addr) : Mu := ⟨μ.l, μ.b.filter fun a => decide (a ≠ D)⟩
theorem unbar_b {μ : Mu} {D a : Addr} : a ∈ (μ.unbar D).b ↔ a ∈ μ.b ∧ a ≠ D := by
  show a ∈ μ.b.filter _ ↔ _
  rw [List.mem_filter]
  simp
theorem not_unbar {μ : Mu} {D a : Addr} (h : a ∉ μ) : a ∉ μ.unbar D := fun m => by
  rcases m with m | m
  · exact h (.inl m)
  · exact h (.inr (unbar_b.mp m).1)
theorem gv_unbar {μ : Mu} {H : Hp} {D : Addr} : Gv μ H (μ.unbar D) H := ⟨⟨[], by simp [Mu.unbar]⟩, fun a o e _ n => ⟨e, not_unbar n⟩⟩
theorem sr_unbar {K : KW} {μ : Mu} {st : Sto} {H : Hp} {D : Addr} (s : SR K μ st H) : SR K (μ.unbar D) st H :=
  ⟨s.len, s.nd, fun a m => s.ban a (unbar_b.mp m).1, fun n c a e1 e2 => (s.cell n c a e1 e2).monov gv_unbar rfl⟩
theorem gr_unbar {K : KW} {μ0 μ : Mu} {st0 : Sto} {H0 H : Hp} {D : Addr} (s0 : SR K μ0 st0 H0) (hD : H0 D = none) (g : Gr μ0 H0 μ H) : Gr μ0 H0 (μ.unbar D) H := by
  refine ⟨g.pre, fun a m => unbar_b.mpr ⟨g.ban a m, fun z => ?_⟩, fun a m => g.bnew a (unbar_b.mp m).1, g.new, g.keep, g.fz⟩
  subst z
  obtain ⟨o, e⟩ := (s0.ban _ m).2
  rw [hD] at e; cases e
theorem gv_open {μ : Mu} {H : Hp} {D : Addr} (hb : D ∈ μ.b) : Gv μ H ((μ.unbar D).add D) H := ⟨⟨[D], rfl⟩, fun a o e _ n => ⟨e, fun m => by
  rcases m with m | m
  · rcases List.mem_append.mp m with m | m
    · exact n (.inl m)
    · rw [List.mem_singleton.mp m] at n; exact n (.inr hb)
  · exact n (.inr (unbar_b.mp m).1)⟩⟩
theorem sr_open {K : KW} {μ : Mu} {st : Sto} {H : Hp} {D : Addr} {acc : List PV} {va : List V} (s : SR K μ st H) (hb : D ∈ μ.b) (hd : H D = some (.lst va)) (r : VRs K H μ acc va) : SR K ((μ.unbar D).add D) (st ++ [.lst acc]) H := by
  have nD := (s.ban D hb).1
  refine ⟨by simp [Mu.add, Mu.unbar, s.len], ?_, fun a m => ?_, fun n d a e1 e2 => ?_⟩
  · refine List.nodup_append.mpr ⟨s.nd, by simp, fun a ha b hb => ?_⟩
    rw [List.mem_singleton.mp hb]
    rintro rfl
    exact nD ha
  · obtain ⟨m1, m2⟩ := unbar_b.mp m
    refine ⟨fun z => ?_, (s.ban a m1).2⟩
    rcases List.mem_append.mp z with z | z
    · exact (s.ban a m1).1 z
    · exact m2 (List.mem_singleton.mp z)
  · have e2 : (μ.l ++ [D])[n]? = some a := e2
    by_cases hn : n < st.length
    · rw [List.getElem?_append_left hn] at e1
      rw [List.getElem?_append_left (by rw [s.len]; exact hn)] at e2
      exact (s.cell n d a e1 e2).monov (gv_open hb) rfl
    · rw [List.getElem?_append_right (by omega)] at e1
      rw [List.getElem?_append_right (by rw [s.len]; omega), s.len] at e2
      have e0 : n - st.length = 0 := by
        have := (List.getElem?_eq_some_iff.mp e1).1
        simp at this
        omega
      rw [e0] at e1 e2
      simp at e1 e2
      subst e1 e2
      exact ⟨va, hd, VRs.monov (gv_open hb) _ _ r⟩
theorem gr_open {K : KW} {μ0 μ : Mu} {st0 : Sto} {H0 H : Hp} {D : Addr} (s0 : SR K μ0 st0 H0) (hD : H0 D = none) (g : Gr μ0 H0 μ H) : Gr μ0 H0 ((μ.unbar D).add D) H := by
  have u := gr_unbar s0 hD g
  obtain ⟨t, e⟩ := g.pre
  refine ⟨⟨t ++ [D], by show μ.l ++ [D] = _; rw [e, List.append_assoc]⟩, u.ban, u.bnew, fun a m => ?_, g.keep, g.fz⟩
  rcases List.mem_append.mp m with m | m
  · exact g.new a m
  · rw [List.mem_singleton.mp m]; exact .inr hD
noncomputable def lcV (acc : List PV) : M PV := M.ret (.lst acc)
noncomputable def lcN (acc : List PV) : M PV := fun st => .ok (.loc st.length) (st ++ [.lst acc])
noncomputable def LcEnd (K : KW) (k : List PV → M PV) : Prop := ∀ (μ0 μ : Mu) (st0 st : Sto) (H0 H : Hp) (D : Addr) (acc : List PV) (va : List V) (E : XK) (Q : VK), SR K μ0 st0 H0 → H0 D = none → Gr μ0 H0 μ H → SR K μ st H → D ∈ μ.b → H D = some (.lst va) → VRs K H μ acc va →
  PostG K E (VR K) Q μ0 H0 (k acc st) → Q (.ref D) H
theorem lcV_end {K : KW} : LcEnd K lcV := fun μ0 μ st0 st H0 H D acc va E Q s0 hD g s hb hd r h =>
  h _ H _ (gr_unbar s0 hD g) (sr_unbar s) (show ∃ a vs, V.ref D = .ref a ∧ LstAt H (μ.unbar D) a vs ∧ VRs K H (μ.unbar D) acc vs from ⟨D, va, rfl, ⟨hd, fun m => by
    rcases m with m | m
    · exact (s.ban D hb).1 m
    · exact (unbar_b.mp m).2 rfl⟩, VRs.monov gv_unbar _ _ r⟩)
theorem lcN_end {K : KW} : LcEnd K lcN := fun μ0 μ st0 st H0 H D acc va E Q s0 hD g s hb hd r h =>
  h _ H _ (gr_open s0 hD g) (sr_open s hb hd r) (show ∃ a, V.ref D = .ref a ∧ ((μ.unbar D).add D).l[st.length]? = some a from ⟨D, rfl, by
    show (μ.l ++ [D])[st.length]? = some D
    rw [← s.len]; simp⟩)
noncomputable abbrev W0 : WX := fun _ _ _ _ => False
theorem lc_imp {K : KW} {E : XK} {Q : VK} {J : It} {ps : List PV} {g0 : TG} {g : GM} {t : Rho → M Bool} {e : Rho → M PV} {k : List PV → M PV} {vs : List Nat} {μ : Mu} {H : Hp} {σ : St} {ρ : Rho} {st : Sto} {D : Addr} (su : Sup K J ps μ H) (er : ER K H μ ρ σ) (sr : SR K μ st H) (tg : TGo K vs g0 g) (le : LcEnd K k)
    (hD : H D = none) (h : PostG K E (VR K) Q μ H (M.bind (lcL g t e (wipeP ρ vs) ps []) k st)) :
    ∃ V : Nat → Nat → Hp → Prop, (∃ m, V 0 m (upd H D (.lst []))) ∧ ∀ i m H, V i m H →
      (J.stop i H ∧ Q (.ref D) H) ∨ (J.go i H ∧ ∃ Nx : Hp → Prop, (∀ H', Nx H' → ∃ m', m' < m ∧ V (i + 1) m' H') ∧ ∀ x H', J.yld i H x H' → g0 x (L2.wipe σ vs) H' fun σ2 H2 => L2.wipe σ2 vs = L2.wipe σ vs ∧ tMT K W0 t σ2 H2 fun b H3 =>
        if b = true then tM K W0 e σ2 H3 fun y H4 => ∃ acc, H4 D = some (.lst acc) ∧ acc.length < sizeLine ∧ Nx (upd H4 D (.lst (acc ++ [y]))) else Nx H3) := by
  let P : Nat → Hp → Prop := fun i H' => ∃ μ' st' acc va, Gr μ H μ' H' ∧ SR K μ' st' H' ∧ D ∈ μ'.b ∧ H' D = some (.lst va) ∧ VRs K H' μ' acc va ∧ PostG K E (VR K) Q μ H (M.bind (lcL g t e (wipeP ρ vs) (ps.drop i) acc) k st')
  refine ⟨fun i m H' => m = ps.length - i ∧ i ≤ ps.length ∧ P i H', ⟨ps.length, by simp, Nat.zero_le _, ?_⟩, ?_⟩
  · have gb : Gr μ H (μ.bar D) (upd H D (.lst [])) := ⟨⟨[], by simp [Mu.bar]⟩, fun a m => List.mem_cons_of_mem _ m, fun a m => by
      rcases List.mem_cons.mp m with z | z
      · rw [z]; exact .inr hD
      · exact .inl z, fun a m => .inl m, fun a o q _ => by rw [upd_ne (ne_of_none q hD)]; exact q, fun a o u q => by rw [upd_ne (ne_of_none q hD)]; exact q⟩
    refine ⟨μ.bar D, st, [], [], gb, ?_, List.mem_cons_self, upd_same, rfl, by rw [List.drop_zero]; exact h⟩
    refine ⟨sr.len, sr.nd, fun a m => ?_, fun n c a e1 e2 => (sr.cell n c a e1 e2).mono gb (upd_ne fun z => ?_)⟩
    · rcases List.mem_cons.mp m with z | z
      · subst z
        exact ⟨fun q => sr.free hD (.inl q), _, upd_same⟩
      · obtain ⟨n1, o, q⟩ := sr.ban a z
        exact ⟨n1, o, by rw [upd_ne (ne_of_none q hD)]; exact q⟩
    · obtain ⟨u, q⟩ := (sr.cell n c a e1 e2).has
      rw [z, hD] at q; cases q
  · rintro i m H1 ⟨rfl, hi, μ1, st1, acc, va, g1, s1, b1, d1, r1, h1⟩
    by_cases hlt : i < ps.length
    · have hp : ps[i]? = some ps[i] := by simp [hlt]
      obtain ⟨go, yl⟩ := (su μ1 H1 st1 g1 s1).1 i ps[i] hp
      refine .inr ⟨go, P (i + 1), fun H' q => ⟨ps.length - (i + 1), by omega, rfl, hlt, q⟩, fun x H2 y => ?_⟩
      obtain ⟨g2, s2, rx⟩ := yl x H2 y
      have gg2 := g1.trans g2 fun a m => (s2.ban a m).1
      rw [List.drop_eq_getElem_cons hlt] at h1
      unfold lcL at h1
      rw [M.bind_assoc] at h1
      refine tg x _ H2 _ μ1 st1 _ ps[i] ((er.mono gg2).wipe vs) s2 rx ((PostG.calm (PostG.bindAt h1 gg2)).mono fun σ3 H3 ⟨μ3, st3, ρ3, g3, s3, ⟨e3, w3⟩, h3⟩ => ⟨w3.trans (wipe_wipe fun _ z => z), ?_⟩)
      have gg3 := gg2.trans g3 fun a m => (s3.ban a m).1
      rw [M.bind_assoc] at h3
      refine ⟨μ3, st3, ρ3, e3, s3, (PostG.calm (PostG.bindAt h3 gg3)).mono fun c H4 ⟨μ4, st4, c', g4, s4, ec, h4⟩ => ?_⟩
      subst ec
      have gg4 := gg3.trans g4 fun a m => (s4.ban a m).1
      have keepD : ∀ {μa μb : Mu} {Ha Hb : Hp} {sa : Sto} {w : List V}, Gr μa Ha μb Hb → SR K μa sa Ha → D ∈ μa.b → Ha D = some (.lst w) → Hb D = some (.lst w) := fun g s m q => g.keep D _ q (s.ban D m).1
      have d2 := keepD g2 s1 b1 d1
      have b2 := g2.ban D b1
      have d3 := keepD g3 s2 b2 d2
      have b3 := g3.ban D b2
      have d4 := keepD g4 s3 b3 d3
      have b4 := g4.ban D b3
      have r4 : VRs K H4 μ4 acc va := VRs.mono g4 _ _ (VRs.mono g3 _ _ (VRs.mono g2 _ _ r1))
      cases c' with
      | false =>
        rw [if_neg Bool.false_ne_true] at h4 ⊢
        exact ⟨μ4, st4, acc, va, gg4, s4, b4, d4, r4, h4⟩
      | true =>
        rw [if_pos rfl] at h4 ⊢
        rw [M.bind_assoc] at h4
        refine ⟨μ4, st4, ρ3, e3.mono g4, s4, (PostG.calm (PostG.bindAt h4 gg4)).mono fun w H5 ⟨μ5, st5, py, g5, s5, rw5, h5⟩ => ?_⟩
        have gg5 := gg4.trans g5 fun a m => (s5.ban a m).1
        have d5 := keepD g5 s4 b4 d4
        have b5 := g5.ban D b4
        have r5 : VRs K H5 μ5 acc va := VRs.mono g5 _ _ r4
        by_cases hz : acc.length < SZ
        · rw [if_pos hz] at h5
          refine ⟨va, d5, by rw [← VRs.length r5, sz_eq]; exact hz, μ5, st5, acc ++ [py], va ++ [w], ?_, sr_bar b5 s5, b5, upd_same, VRs.monov (gv_bar b5) _ _ (VRs.append r5 (VRs.cons rw5 VRs.nil)), h5⟩
          exact ⟨gg5.pre, gg5.ban, gg5.bnew, gg5.new, fun a o q n => by rw [upd_ne (ne_of_none q hD)]; exact gg5.keep a o q n, fun a o u q => by rw [upd_ne (ne_of_none q hD)]; exact gg5.fz a o u q⟩
        · rw [if_neg hz] at h5
          exact h5.elim
    · have ei : i = ps.length := by omega
      subst ei
      rw [List.drop_length] at h1
      exact .inl ⟨(su μ1 H1 st1 g1 s1).2, le μ μ1 st st1 H H1 D acc va E Q sr hD g1 s1 b1 d1 r1 h1⟩
noncomputable def eLc (k : List PV → M PV) (mi : Rho → M (List PV)) (g : GM) (t : Rho → M Bool) (e : Rho → M PV) (vs : List Nat) : Rho → M PV := fun ρ => M.bind (mi ρ) fun ps => M.bind (lcL g t e (wipeP ρ vs) ps []) k
noncomputable def tYesM : Rho → M Bool := fun _ => M.ret true
noncomputable def MTs (X : Cx) (W : WX) (ifs : List Expr) (m : Rho → M Bool) : Prop := PTs X ifs (tMT (kw X) W m)
section
variable {X : Cx} {W : WX}
theorem PTs.imp {ifs : List Expr} {t t' : TT} (h : PTs X ifs t) (i : ∀ σ H Q, t' σ H Q → t σ H Q) : PTs X ifs t' := ⟨fun pins s σ H Q I q => h.run pins s σ H Q I (i σ H Q q)⟩
theorem mts_nil : MTs X W [] tYesM := PTs.imp pts_nil fun σ H Q ⟨μ, st, ρ, er, sr, h⟩ => h μ H true (Gr.refl _ _) sr rfl
theorem mts_one {c : Expr} {m : Rho → M Bool} (h : MT X W c m) : MTs X W [c] m := pts_one h
theorem lc_tie {mi : Rho → M (List PV)} {g0 : TG} {g : GM} {t : Rho → M Bool} {e : Rho → M PV} {k : List PV → M PV} {vs : List Nat} (tg : TGo (kw X) vs g0 g) (le : LcEnd (kw X) k) : ∀ σ H Q, tM (kw X) W (eLc k mi g t e vs) σ H Q → tLc (tMI (kw X) W mi) g0 (tMT (kw X) W0 t) (tM (kw X) W0 e) vs σ H Q :=
  fun σ H Q ⟨μ, st, ρ, er, sr, h⟩ => ⟨μ, st, ρ, er, sr, (PostG.bind h).mono fun J H1 ⟨μ1, st1, ps, g1, s1, su, h1⟩ D hD => lc_imp su (er.mono g1) s1 tg le hD h1⟩
theorem me_lc {elt tgt iter : Expr} {ifs : List Expr} {scope : Scope} {own : List (Str × Nat)} {pos : Pos} {mi : Rho → M (List PV)} {g0 : TG} {g : GM} {t : Rho → M Bool} {e : Rho → M PV} {k : List PV → M PV} (hc : X.calm = true) (hN : X.N.Nodup) (hi : MI X W tgt iter mi) (ok : BlkOk X.N X.env.scope scope own) (tg : TGo (kw X) (own.map (·.2)) g0 g) (le : LcEnd (kw X) k)
    (hg : ∀ (s : Shared) (H : Hp) (C : Addr) (cl : List (Str × Addr)) (fp : List Addr), PG (X.blk s H scope (compEnvC scope cl C X.env) fp) tgt g0)
    (ht : ∀ (s : Shared) (H : Hp) (C : Addr) (cl : List (Str × Addr)) (fp : List Addr), MTs (X.blk s H scope (compEnvC scope cl C X.env) fp) W0 ifs t)
    (he : ∀ (s : Shared) (H : Hp) (C : Addr) (cl : List (Str × Addr)) (fp : List Addr), ME (X.blk s H scope (compEnvC scope cl C X.env) fp) W0 elt e) (hs : ∀ x, foldedSetIterable iter X.env x = pure x := by intro _; kernel_rfl) :
    ME X W (.ListComp elt [⟨tgt, iter, ifs, 0⟩] scope pos) (eLc k mi g t e (own.map (·.2))) := PE.imp (pe_lc (tt := tMT (kw X) W0 t) (te := tM (kw X) W0 e) hc hN hi ok hg ht he hs) (lc_tie tg le)
theorem ms_setLc {i : Nat} {y : Str} {py spos : Pos} {elt tgt iter : Expr} {ifs : List Expr} {scope : Scope} {own : List (Str × Nat)} {pos : Pos} {mi : Rho → M (List PV)} {g0 : TG} {g : GM} {t : Rho → M Bool} {e : Rho → M PV} {k : List PV → M PV} (hc : X.calm = true) (hN : X.N.Nodup) (hy : X.N[i]? = some y) (hyl : X.env.scope.names.lookup y = some .local)
    (hsw : swapsWith (.ListComp elt [⟨tgt, iter, ifs, 0⟩] scope pos) (some (.Name y py)) spos.line X.env = pure true) (hi : MI X W tgt iter mi) (ok : BlkOk X.N X.env.scope scope own) (tg : TGo (kw X) (own.map (·.2)) g0 g) (le : LcEnd (kw X) k)
    (hg : ∀ (s : Shared) (H : Hp) (C : Addr) (cl : List (Str × Addr)) (fp : List Addr), PG (X.blk s H scope (compEnvC scope cl C X.env) fp) tgt g0)
    (ht : ∀ (s : Shared) (H : Hp) (C : Addr) (cl : List (Str × Addr)) (fp : List Addr), MTs (X.blk s H scope (compEnvC scope cl C X.env) fp) W0 ifs t)
    (he : ∀ (s : Shared) (H : Hp) (C : Addr) (cl : List (Str × Addr)) (fp : List Addr), ME (X.blk s H scope (compEnvC scope cl C X.env) fp) W0 elt e) (hs : ∀ x, foldedSetIterable iter X.env x = pure x := by intro _; kernel_rfl) :
    MS X W (.Assign [.Name y py] (.ListComp elt [⟨tgt, iter, ifs, 0⟩] scope pos) spos) (sSet i (eLc k mi g t e (own.map (·.2)))) := PS.imp (ps_setLc (tt := tMT (kw X) W0 t) (te := tM (kw X) W0 e) hc hN hy hyl hsw hi ok hg ht he hs) fun D σ H ⟨μ, st, ρ, er, sr, h⟩ =>
      lc_tie tg le σ H _ ⟨μ, st, ρ, er, sr, (PostS.onErr h er).mono fun u H1 ⟨μ1, st1, x, g1, s1, rx, h1⟩ => h1 μ1 H1 _ (Gr.refl _ _) s1 ((er.mono g1).set rx i)⟩
end
end MP

set_option maxRecDepth 100000
set_option maxHeartbeats 1000000
namespace MP
open PySem L2
section
variable {X : Cx} {W : WX} {e : Expr} {pos : Pos} {me : Rho → M PV}
theorem ms_s {i : Nat} {x : Str} {pos' : Pos} (hN : X.N.Nodup) (he : ME X W e me) (hi : X.N[i]? = some x := by kernel_rfl) (hx : Loc X.env.scope x := by first | exact Or.inl rfl | exact Or.inr rfl) (hs : swapsWith e (some (.Name x pos')) pos.line X.env = pure false := by kernel_rfl)
    (hf : X.fn x = true ∨ X.env.scope.names.lookup x = some .local := by first | exact .inl rfl | exact .inr rfl) : MS X W (.Assign [.Name x pos'] e pos) (sSet i me) := ms_set hN hi hx he hs hf
theorem mg_n {i : Nat} {x : Str} (hN : X.N.Nodup) (hi : X.N[i]? = some x := by kernel_rfl) (hx : Loc X.env.scope x := by first | exact Or.inl rfl | exact Or.inr rfl) (hf : X.fn x = true ∨ X.env.scope.names.lookup x = some .local := by first | exact .inl rfl | exact .inr rfl) : MG X W (.Name x pos) (gN i) := mg_name hN hi hx hf
theorem pg_n {i : Nat} {x : Str} (hN : X.N.Nodup) (hi : X.N[i]? = some x := by kernel_rfl) (hx : Loc X.env.scope x := by first | exact Or.inl rfl | exact Or.inr rfl) (hf : X.fn x = true ∨ X.env.scope.names.lookup x = some .local := by first | exact .inl rfl | exact .inr rfl) : PG X (.Name x pos) (gName i) := pg_name hN hi hx hf
end
noncomputable def tyC (T : String) (x : PV) : M Unit := fun st => match x with
  | .str _ => if T = "str" then .ok () st else .bad
  | x => match listOf x st with
    | some _ => if T = "list" then .ok () st else .bad
    | none => match dctOf x st with
      | some _ => if T = "dict" then .ok () st else .bad
      | none => .bad
theorem tyC_at {K : KW} {H : Hp} {μ : Mu} {st st' : Sto} {T : String} {x : PV} {v : V} (sr : SR K μ st H) (r : VR K H μ x v) (h : tyC T x st = .ok () st') : tyV K T v H ∧ st' = st := by
  have l : ∀ xs, listOf x st = some xs → (if T = "list" then (Res.ok () st) else Res.bad) = .ok () st' → tyV K T v H ∧ st' = st := by
    intro xs hl h
    obtain ⟨a, vs, rfl, h1, _⟩ := listOf_at sr r hl
    by_cases hT : T = "list"
    · rw [if_pos hT] at h
      cases h
      exact ⟨.inl ⟨hT, vs, SqL.of h1⟩, rfl⟩
    · rw [if_neg hT] at h
      cases h
  have d : ∀ kvs, dctOf x st = some kvs → (if T = "dict" then (Res.ok () st) else Res.bad) = .ok () st' → tyV K T v H ∧ st' = st := by
    intro kvs hl h
    obtain ⟨n, a, kv, _, rfl, _, _, h1, _⟩ := dctOf_at sr r hl
    by_cases hT : T = "dict"
    · rw [if_pos hT] at h
      cases h
      exact ⟨.inr (.inr (.inl ⟨hT, .inl ⟨kv, h1⟩⟩)), rfl⟩
    · rw [if_neg hT] at h
      cases h
  have dflt : (match listOf x st with
    | some _ => if T = "list" then Res.ok () st else Res.bad
    | none => match dctOf x st with
      | some _ => if T = "dict" then Res.ok () st else Res.bad
      | none => Res.bad) = .ok () st' → tyV K T v H ∧ st' = st := by
    intro h
    cases q : listOf x st with
    | some xs => rw [q] at h; exact l xs q h
    | none =>
      rw [q] at h
      dsimp only at h
      cases q2 : dctOf x st with
      | some kvs => rw [q2] at h; exact d kvs q2 h
      | none => rw [q2] at h; cases h
  cases x with
  | str z =>
    cases (show v = V.str ⟨z.toArray⟩ from r)
    unfold tyC at h
    dsimp only at h
    by_cases hT : T = "str"
    · rw [if_pos hT] at h
      cases h
      exact ⟨hT, rfl⟩
    · rw [if_neg hT] at h
      cases h
  | _ => exact dflt h
noncomputable def eMeth (T : String) (f : PV → List PV → M PV) (mo : Rho → M PV) (ma : Rho → M (List PV)) : Rho → M PV := fun ρ => M.bind (mo ρ) fun o => M.bind (tyC T o) fun _ => M.bind (ma ρ) fun xs => f o xs
noncomputable def TMe (K : KW) (r : V → List V → Hp → VK → Prop) (f : PV → List PV → M PV) : Prop := ∀ (μ : Mu) (st : Sto) (H : Hp) (o : PV) (xs : List PV) (u : V) (us : List V) (E : XK) (Q : VK), SR K μ st H → VR K H μ o u → VRs K H μ xs us → PostG K E (VR K) Q μ H (f o xs st) → r u us H Q
section
variable {X : Cx} {W : WX} {o e : Expr} {es : List Expr} {name : Str} {apos cpos : Pos} {T id : String} {r : V → List V → Hp → VK → Prop} {f : PV → List PV → M PV} {mo : Rho → M PV} {ma : Rho → M (List PV)}
theorem meth_ty {μ : Mu} {st : Sto} {H : Hp} {x : PV} {v : V} {α β : Type} {E : XK} {R : Hp → Mu → α → β → Prop} {Q : β → Hp → Prop} {k : Unit → M α} (sr : SR (kw X) μ st H) (rx : VR X.K H μ x v) (h : PostG (kw X) E R Q μ H (M.bind (tyC T x) k st)) : tyV X.K T v H ∧ PostG (kw X) E R Q μ H (k () st) := by
  unfold M.bind at h
  cases q : tyC T x st with
  | ok a st' =>
    rw [q] at h
    obtain ⟨h1, rfl⟩ := tyC_at sr rx q
    exact ⟨h1, h⟩
  | err y st' =>
    exfalso
    unfold tyC at q
    repeat (first | split at q | cases q)
  | bad => rw [q] at h; exact h.elim
theorem me_meth (pa : PySem.PlainAttrs T) (slot : PySem.Slot T name id) (hty : typeOf (.builtin id) = pure (.type "method_descriptor")) (hm : MtR X id r) (t : TMe (kw X) r f) (ho : ME X W o mo) (ha : MA X W (e :: es) ma)
    (hbase : attributeBase o name X.env (eval o X.env) = eval o X.env := by kernel_rfl)
    (hfew : ((backTo cpos (starEach (e :: es) X.env)).all (fun x => !x.1) && (backToKw cpos (keywordEach [] X.env)).all (fun x => x.1.isSome)
      && decide ((e :: es).length + ([] : List Keyword).length + (if ([] : List Keyword).isEmpty then 0 else 1) < 30)) = true := by kernel_rfl)
    (hline : (apos.endLine == cpos.line) = true := by kernel_rfl) (hs : starEach (e :: es) X.env = (false, eval e X.env) :: starEach es X.env := by kernel_rfl) (hplain : (backTo cpos (starEach es X.env)).any (·.1) = false := by kernel_rfl) :
    ME X W (.Call (.Attribute o name apos) (e :: es) [] cpos) (eMeth T f mo ma) :=
  PE.imp (pe_bm pa slot hty hm ho ha hbase hfew hline hs hplain) fun σ H Q ⟨μ, st, ρ, er, sr, h⟩ => ⟨μ, st, ρ, er, sr, (PostG.bind h).mono fun u H1 ⟨μ1, st1, x, g1, s1, rx, h1⟩ => by
    obtain ⟨h2, h3⟩ := meth_ty s1 rx h1
    exact ⟨h2, μ1, st1, ρ, er.mono g1, s1, (PostG.bind h3).mono fun us H2 ⟨μ2, st2, xs, g2, s2, rxs, h4⟩ => t μ2 st2 H2 x xs u us _ Q s2 (VR.mono g2 x u rx) rxs h4⟩⟩
end
noncomputable def lstCell (o : PV) (st : Sto) : Option (Nat × List PV) := match o with
  | .loc n => match st[n]? with
    | some (.lst xs) => some (n, xs)
    | _ => none
  | _ => none
theorem lstCell_at {K : KW} {H : Hp} {μ : Mu} {st : Sto} {x : PV} {v : V} {n : Nat} {xs : List PV} (sr : SR K μ st H) (r : VR K H μ x v) (h : lstCell x st = some (n, xs)) : ∃ a vs, v = .ref a ∧ μ.l[n]? = some a ∧ H a = some (.lst vs) ∧ VRs K H μ xs vs := by
  cases x with
  | loc m =>
    obtain ⟨a, rfl, ha⟩ := loc_at r
    unfold lstCell at h
    dsimp only at h
    cases q : st[m]? with
    | none => rw [q] at h; cases h
    | some c =>
      rw [q] at h
      cases c with
      | lst ys =>
        cases h
        obtain ⟨vs, h1, h2⟩ := sr.cell n _ a q ha
        exact ⟨a, vs, rfl, ha, h1, h2⟩
      | dct kvs => cases h
      | ins C fs => cases h
      | dcl kvs => cases h
      | dcn kvs => cases h
      | lck kvs => cases h
  | _ => cases h
noncomputable def appendM (o : PV) (xs : List PV) : M PV := fun st => match lstCell o st with
  | some (n, ys) => match xs with
    | [x] => if ys.length < SZ then .ok .non (st.set n (.lst (ys ++ [x]))) else .bad
    | _ => .bad
  | none => .bad
theorem t_append {K : KW} : TMe K rAppend appendM := by
  intro μ st H o xs u us E Q sr ro rs h
  unfold appendM at h
  cases q : lstCell o st with
  | none => rw [q] at h; exact h.elim
  | some p =>
    obtain ⟨n, ys⟩ := p
    rw [q] at h
    dsimp only at h
    cases xs with
    | nil => exact h.elim
    | cons x t =>
      cases t with
      | cons y t => exact h.elim
      | nil =>
        dsimp only at h
        by_cases hz : ys.length < SZ
        · rw [if_pos hz] at h
          obtain ⟨a, vs, rfl, ha, h1, h2⟩ := lstCell_at sr ro q
          obtain ⟨w, rfl, rw'⟩ := one_of rs
          refine ⟨a, vs, w, rfl, rfl, h1, by rw [← VRs.length h2, sz_eq]; exact hz, ?_⟩
          exact h μ _ .non (gr_put ha h1 rfl) (sr.put ha ⟨_, upd_same, VRs.monov (gv_put ha) _ _ (VRs.append h2 (VRs.cons rw' VRs.nil))⟩) rfl
        · rw [if_neg hz] at h
          exact h.elim
section
variable {X : Cx} {W : WX} {o e : Expr} {apos cpos : Pos} {mo : Rho → M PV} {ma : Rho → M (List PV)}
theorem me_append (ho : ME X W o mo) (ha : MA X W [e] ma)
    (hbase : attributeBase o "append" X.env (eval o X.env) = eval o X.env := by kernel_rfl)
    (hfew : ((backTo cpos (starEach [e] X.env)).all (fun x => !x.1) && (backToKw cpos (keywordEach [] X.env)).all (fun x => x.1.isSome)
      && decide ([e].length + ([] : List Keyword).length + (if ([] : List Keyword).isEmpty then 0 else 1) < 30)) = true := by kernel_rfl)
    (hline : (apos.endLine == cpos.line) = true := by kernel_rfl) (hs : starEach [e] X.env = (false, eval e X.env) :: starEach [] X.env := by kernel_rfl) :
    ME X W (.Call (.Attribute o "append" apos) [e] [] cpos) (eMeth "list" appendM mo ma) :=
  me_meth PySem.F.plainAttrs_list PySem.F.slot_list_append PySem.F.type_list_append mt_append t_append ho ha hbase hfew hline hs rfl
end
theorem FnOk.ex {P : Program} {w : World} {K : PySem.W.Frag} {mg : Str → Option Value} {base : Heap} {CX : CXT} {k : Nat} {f : Addr} {fd : FuncData} {ps : List Str} {sp : Nat → Sp} (F : ∀ n, FnOk P w K mg base CX k f fd ps (sp n)) : FnOk P w K mg base CX k f fd ps (fun vs H Q E => ∃ n, sp n vs H Q E) :=
  ⟨fun vs H Q E ⟨n, h⟩ => (F n).len vs H Q E h, fun A outer s H args us vs Q E hr he hb hv ⟨n, h⟩ => (F n).run A outer s H args us vs Q E hr he hb hv h⟩
theorem law_sp {K : KW} {m : Nat → List PV → M PV} {ns : List Int} {n : Nat} {st : Sto} {H : Hp} {a : Addr} (hS : SqL K H a (ns.map V.int)) (h : m n [.frz (ns.map .int)] [] = .ok (.bl true) st) :
    ∃ n, spM K (m n) 1 [.ref a] H (fun v _ => v = .bl true) (fun _ _ _ => False) := by
  refine ⟨n, ⟨[], []⟩, [], [.frz (ns.map .int)], ⟨rfl, List.nodup_nil, fun a m => (nomatch m), fun n c a e => by simp at e⟩, VRs.cons ?_ VRs.nil, rfl, ?_⟩
  · refine (show ∃ b vs, V.ref a = .ref b ∧ FrzAt K H ⟨[], []⟩ b vs ∧ VRs K H ⟨[], []⟩ (ns.map .int) vs from ⟨a, _, rfl, ?_, VRs.ints⟩)
    rcases hS with hS | hS
    · exact .inl ⟨hS, fun m => by rcases m with m | m <;> exact (nomatch m)⟩
    · exact .inr hS
  · rw [h]
    exact fun μ' H' b g s r => r
theorem cx_false {P : Program} {w : World} (H : Hp) (s : Shared) (e : Value) (s' : Shared) (h : L2.CX P w [] H s (fun _ _ _ => False) e s') : False := by
  obtain ⟨_, _, _, _, _, _, _, _, _, _, _, _, z⟩ := h
  exact z.elim
end MP

set_option maxRecDepth 100000
set_option maxHeartbeats 1000000
namespace MP
open PySem L2
section
variable {X : Cx} {W : WX} {e a b c : Expr} {pos : Pos} {me : Rho → M PV}
noncomputable def KV1 (K : PySem.W.Frag) (p : PV) (u : Value) : Prop := ∃ v, RelV v u ∧ ∀ H μ, VR K H μ p v
noncomputable def KVs (K : PySem.W.Frag) : List PV → List Value → Prop
  | [], us => us = []
  | p :: ps, us => ∃ u t, us = u :: t ∧ KV1 K p u ∧ KVs K ps t
theorem KVs.vals {K : PySem.W.Frag} : ∀ {ps : List PV} {us : List Value}, KVs K ps us → ∃ vs, Vals vs us ∧ ∀ H μ, VRs K H μ ps vs
  | [], us, h => by have e : us = [] := h; subst e; exact ⟨[], .nil, fun _ _ => rfl⟩
  | p :: ps, us, h => by
    obtain ⟨u, t, rfl, ⟨v, r, hv⟩, ht⟩ := h
    obtain ⟨vs, r2, h2⟩ := KVs.vals ht
    exact ⟨v :: vs, .cons r r2, fun H μ => VRs.cons (hv H μ) (h2 H μ)⟩
noncomputable def TupIn (K : PySem.W.Frag) (a : Addr) (ps : List PV) : Prop := ∃ (o : Obj) (its : List Value) (n : Nat), K.lookup a = some o ∧ o.cls = .type "tuple" ∧ o.data = .seq its.toArray n ∧ its.length ≤ SZ ∧ KVs K ps its
theorem TupIn.kt {K : PySem.W.Frag} {a : Addr} {ps : List PV} (h : TupIn K a ps) : ∃ vs, KT K a vs ∧ ∀ H μ, VRs K H μ ps vs := by
  obtain ⟨o, its, n, h1, h2, h3, h4, h5⟩ := h
  obtain ⟨vs, r, hv⟩ := KVs.vals h5
  exact ⟨vs, ⟨o, its.toArray, n, h1, h2, h3, by rw [List.size_toArray, sz_eq]; exact h4, by simpa using r⟩, hv⟩
theorem TupIn.val {K : PySem.W.Frag} {a : Addr} {ps : List PV} (h : TupIn K a ps) : KV1 K (.tup ps) (.ref a) := by
  obtain ⟨vs, kt, hv⟩ := h.kt
  exact ⟨.ref a, rfl, fun H μ => (show ∃ b ws, V.ref a = .ref b ∧ TupAt K H μ b ws ∧ VRs K H μ ps ws from ⟨a, vs, rfl, .inr kt, hv H μ⟩)⟩
noncomputable def RowsT (K : PySem.W.Frag) : List (List Nat × PV) → List DictEntry → Prop
  | [], es => es = []
  | p :: r, es => ∃ e t, es = e :: t ∧ (∃ tk, e.key = .str ⟨p.1.toArray⟩ tk) ∧ KV1 K p.2 e.val ∧ RowsT K r t
noncomputable def TabIn (w : World) (K : PySem.W.Frag) (a : Addr) (tab : List (List Nat × PV)) : Prop := ∃ (es : List DictEntry) (n : Nat), K.lookup a = some ⟨.type "dict", none, .dict es.toArray n, #[]⟩ ∧ PySem.W.KeysLit w.params es ∧ (a == sysModules) = false ∧ RowsT K tab es
noncomputable def TabAt (w : World) (K : PySem.W.Frag) (mg : Str → Option Value) (x : Str) (tab : List (List Nat × PV)) : Prop := ∃ a, mg x = some (.ref a) ∧ TabIn w K a tab
noncomputable def lookT : List (List Nat × PV) → List Nat → Option PV
  | [], _ => none
  | p :: r, k => if p.1 = k then some p.2 else lookT r k
theorem RowsT.find {K : PySem.W.Frag} {z : List Nat} : ∀ {tab : List (List Nat × PV)} {es : List DictEntry}, RowsT K tab es → (lookT tab z = none → (es.find? fun e => Value.isStrOf ⟨z.toArray⟩ e.key) = none) ∧ ∀ p, lookT tab z = some p → ∃ e, (es.find? fun e => Value.isStrOf ⟨z.toArray⟩ e.key) = some e ∧ KV1 K p e.val
  | [], es, h => by have e : es = [] := h; subst e; exact ⟨fun _ => rfl, fun p q => (nomatch q)⟩
  | q :: r, es, h => by
    obtain ⟨e, t, rfl, ⟨tk, ek⟩, hv, hr⟩ := h
    obtain ⟨i1, i2⟩ := RowsT.find (z := z) hr
    have hk : Value.isStrOf ⟨z.toArray⟩ e.key = decide (q.1 = z) := by
      rw [ek]
      show ((⟨q.1.toArray⟩ : Str) == ⟨z.toArray⟩) = decide (q.1 = z)
      rw [Bool.eq_iff_iff]
      simp
    unfold lookT
    rw [List.find?_cons, hk]
    by_cases hq : q.1 = z
    · rw [if_pos hq, decide_eq_true hq]
      exact ⟨fun z => (nomatch z), fun p hp => by cases hp; exact ⟨e, rfl, hv⟩⟩
    · rw [if_neg hq, decide_eq_false hq]
      exact ⟨i1, i2⟩
noncomputable def getTab (tab : List (List Nat × PV)) (x : PV) : M PV := match x with
  | .str z => M.ret ((lookT tab z).getD .non)
  | _ => M.fail
theorem me_getTab {x : Str} {tab : List (List Nat × PV)} {p apos : Pos} (hm : TabAt X.w X.K X.mg x tab) (he : ME X W e me) (hg : Gl X x := by exact gl_of (by kernel_rfl)) (hd : (x == ("__debug__" : Str)) = false := by kernel_rfl)
    (m : M1 X (.Name x p) "get" apos e pos := by exact ⟨by kernel_rfl, by kernel_rfl, by kernel_rfl, by kernel_rfl⟩) : ME X W (.Call (.Attribute (.Name x p) "get" apos) [e] [] pos) (eUn (getTab tab) me) := by
  obtain ⟨a, h1, es, n, hl, hk, low, rows⟩ := hm
  refine PE.imp (t := fun σ H Q => tM (kw X) W me σ H fun y H2 => ∃ z, y = .str z ∧ ∀ v, RelV v ((PySem.findBy Value.isStrOf es.toArray z).getD .none) → Q v H2) ⟨fun pins s σ H Q I h => ?_⟩ fun σ H Q ⟨μ, st, ρ, er, sr, h⟩ => ⟨μ, st, ρ, er, sr, (PostG.bind h).mono fun u H1 ⟨μ1, st1, y, g1, s1, ry, h1⟩ => ?_⟩
  · refine wpAny_Call_method m.base m.few m.line PySem.F.plainAttrs_dict PySem.F.slot_dict_get PySem.F.type_dict_get (ld_glob I hg h1 ?_ hd)
    have mp := PySem.W.mapOf_K (prog := X.prog) (w := X.w) I.kIn hl (by simpa using hk)
    refine ⟨mp.typeIs, fun b q => by cases q; exact ⟨_, I.kIn _ _ hl, rfl⟩, ?_⟩
    rw [m.trees]
    refine Calls.callWith_builtin rfl (Calls.evalArgs_plain (Calls.spliced_cons (thn (he.run pins s σ H _ I h) fun iv s2 ⟨y, H2, I2, ry, z, ey, q2⟩ => Calls.spliced_nil ?_)))
    subst ey
    obtain ⟨t, rfl⟩ := ry
    have mp2 := PySem.W.mapOf_K (prog := X.prog) (w := X.w) I2.kIn hl (by simpa using hk)
    refine call_meetsIn PySem.F.slot_dict_get mp2.typeIs PySem.F.entry_dict_get (PySem.F.args_dict_get_2 _ _) (meets_dict_get (strKind X.prog X.w) a (strKind_is X.prog X.w z t) low) ⟨_, mp2, ?_⟩
    have fr : ∃ v, RelV v ((PySem.findBy Value.isStrOf es.toArray z).getD .none) := by
      have q := RowsT.find (z := z.cps.toList) rows
      have ez : (⟨z.cps.toList.toArray⟩ : Str) = z := by simp
      rw [ez] at q
      unfold PySem.findBy
      rw [List.find?_toArray]
      cases hq : lookT tab z.cps.toList with
      | none => rw [q.1 hq]; exact ⟨.non, rfl⟩
      | some p =>
        obtain ⟨e, e1, v, r, _⟩ := q.2 p hq
        rw [e1]
        exact ⟨v, r⟩
    obtain ⟨v, rv⟩ := fr
    exact ⟨v, H2, I2.tok _, rv, q2 v rv⟩
  · cases y with
    | str z =>
      refine ⟨⟨z.toArray⟩, ry, fun v rv => ?_⟩
      have q := RowsT.find (z := z) rows
      unfold PySem.findBy at rv
      rw [List.find?_toArray] at rv
      have h2 : PostG (kw X) (fun c d H' => W c d σ H') (VR X.K) Q μ1 H1 (.ok ((lookT tab z).getD .non) st1) := h1
      cases hq : lookT tab z with
      | none =>
        rw [q.1 hq] at rv
        rw [hq] at h2
        have ev : v = .non := RelV.inj rv (show RelV .non Value.none from rfl)
        subst ev
        exact post_same h2 s1 rfl
      | some p =>
        obtain ⟨e, e1, v', r, hv⟩ := q.2 p hq
        rw [e1] at rv
        rw [hq] at h2
        have ev : v = v' := RelV.inj rv r
        subst ev
        exact post_same h2 s1 (hv H1 μ1)
    | _ => exact h1.elim
noncomputable def eChain (f g : PV → PV → M PV) (ma mb mc : Rho → M PV) : Rho → M PV := fun ρ => M.bind (ma ρ) fun x => M.bind (mb ρ) fun y => M.bind (f x y) fun z => M.bind (asB z) fun k => if k = true then M.bind (mc ρ) fun w => g y w else M.ret (.bl false)
variable {ma mb mc : Rho → M PV} {f g : PV → PV → M PV} {r r' : R2}
end
end MP

set_option maxRecDepth 100000
set_option maxHeartbeats 1000000
namespace MP
open PySem L2
section
variable {w : World} {K : PySem.W.Frag} {a : Addr}
theorem TabIn.of {es : Array DictEntry} {n : Nat} {tab : List (List Nat × PV)} (hl : K.lookup a = some ⟨.type "dict", none, .dict es n, #[]⟩) (hk : PySem.W.KeysLit w.params es.toList) (low : (a == sysModules) = false) (rows : RowsT K tab es.toList) : TabIn w K a tab := ⟨es.toList, n, by simpa using hl, hk, low, rows⟩
theorem RowsT.nil : RowsT K [] [] := rfl
theorem RowsT.row {s : String} {l : List Nat} {p : PV} {r : List (List Nat × PV)} {h : Int} {tk : Tok} {v : Value} {es : List DictEntry} (e : Str.ofString s = ⟨l.toArray⟩) (hv : KV1 K p v) (hr : RowsT K r es) : RowsT K ((l, p) :: r) (⟨h, .str (Str.ofString s) tk, v⟩ :: es) :=
  ⟨_, _, rfl, ⟨tk, by rw [e]⟩, hv, hr⟩
theorem KV1.non : KV1 K .non Value.none := ⟨.non, rfl, fun _ _ => rfl⟩
theorem KV1.bl {b : Bool} : KV1 K (.bl b) (Value.bool b) := ⟨.bl b, rfl, fun _ _ => rfl⟩
theorem KV1.int {i : Int} {t : Tok} : KV1 K (.int i) (Value.int i t) := ⟨.int i, ⟨t, rfl⟩, fun _ _ => rfl⟩
theorem KV1.str {l : List Nat} {s : String} {t : Tok} (e : Str.ofString s = ⟨l.toArray⟩) : KV1 K (.str l) (Value.str (Str.ofString s) t) := ⟨.str ⟨l.toArray⟩, ⟨t, by rw [e]⟩, fun _ _ => rfl⟩
theorem KVs.nil : KVs K [] [] := rfl
theorem KVs.cons {p : PV} {ps : List PV} {v : Value} {vs : List Value} (h : KV1 K p v) (r : KVs K ps vs) : KVs K (p :: ps) (v :: vs) := ⟨v, vs, rfl, h, r⟩
theorem TupIn.of {its : Array Value} {n : Nat} {dd : Option Addr} {sl : Array (Option Value)} {ps : List PV} (hl : K.lookup a = some ⟨.type "tuple", dd, .seq its n, sl⟩) (hn : its.toList.length ≤ SZ) (hv : KVs K ps its.toList) : TupIn K a ps := ⟨_, its.toList, n, hl, rfl, by simp, hn, hv⟩
end
theorem def_okF {P : Program} {w : World} {K : PySem.W.Frag} {mg : Str → Option Value} {base : Heap} {x qual : Str} {st : Stmt} {f : Addr} {fd : FuncData} (N ps : List Str) {k kk nn : Nat} (m : Rho → M Fl) {g : List PV → M PV} (hg : g = runB m kk) (hN : N.length = kk) (hn : ps.length = nn) (F : Fun K x qual st f fd) (S : FnScope N ps (defScope st))
    (hb : ∀ (cdv : Value) (A : Around) (outer : List Env) (s : Shared) (H : Hp) (E : XK), Room k (A.deeper (PyProof.Rows.envOfC qual (defScope st) s.heap.objs.size f cdv)) →
      MSs (cxOf (L2.CX P w) P w K mg base N qual (defScope st) f cdv A outer s H E) (fun c d _ H => E c d H) (defBody st) m) :
    FnOk P w K mg base (L2.CX P w) (k + 1) f fd ps (spM ⟨w, K⟩ g nn) := by
  subst hg hN hn
  exact def_ok F S hb
end MP

set_option maxRecDepth 100000
set_option maxHeartbeats 1000000
namespace MP
open PySem L2
noncomputable def strsOf : List PV → Option (List (List Nat))
  | [] => some []
  | .str z :: r => (strsOf r).map (z :: ·)
  | _ :: _ => none
theorem strsOf_at {K : PySem.W.Frag} {H : Hp} {μ : Mu} : ∀ {ps : List PV} {vs : List V} {zs : List (List Nat)}, VRs K H μ ps vs → strsOf ps = some zs → vs = (zs.map SX.S).map V.str
  | [], vs, zs, r, h => by cases h; exact r
  | p :: ps, vs, zs, r, h => by
    obtain ⟨v, t, rfl, r1, r2⟩ := (show ∃ v t, vs = v :: t ∧ VR K H μ p v ∧ VRs K H μ ps t from r)
    cases p with
    | str b =>
      unfold strsOf at h
      cases q : strsOf ps with
      | none => rw [q] at h; cases h
      | some cs =>
        rw [q] at h
        cases h
        cases (show v = V.str ⟨b.toArray⟩ from r1)
        rw [strsOf_at r2 q]
        rfl
    | _ => cases h
noncomputable def joinM (o : PV) (xs : List PV) : M PV := fun st => match o with
  | .str a => match xs with
    | [x] => match seqOf x st with
      | some ys => match strsOf ys with
        | some zs => if (zs.map (·.length)).sum + zs.length * a.length ≤ SZ then .ok (.str (TL.joinL a zs)) st else .bad
        | none => .bad
      | none => .bad
    | _ => .bad
  | _ => .bad
theorem S_len (l : List Nat) : (SX.S l).length = l.length := by show l.toArray.size = _; simp
theorem t_join {K : KW} : TMe K (fun x xs H Q => ∃ a p, ∃ ys : List Str, x = .str a ∧ xs = [.ref p] ∧ (SqL K H p (ys.map V.str) ∨ SqT K H p (ys.map V.str)) ∧
    (ys.map (·.length)).sum + ys.length * a.length ≤ 16777216 ∧ Q (.str (Txt.join a ys)) H) joinM := by
  intro μ st H o xs u us E Q sr ro rs h
  unfold joinM at h
  cases o with
  | str a =>
    cases (show u = V.str ⟨a.toArray⟩ from ro)
    cases xs with
    | nil => exact h.elim
    | cons x t =>
      cases t with
      | cons y t => exact h.elim
      | nil =>
        dsimp only at h
        obtain ⟨w, rfl, rx⟩ := one_of rs
        cases q : seqOf x st with
        | none => rw [q] at h; exact h.elim
        | some ys =>
          rw [q] at h
          dsimp only at h
          cases q2 : strsOf ys with
          | none => rw [q2] at h; exact h.elim
          | some zs =>
            rw [q2] at h
            dsimp only at h
            by_cases hz : (zs.map (·.length)).sum + zs.length * a.length ≤ SZ
            · rw [if_pos hz] at h
              obtain ⟨p, vs, rfl, hq, r⟩ := seqOf_at sr rx q
              have e := strsOf_at r q2
              subst e
              refine ⟨_, p, zs.map SX.S, rfl, rfl, hq, ?_, ?_⟩
              · rw [SX.lens, List.length_map]
                have e2 : (⟨a.toArray⟩ : Str).length = a.length := S_len a
                rw [e2]
                exact hz
              · have e3 : Txt.join (⟨a.toArray⟩ : Str) (zs.map SX.S) = SX.S (TL.joinL a zs) := SX.join_S a zs
                rw [e3]
                exact post_same h sr rfl
            · rw [if_neg hz] at h; exact h.elim
  | _ => exact h.elim
section
variable {X : Cx} {W : WX} {o e e2 : Expr} {apos cpos : Pos} {mo : Rho → M PV} {ma : Rho → M (List PV)}
theorem me_join (ho : ME X W o mo) (ha : MA X W [e] ma)
    (hbase : attributeBase o "join" X.env (eval o X.env) = eval o X.env := by kernel_rfl)
    (hfew : ((backTo cpos (starEach [e] X.env)).all (fun x => !x.1) && (backToKw cpos (keywordEach [] X.env)).all (fun x => x.1.isSome)
      && decide ([e].length + ([] : List Keyword).length + (if ([] : List Keyword).isEmpty then 0 else 1) < 30)) = true := by kernel_rfl)
    (hline : (apos.endLine == cpos.line) = true := by kernel_rfl) (hs : starEach [e] X.env = (false, eval e X.env) :: starEach [] X.env := by kernel_rfl) :
    ME X W (.Call (.Attribute o "join" apos) [e] [] cpos) (eMeth "str" joinM mo ma) :=
  me_meth PySem.F.plainAttrs_str PySem.F.slot_str_join PySem.F.type_str_join mt_join t_join ho ha hbase hfew hline hs rfl
end
end MP

set_option maxRecDepth 100000
set_option maxHeartbeats 1000000
namespace MP
open PySem L2 PySem.Spec PyProof.Rows
noncomputable def inTab (n : Bool) (tab : List (List Nat × PV)) (x : PV) : M PV := match x with
  | .str z => M.ret (.bl (ng n (lookT tab z).isSome))
  | _ => M.fail
noncomputable def ixTab (tab : List (List Nat × PV)) (x : PV) : M PV := match x with
  | .str z => match lookT tab z with
    | some p => M.ret p
    | none => M.fail
  | _ => M.fail
theorem TabIn.isSome {w : World} {K : PySem.W.Frag} {tab : List (List Nat × PV)} {es : List DictEntry} (rows : RowsT K tab es) (z : List Nat) : (PySem.findBy Value.isStrOf es.toArray (⟨z.toArray⟩ : Str)).isSome = (lookT tab z).isSome := by
  have q := RowsT.find (z := z) rows
  unfold PySem.findBy
  rw [List.find?_toArray]
  cases hq : lookT tab z with
  | none => rw [q.1 hq]; rfl
  | some p => obtain ⟨e, e1, _⟩ := q.2 p hq; rw [e1]; rfl
section
variable {X : Cx} {W : WX} {e : Expr} {pos : Pos} {me : Rho → M PV} {x : Str} {tab : List (List Nat × PV)} {p : Pos}
theorem op_inTab {n : Bool} {op : CmpOp} (hop : op = if n = true then .NotIn else .In) {a : Addr} (h : TabIn X.w X.K a tab) : OpR X (compareOp op) (fun u v H Q => ∃ z, u = .str z ∧ v = .ref a ∧ Q (.bl (ng n (lookT tab z.cps.toList).isSome)) H) := by
  intro pins s σ H u v u' v' Q I ru rv q
  obtain ⟨es, k, hl, hk, low, rows⟩ := h
  obtain ⟨z, rfl, rfl, q⟩ := q
  obtain ⟨t, rfl⟩ := ru
  cases rv
  have mp := PySem.W.mapOf_K (prog := X.prog) (w := X.w) I.kIn hl (by simpa using hk)
  have e := TabIn.isSome (w := X.w) rows z.cps.toList
  rw [show (⟨z.cps.toList.toArray⟩ : Str) = z by simp] at e
  cases n with
  | false =>
    rw [if_neg Bool.false_ne_true] at hop
    subst hop
    refine wpAny_in_of (strKind_is X.prog X.w z t) low mp ?_
    rw [e]
    exact ⟨.bl (lookT tab z.cps.toList).isSome, H, I.tok _, rfl, q⟩
  | true =>
    rw [if_pos rfl] at hop
    subst hop
    refine wpAny_notIn_of (strKind_is X.prog X.w z t) low mp ?_
    rw [e]
    exact ⟨.bl (!(lookT tab z.cps.toList).isSome), H, I.tok _, rfl, q⟩
theorem inTab_imp {n : Bool} {a : Addr} : ∀ σ H Q, tM (kw X) W (eUn (inTab n tab) me) σ H Q → tOp (fun u v H Q => ∃ z, u = .str z ∧ v = .ref a ∧ Q (.bl (ng n (lookT tab z.cps.toList).isSome)) H) (tM (kw X) W me) (tC (.ref a)) σ H Q := fun σ H Q ⟨μ, st, ρ, er, sr, h⟩ =>
  ⟨μ, st, ρ, er, sr, (PostG.bind h).mono fun u H1 ⟨μ1, st1, y, g1, s1, ry, h1⟩ => by
    cases y with
    | str z =>
      cases (show u = V.str ⟨z.toArray⟩ from ry)
      exact ⟨⟨z.toArray⟩, rfl, rfl, by simpa using post_same (v := V.bl (ng n (lookT tab z).isSome)) h1 s1 rfl⟩
    | _ => exact h1.elim⟩
theorem mt_inTabG {n : Bool} {op : CmpOp} (hop : op = if n = true then .NotIn else .In) (hm : TabAt X.w X.K X.mg x tab) (he : ME X W e me) (hg : Gl X x) (hd : (x == ("__debug__" : Str)) = false) (hb : behindInMarks op (.Name x p) = false) : MT X W (.Compare e [op] [.Name x p] pos) (eB (eUn (inTab n tab) me)) := by
  obtain ⟨a, h1, h2⟩ := hm
  exact PT.imp (pt_cmpR (op_inTab hop h2) he (pe_glob (v := .ref a) hg h1 rfl hd) hb) fun σ H Q h => inTab_imp σ H _ (test_imp (X := X) (W := W) (m := eUn (inTab n tab) me) σ H Q h)
theorem mt_inTab (hm : TabAt X.w X.K X.mg x tab) (he : ME X W e me) (hg : Gl X x := by exact gl_of (by kernel_rfl)) (hd : (x == ("__debug__" : Str)) = false := by kernel_rfl) : MT X W (.Compare e [.In] [.Name x p] pos) (eB (eUn (inTab false tab) me)) := mt_inTabG rfl hm he hg hd rfl
theorem ix_tab {a : Addr} (h : TabIn X.w X.K a tab) : IxR X (fun u v H Q => ∃ z p, u = .ref a ∧ v = .str ⟨z.toArray⟩ ∧ lookT tab z = some p ∧ ∀ w, (∀ μ, VR X.K H μ p w) → Q w H) := by
  intro value slice pins s σ H u v u' v' Q I ru rv q hs
  obtain ⟨es, k, hl, hk, low, rows⟩ := h
  obtain ⟨z, p, rfl, rfl, hz, q⟩ := q
  cases (show u' = Value.ref a from ru)
  obtain ⟨t, rfl⟩ := rv
  have mp := PySem.W.mapOf_K (prog := X.prog) (w := X.w) I.kIn hl (by simpa using hk)
  obtain ⟨en, e1, w, rw', hv⟩ := (RowsT.find (z := z) rows).2 p hz
  have e2 : PySem.findBy Value.isStrOf es.toArray (⟨z.toArray⟩ : Str) = some en.val := by
    unfold PySem.findBy
    rw [List.find?_toArray, e1]
    rfl
  exact tail_any mp.typeIs slot_dict_getitem.lookup (wpAny_getItem_of (strKind_is X.prog X.w _ t) mp e2 ⟨w, H, I.tok _, rw', q w fun μ => hv H μ⟩) hs
theorem me_ixTab (hm : TabAt X.w X.K X.mg x tab) (he : ME X W e me) (hs : PlainIx e) (hg : Gl X x := by exact gl_of (by kernel_rfl)) (hd : (x == ("__debug__" : Str)) = false := by kernel_rfl) : ME X W (.Subscript (.Name x p) e pos) (eUn (ixTab tab) me) := by
  obtain ⟨a, h1, h2⟩ := hm
  refine PE.imp (pe_ix (ix_tab h2) (pe_glob (v := .ref a) hg h1 rfl hd) he hs) fun σ H Q ⟨μ, st, ρ, er, sr, h⟩ => ?_
  refine ⟨μ, st, ρ, er, sr, (PostG.bind h).mono fun u H1 ⟨μ1, st1, y, g1, s1, ry, h1⟩ => ?_⟩
  cases y with
  | str z =>
    unfold ixTab at h1
    dsimp only at h1
    cases hq : lookT tab z with
    | none => rw [hq] at h1; exact h1.elim
    | some p =>
      rw [hq] at h1
      exact ⟨z, p, rfl, ry, hq, fun w hw => post_same h1 s1 (hw μ1)⟩
  | _ => exact h1.elim
end
noncomputable def intS (i : Int) : List Nat := (PySem.Str.ofString (toString i)).cps.toList
noncomputable def strM (xs : List PV) : M PV := match xs with
  | [.int i] => if i.natAbs.log2 < 1920 then M.ret (.str (intS i)) else M.fail
  | [.str a] => M.ret (.str a)
  | _ => M.fail
theorem t_strM {K : KW} : TL K (fun xs H Q => (∃ i, xs = [.int i] ∧ i.natAbs.log2 < 1920 ∧ Q (.str (toString i)) H) ∨ ∃ a, xs = [.str a] ∧ Q (.str a) H) strM := by
  intro μ st H xs us E Q sr r h
  cases xs with
  | nil => exact h.elim
  | cons x t =>
    cases t with
    | cons y t => cases x <;> exact h.elim
    | nil =>
      obtain ⟨u, rfl, rx⟩ := one_of r
      cases x with
      | int i =>
        cases (show u = V.int i from rx)
        unfold strM at h
        dsimp only at h
        by_cases hz : i.natAbs.log2 < 1920
        · rw [if_pos hz] at h
          refine .inl ⟨i, rfl, hz, ?_⟩
          have e : (⟨(intS i).toArray⟩ : Str) = PySem.Str.ofString (toString i) := by unfold intS; simp
          have q := post_same (v := V.str ⟨(intS i).toArray⟩) h sr rfl
          rw [e] at q
          exact q
        · rw [if_neg hz] at h; exact h.elim
      | str a => cases (show u = V.str ⟨a.toArray⟩ from rx); exact .inr ⟨_, rfl, post_same h sr rfl⟩
      | _ => exact h.elim
section
variable {X : Cx}
theorem CallR.or {f : Value} {r r' : List V → Hp → VK → Prop} (h : CallR X f r) (h' : CallR X f r') : CallR X f (fun xs H Q => r xs H Q ∨ r' xs H Q) := by
  intro pins s σ H xs us Q I rs q
  rcases q with q | q
  · exact h pins s σ H xs us Q I rs q
  · exact h' pins s σ H xs us Q I rs q
variable {W : WX} {e : Expr} {p pos : Pos} {ma : Rho → M (List PV)}
theorem me_strOf (hg : Gl X "str") (hm : X.mg "str" = none) (ha : MA X W [e] ma) (he : starEach [e] X.env = (false, eval e X.env) :: starEach [] X.env := by kernel_rfl) : ME X W (.Call (.Name "str" p) [e] [] pos) (eCall strM ma) :=
  me_callTy (CallR.or call_str_int SkE.call_str_str) t_strM hg hm (by kernel_rfl) ha (he := he) (hpl := rfl)
end
noncomputable def intsOf : List PV → Option (List Int)
  | [] => some []
  | .int i :: r => (intsOf r).map (i :: ·)
  | _ :: _ => none
theorem intsOf_at {K : PySem.W.Frag} {H : Hp} {μ : Mu} : ∀ {ps : List PV} {vs : List V} {ns : List Int}, VRs K H μ ps vs → intsOf ps = some ns → vs = ns.map V.int
  | [], vs, ns, r, h => by cases h; exact r
  | p :: ps, vs, ns, r, h => by
    obtain ⟨v, t, rfl, r1, r2⟩ := (show ∃ v t, vs = v :: t ∧ VR K H μ p v ∧ VRs K H μ ps t from r)
    cases p with
    | int b =>
      unfold intsOf at h
      cases q : intsOf ps with
      | none => rw [q] at h; cases h
      | some cs =>
        rw [q] at h
        cases h
        cases (show v = V.int b from r1)
        rw [intsOf_at r2 q]
        rfl
    | _ => cases h
noncomputable def lstOf (p : PV) (st : Sto) : Option (List PV) := match p with
  | .frz xs => some xs
  | p => listOf p st
theorem lstOf_at {K : KW} {H : Hp} {μ : Mu} {st : Sto} {x : PV} {v : V} {ps : List PV} (sr : SR K μ st H) (r : VR K H μ x v) (h : lstOf x st = some ps) : ∃ a vs, v = .ref a ∧ SqL K H a vs ∧ VRs K H μ ps vs := by
  have g : listOf x st = some ps → ∃ a vs, v = .ref a ∧ SqL K H a vs ∧ VRs K H μ ps vs := fun h => by
    obtain ⟨a, vs, e, l, rs⟩ := listOf_at sr r h
    exact ⟨a, vs, e, SqL.of l, rs⟩
  cases x with
  | frz xs =>
    cases h
    obtain ⟨a, vs, e, l, rs⟩ := frz_at r
    exact ⟨a, vs, e, l.sq, rs⟩
  | _ => exact g h
noncomputable def sumM (xs : List PV) : M PV := fun st => match xs with
  | [x] => match lstOf x st with
    | some ys => match intsOf ys with
      | some ns => .ok (.int ns.sum) st
      | none => .bad
    | none => .bad
  | _ => .bad
theorem t_sumM {K : KW} : TL K (rSum K) sumM := by
  intro μ st H xs us E Q sr r h
  unfold sumM at h
  cases xs with
  | nil => exact h.elim
  | cons x t =>
    cases t with
    | cons y t => exact h.elim
    | nil =>
      obtain ⟨u, rfl, rx⟩ := one_of r
      dsimp only at h
      cases q : lstOf x st with
      | none => rw [q] at h; exact h.elim
      | some ys =>
        rw [q] at h
        dsimp only at h
        cases q2 : intsOf ys with
        | none => rw [q2] at h; exact h.elim
        | some ns =>
          rw [q2] at h
          obtain ⟨a, vs, rfl, l, rs⟩ := lstOf_at sr rx q
          have e := intsOf_at rs q2
          subst e
          exact ⟨a, ns, rfl, l, post_same h sr rfl⟩
section
variable {X : Cx} {W : WX} {e : Expr} {p pos : Pos} {ma : Rho → M (List PV)}
theorem me_sum (hc : X.calm = true) (hg : Gl X "sum") (hm : X.mg "sum" = none) (ha : MA X W [e] ma) (he : starEach [e] X.env = (false, eval e X.env) :: starEach [] X.env := by kernel_rfl) : ME X W (.Call (.Name "sum" p) [e] [] pos) (eCall sumM ma) :=
  me_callB (cr_sum hc) t_sumM hg hm (by kernel_rfl) ha (he := he) (hpl := rfl)
end
section
variable {X : Cx} {W : WX} {o e : Expr} {apos cpos : Pos} {mo : Rho → M PV} {ma : Rho → M (List PV)}
end
end MP

set_option maxRecDepth 100000
set_option maxHeartbeats 1000000
namespace MP
open PySem L2 PySem.Spec PyProof.Rows
inductive Sk where
  | l (a : Addr)
  | t (a : Addr)
  | s (x : Str)
noncomputable def Sk.val : Sk → V
  | .l a => .ref a
  | .t a => .ref a
  | .s x => .str x
noncomputable def Sk.ty : Sk → String
  | .l _ => "list_iterator"
  | .t _ => "tuple_iterator"
  | .s x => strIterType x
noncomputable def Sk.at (K : PySem.W.Frag) (H : Hp) : Sk → List V → Prop
  | .l a, xs => SqL K H a xs
  | .t a, xs => SqT K H a xs
  | .s x, xs => xs = x.cps.toList.map fun c => V.str ⟨#[c]⟩
noncomputable def ItS (T : String) (u : Value) (it : Addr) (i : Nat) (h : Heap) : Prop := ∃ o, h.get? it = some o ∧ o.cls = .type T ∧ o.data = .fields #[u, .int i 0]
theorem ItS.at {T : String} {u : Value} {it : Addr} {i : Nat} {h h' : Heap} (st : ItS T u it i h) (k : ∀ o, h.get? it = some o → h'.get? it = some o) : ItS T u it i h' :=
  let ⟨o, e, r⟩ := st
  ⟨o, k o e, r⟩
noncomputable def IterOf (u : Value) (T : String) (h : Heap) : Prop :=
  (∃ l items, u = .ref l ∧ T = "list_iterator" ∧ h.IsList l items) ∨ (∃ l items, u = .ref l ∧ T = "tuple_iterator" ∧ h.IsTuple l items) ∨ ∃ x t, u = .str x t ∧ T = strIterType x
theorem IterOf.push {u : Value} {T : String} {h : Heap} (k : IterOf u T h) (o : Obj) : IterOf u T (h.push o) := by
  rcases k with ⟨l, is, e, e', k⟩ | ⟨l, is, e, e', k⟩ | k
  · exact .inl ⟨l, is, e, e', k.push _⟩
  · exact .inr (.inl ⟨l, is, e, e', k.push _⟩)
  · exact .inr (.inr k)
section
variable {prog : Program} {w : World} {A : Around} {E : Value → Shared → Prop} {s : Shared}
end
section
variable {prog : Program} {w : World} {A : Around} {E : Value → Shared → Prop} {s : Shared}
end
noncomputable def zipP : List PV → List PV → List PV
  | x :: xs, y :: ys => .tup [x, y] :: zipP xs ys
  | _, _ => []
section
variable {K : KW} {H : Hp} {μ : Mu} {ps qs : List PV} {vs ws : List V}
end
noncomputable def skOf : PV → Option (List PV)
  | .tup ps => some ps
  | .lst ps => some ps
  | .frz ps => some ps
  | .str x => some (x.map fun c => .str [c])
  | _ => none
noncomputable def zipM (xs : List PV) : M (List PV) := match xs with
  | [p, q] => match skOf p, skOf q with
    | some ps, some qs => M.ret (zipP ps qs)
    | _, _ => M.fail
  | _ => M.fail
section
variable {X : Cx} {W : WX} {e e2 : Expr} {p pos : Pos} {ma : Rho → M (List PV)}
end
theorem fnOk_no {P : Program} {w : World} {K : PySem.W.Frag} {mg : Str → Option Value} {base : Heap} {k : Nat} {f : Addr} {fd : FuncData} {ps : List Str} {nn : Nat} : FnOk P w K mg base (L2.CX P w) k f fd ps (spM ⟨w, K⟩ (fun _ => M.fail) nn) :=
  ⟨fun vs H Q E h => let ⟨_, _, _, _, _, _, h⟩ := h; h.elim, fun _ _ _ _ _ _ _ _ _ _ _ _ _ h => let ⟨_, _, _, _, _, _, h⟩ := h; h.elim⟩
section
variable {X : Cx} {W : WX} {pos : Pos}
end
end MP

set_option maxRecDepth 100000
set_option maxHeartbeats 1000000
namespace MP
open PySem L2
noncomputable def forG (G : Sto → Bool) (g : GM) (b : Rho → M Fl) : List PV → Rho → M Fl
  | [], ρ => fun st => if G st = true then .ok (.next ρ) st else .bad
  | p :: ps, ρ => fun st => if G st = true then onErr ρ (g p ρ) (fun ρ1 => turnL (forG G g b ps) (b ρ1)) st else .bad
noncomputable def SupG (K : KW) (J : It) (ps : List PV) (G : Sto → Bool) (μ0 : Mu) (H0 : Hp) : Prop :=
  ∀ μ H st, Gr μ0 H0 μ H → SR K μ st H → G st = true → (∀ (i : Nat) (p : PV), ps[i]? = some p → J.go i H ∧ ∀ x H', J.yld i H x H' → Gr μ H μ H' ∧ SR K μ st H' ∧ VR K H' μ p x) ∧ J.stop ps.length H
theorem PostS.ifG {K : KW} {W : WX} {D : Ends} {μ : Mu} {H : Hp} {c : Bool} {r : Res Fl} (h : PostS K W D μ H (if c = true then r else .bad)) : c = true ∧ PostS K W D μ H r := by
  cases c with
  | true => exact ⟨rfl, h⟩
  | false => exact h.elim
theorem PostG.ifG {α β : Type} {K : KW} {E : XK} {R : Hp → Mu → α → β → Prop} {Q : β → Hp → Prop} {μ : Mu} {H : Hp} {c : Bool} {r : Res α} (h : PostG K E R Q μ H (if c = true then r else .bad)) : c = true ∧ PostG K E R Q μ H r := by
  cases c with
  | true => exact ⟨rfl, h⟩
  | false => exact h.elim
theorem for_impG {K : KW} {W : WX} {D : Ends} {J : It} {ps : List PV} {G : Sto → Bool} {g : GM} {b : Rho → M Fl} {μ : Mu} {H : Hp} {σ : St} {ρ : Rho} {st : Sto} (su : SupG K J ps G μ H) (er : ER K H μ ρ σ) (sr : SR K μ st H) (h : PostS K W D μ H (forG G g b ps ρ st)) :
    ∃ V : Nat → Nat → St → Hp → Prop, (∃ m, V 0 m σ H) ∧ ∀ i m σ H, V i m σ H →
      (J.stop i H ∧ D.nx σ H) ∨ (J.go i H ∧ ∃ N : St → Hp → Prop, (∀ σ' H', N σ' H' → ∃ m', m' < m ∧ V (i + 1) m' σ' H') ∧ ∀ x H', J.yld i H x H' → tMG K W g x σ H' fun σ2 H2 => tMS K W b { D with nx := N, ct := N, bk := D.nx } σ2 H2) := by
  refine ⟨fun i m σ' H' => m = ps.length - i ∧ i ≤ ps.length ∧ ∃ μ' st' ρ', Gr μ H μ' H' ∧ ER K H' μ' ρ' σ' ∧ SR K μ' st' H' ∧ PostS K W D μ' H' (forG G g b (ps.drop i) ρ' st'), ⟨ps.length, by simp, Nat.zero_le _, μ, st, ρ, Gr.refl _ _, er, sr, by rw [List.drop_zero]; exact h⟩, ?_⟩
  rintro i m σ1 H1 ⟨rfl, hi, μ1, st1, ρ1, g1, e1, s1, h1⟩
  by_cases hlt : i < ps.length
  · have hp : ps[i]? = some ps[i] := by simp [hlt]
    rw [List.drop_eq_getElem_cons hlt] at h1
    unfold forG at h1
    obtain ⟨hG, h1⟩ := PostS.ifG h1
    obtain ⟨go, yl⟩ := (su μ1 H1 st1 g1 s1 hG).1 i ps[i] hp
    refine .inr ⟨go, fun σ' H' => ∃ μ' st' ρ', Gr μ H μ' H' ∧ ER K H' μ' ρ' σ' ∧ SR K μ' st' H' ∧ PostS K W D μ' H' (forG G g b (ps.drop (i + 1)) ρ' st'), fun σ' H' q => ⟨ps.length - (i + 1), by omega, rfl, hlt, q⟩, fun x H' y => ?_⟩
    obtain ⟨g2, s2, rx⟩ := yl x H' y
    refine ⟨μ1, st1, ρ1, ps[i], e1.mono g2, s2, rx, (PostS.onErr (PostS.grow h1 g2) (e1.mono g2)).mono fun σ3 H3 ⟨μ3, st3, ρ3, g3, s3, e3, h3⟩ => ⟨μ3, st3, ρ3, e3, s3, ?_⟩⟩
    have gg := (g1.trans g2 fun a m => (s2.ban a m).1).trans g3 fun a m => (s3.ban a m).1
    unfold turnL at h3
    cases q : b ρ3 st3 with
    | ok f st' =>
      rw [q] at h3
      cases f with
      | next ρ' => exact fun μ' H' σ' g4 s4 e4 => ⟨μ', st', ρ', gg.trans g4 (fun a m => (s4.ban a m).1), e4, s4, PostS.grow h3 g4⟩
      | cont ρ' => exact fun μ' H' σ' g4 s4 e4 => ⟨μ', st', ρ', gg.trans g4 (fun a m => (s4.ban a m).1), e4, s4, PostS.grow h3 g4⟩
      | brk ρ' => exact h3
      | ret p => exact h3
      | exc x ρ' => exact h3
    | err x st' => rw [q] at h3; exact h3
    | bad => rw [q] at h3; exact h3
  · have e : i = ps.length := by omega
    subst e
    rw [List.drop_length] at h1
    unfold forG at h1
    obtain ⟨hG, h1⟩ := PostS.ifG h1
    exact .inl ⟨(su μ1 H1 st1 g1 s1 hG).2, h1 μ1 H1 σ1 (Gr.refl _ _) s1 e1⟩
noncomputable def gd (n : Nat) (xs : List PV) (st : Sto) : Bool := match st[n]? with
  | some (.lst ys) => decide (ys = xs)
  | _ => false
noncomputable def atCell (v : PV) : M (Nat × List PV) := fun st => match v with
  | .loc n => match st[n]? with
    | some (.lst xs) => .ok (n, xs) st
    | _ => .bad
  | _ => .bad
noncomputable def iCell (m : Rho → M PV) : Rho → M (Nat × List PV) := fun ρ => M.bind (m ρ) atCell
noncomputable def tMIC (K : KW) (W : WX) (f : List PV → List PV) (m : Rho → M (Nat × List PV)) : TI := fun σ H R => ∃ μ st ρ, ER K H μ ρ σ ∧ SR K μ st H ∧ PostG K (fun c d H' => W c d σ H') (fun H μ nx (J : It) => SupG K J (f nx.2) (gd nx.1 nx.2) μ H) R μ H (m ρ st)
noncomputable def MIC (X : Cx) (W : WX) (tg iter : Expr) (f : List PV → List PV) (m : Rho → M (Nat × List PV)) : Prop := PI X tg iter (tMIC (kw X) W f m)
noncomputable def enumP (xs : List PV) : List PV := xs.mapIdx fun i p => .tup [.int (i : Nat), p]
theorem gd_at {n : Nat} {xs : List PV} {st : Sto} (h : gd n xs st = true) : st[n]? = some (.lst xs) := by
  unfold gd at h
  split at h
  · rename_i ys e
    rw [e, of_decide_eq_true h]
  · cases h
theorem sup_cell {K : KW} {H : Hp} {μ : Mu} {a : Addr} {n : Nat} {xs : List PV} (ha : μ.l[n]? = some a) : SupG K (Itl K a) xs (gd n xs) μ H := fun μ' H' st g sr hG => by
  obtain ⟨vs, q0, r⟩ := sr.cell n _ a (gd_at hG) (g.get ha)
  have q : SqL K H' a vs := SqL.of q0
  refine ⟨fun i p hp => ?_, ⟨vs, q, by rw [VRs.length r]; exact Nat.le_refl _⟩⟩
  obtain ⟨v, e1, e2⟩ := VRs.get r hp
  refine ⟨⟨vs, v, q, e1⟩, fun x H2 ⟨eh, y⟩ => ?_⟩
  subst eh
  have ex : v = x := Option.some.inj (e1.symm.trans (y vs q))
  subst ex
  exact ⟨Gr.refl _ _, sr, e2⟩
section
variable {X : Cx} {W : WX} {tg e : Expr} {me : Rho → M PV}
theorem mic_cell (he : ME X W e me) : MIC X W tg e id (iCell me) := PI.imp (pi_list he) fun σ H R ⟨μ, st, ρ, er, sr, h⟩ => ⟨μ, st, ρ, er, sr, (PostG.bind h).mono fun u H1 ⟨μ1, st1, v, g1, s1, rv, h1⟩ => by
  unfold atCell at h1
  cases v with
  | loc n =>
    dsimp only at h1
    cases q : st1[n]? with
    | none => rw [q] at h1; exact h1.elim
    | some c =>
      rw [q] at h1
      cases c with
      | lst xs =>
        obtain ⟨a, rfl, ha⟩ := loc_at rv
        obtain ⟨vs, q0, r⟩ := s1.cell n _ a q ha
        exact ⟨a, rfl, ⟨vs, SqL.of q0⟩, h1 μ1 H1 _ (Gr.refl _ _) s1 (sup_cell ha)⟩
      | dct kvs => exact h1.elim
      | ins C fs => exact h1.elim
      | dcl kvs => exact h1.elim
      | dcn kvs => exact h1.elim
      | lck kvs => exact h1.elim
  | _ => exact h1.elim⟩
variable {pos : Pos} {m : Rho → M Fl}
noncomputable def sForC (f : List PV → List PV) (mi : Rho → M (Nat × List PV)) (g : GM) (b : Rho → M Fl) : Rho → M Fl := fun ρ => onErr ρ (mi ρ) fun nx => forG (gd nx.1 nx.2) g b (f nx.2) ρ
theorem ms_forC {f : List PV → List PV} {iter : Expr} {body : List Stmt} {mi : Rho → M (Nat × List PV)} {g : GM} (hp : PassesOwn (model X.prog X.w) X.A X.env X.xe) (hc : X.calm = true) (hi : MIC X W tg iter f mi) (hg : MG X W tg g) (hb : MSs X W body m)
    (hs : ∀ x, foldedSetIterable iter X.env x = pure x := by intro _; kernel_rfl) : MS X W (.For tg iter body [] pos) (sForC f mi g m) :=
  PS.imp (ps_for hp hc hi hg hb hs) fun D σ H ⟨μ, st, ρ, er, sr, h⟩ => ⟨μ, st, ρ, er, sr, (PostS.onErr h er).mono fun J H1 ⟨μ1, st1, nx, g1, s1, su, h1⟩ => for_impG su (er.mono g1) s1 h1⟩
end
noncomputable def lcG (G : Sto → Bool) (g : GM) (t : Rho → M Bool) (e : Rho → M PV) (ρ0 : Rho) : List PV → List PV → M (List PV)
  | [], acc => fun st => if G st = true then .ok acc st else .bad
  | p :: ps, acc => fun st => if G st = true then (M.bind (M.calm (g p ρ0)) fun ρ1 => M.bind (M.calm (t ρ1)) fun c => if c = true then M.bind (M.calm (e ρ1)) fun y => if acc.length < SZ then lcG G g t e ρ0 ps (acc ++ [y]) else M.fail else lcG G g t e ρ0 ps acc) st else .bad
theorem bind_ifG {α β : Type} {G : Sto → Bool} {m : M α} {k : α → M β} : M.bind (fun st => if G st = true then m st else .bad) k = fun st => if G st = true then M.bind m k st else .bad := by
  funext st
  unfold M.bind
  dsimp only
  cases G st <;> rfl
theorem lc_impG {K : KW} {E : XK} {Q : VK} {J : It} {ps : List PV} {G : Sto → Bool} {g0 : TG} {g : GM} {t : Rho → M Bool} {e : Rho → M PV} {k : List PV → M PV} {vs : List Nat} {μ : Mu} {H : Hp} {σ : St} {ρ : Rho} {st : Sto} {D : Addr} (su : SupG K J ps G μ H) (er : ER K H μ ρ σ) (sr : SR K μ st H) (tg : TGo K vs g0 g) (le : LcEnd K k)
    (hD : H D = none) (h : PostG K E (VR K) Q μ H (M.bind (lcG G g t e (wipeP ρ vs) ps []) k st)) :
    ∃ V : Nat → Nat → Hp → Prop, (∃ m, V 0 m (upd H D (.lst []))) ∧ ∀ i m H, V i m H →
      (J.stop i H ∧ Q (.ref D) H) ∨ (J.go i H ∧ ∃ Nx : Hp → Prop, (∀ H', Nx H' → ∃ m', m' < m ∧ V (i + 1) m' H') ∧ ∀ x H', J.yld i H x H' → g0 x (L2.wipe σ vs) H' fun σ2 H2 => L2.wipe σ2 vs = L2.wipe σ vs ∧ tMT K W0 t σ2 H2 fun b H3 =>
        if b = true then tM K W0 e σ2 H3 fun y H4 => ∃ acc, H4 D = some (.lst acc) ∧ acc.length < sizeLine ∧ Nx (upd H4 D (.lst (acc ++ [y]))) else Nx H3) := by
  let P : Nat → Hp → Prop := fun i H' => ∃ μ' st' acc va, Gr μ H μ' H' ∧ SR K μ' st' H' ∧ D ∈ μ'.b ∧ H' D = some (.lst va) ∧ VRs K H' μ' acc va ∧ PostG K E (VR K) Q μ H (M.bind (lcG G g t e (wipeP ρ vs) (ps.drop i) acc) k st')
  refine ⟨fun i m H' => m = ps.length - i ∧ i ≤ ps.length ∧ P i H', ⟨ps.length, by simp, Nat.zero_le _, ?_⟩, ?_⟩
  · have gb : Gr μ H (μ.bar D) (upd H D (.lst [])) := ⟨⟨[], by simp [Mu.bar]⟩, fun a m => List.mem_cons_of_mem _ m, fun a m => by
      rcases List.mem_cons.mp m with z | z
      · rw [z]; exact .inr hD
      · exact .inl z, fun a m => .inl m, fun a o q _ => by rw [upd_ne (ne_of_none q hD)]; exact q, fun a o u q => by rw [upd_ne (ne_of_none q hD)]; exact q⟩
    refine ⟨μ.bar D, st, [], [], gb, ?_, List.mem_cons_self, upd_same, rfl, by rw [List.drop_zero]; exact h⟩
    refine ⟨sr.len, sr.nd, fun a m => ?_, fun n c a e1 e2 => (sr.cell n c a e1 e2).mono gb (upd_ne fun z => ?_)⟩
    · rcases List.mem_cons.mp m with z | z
      · subst z
        exact ⟨fun q => sr.free hD (.inl q), _, upd_same⟩
      · obtain ⟨n1, o, q⟩ := sr.ban a z
        exact ⟨n1, o, by rw [upd_ne (ne_of_none q hD)]; exact q⟩
    · obtain ⟨u, q⟩ := (sr.cell n c a e1 e2).has
      rw [z, hD] at q; cases q
  · rintro i m H1 ⟨rfl, hi, μ1, st1, acc, va, g1, s1, b1, d1, r1, h1⟩
    by_cases hlt : i < ps.length
    · have hp : ps[i]? = some ps[i] := by simp [hlt]
      rw [List.drop_eq_getElem_cons hlt] at h1
      unfold lcG at h1
      rw [bind_ifG] at h1
      obtain ⟨hG, h1⟩ := PostG.ifG h1
      obtain ⟨go, yl⟩ := (su μ1 H1 st1 g1 s1 hG).1 i ps[i] hp
      refine .inr ⟨go, P (i + 1), fun H' q => ⟨ps.length - (i + 1), by omega, rfl, hlt, q⟩, fun x H2 y => ?_⟩
      obtain ⟨g2, s2, rx⟩ := yl x H2 y
      have gg2 := g1.trans g2 fun a m => (s2.ban a m).1
      rw [M.bind_assoc] at h1
      refine tg x _ H2 _ μ1 st1 _ ps[i] ((er.mono gg2).wipe vs) s2 rx ((PostG.calm (PostG.bindAt h1 gg2)).mono fun σ3 H3 ⟨μ3, st3, ρ3, g3, s3, ⟨e3, w3⟩, h3⟩ => ⟨w3.trans (wipe_wipe fun _ z => z), ?_⟩)
      have gg3 := gg2.trans g3 fun a m => (s3.ban a m).1
      rw [M.bind_assoc] at h3
      refine ⟨μ3, st3, ρ3, e3, s3, (PostG.calm (PostG.bindAt h3 gg3)).mono fun c H4 ⟨μ4, st4, c', g4, s4, ec, h4⟩ => ?_⟩
      subst ec
      have gg4 := gg3.trans g4 fun a m => (s4.ban a m).1
      have keepD : ∀ {μa μb : Mu} {Ha Hb : Hp} {sa : Sto} {w : List V}, Gr μa Ha μb Hb → SR K μa sa Ha → D ∈ μa.b → Ha D = some (.lst w) → Hb D = some (.lst w) := fun g s m q => g.keep D _ q (s.ban D m).1
      have d2 := keepD g2 s1 b1 d1
      have b2 := g2.ban D b1
      have d3 := keepD g3 s2 b2 d2
      have b3 := g3.ban D b2
      have d4 := keepD g4 s3 b3 d3
      have b4 := g4.ban D b3
      have r4 : VRs K H4 μ4 acc va := VRs.mono g4 _ _ (VRs.mono g3 _ _ (VRs.mono g2 _ _ r1))
      cases c' with
      | false =>
        rw [if_neg Bool.false_ne_true] at h4 ⊢
        exact ⟨μ4, st4, acc, va, gg4, s4, b4, d4, r4, h4⟩
      | true =>
        rw [if_pos rfl] at h4 ⊢
        rw [M.bind_assoc] at h4
        refine ⟨μ4, st4, ρ3, e3.mono g4, s4, (PostG.calm (PostG.bindAt h4 gg4)).mono fun w H5 ⟨μ5, st5, py, g5, s5, rw5, h5⟩ => ?_⟩
        have gg5 := gg4.trans g5 fun a m => (s5.ban a m).1
        have d5 := keepD g5 s4 b4 d4
        have b5 := g5.ban D b4
        have r5 : VRs K H5 μ5 acc va := VRs.mono g5 _ _ r4
        by_cases hz : acc.length < SZ
        · rw [if_pos hz] at h5
          refine ⟨va, d5, by rw [← VRs.length r5, sz_eq]; exact hz, μ5, st5, acc ++ [py], va ++ [w], ?_, sr_bar b5 s5, b5, upd_same, VRs.monov (gv_bar b5) _ _ (VRs.append r5 (VRs.cons rw5 VRs.nil)), h5⟩
          exact ⟨gg5.pre, gg5.ban, gg5.bnew, gg5.new, fun a o q n => by rw [upd_ne (ne_of_none q hD)]; exact gg5.keep a o q n, fun a o u q => by rw [upd_ne (ne_of_none q hD)]; exact gg5.fz a o u q⟩
        · rw [if_neg hz] at h5
          exact h5.elim
    · have ei : i = ps.length := by omega
      subst ei
      rw [List.drop_length] at h1
      unfold lcG at h1
      rw [show (fun st => if G st = true then Res.ok acc st else Res.bad) = (fun st => if G st = true then M.ret acc st else .bad) from rfl, bind_ifG] at h1
      obtain ⟨hG, h1⟩ := PostG.ifG h1
      exact .inl ⟨(su μ1 H1 st1 g1 s1 hG).2, le μ μ1 st st1 H H1 D acc va E Q sr hD g1 s1 b1 d1 r1 h1⟩
noncomputable def eLcC (f : List PV → List PV) (k : List PV → M PV) (mi : Rho → M (Nat × List PV)) (g : GM) (t : Rho → M Bool) (e : Rho → M PV) (vs : List Nat) : Rho → M PV := fun ρ => M.bind (mi ρ) fun nx => M.bind (lcG (gd nx.1 nx.2) g t e (wipeP ρ vs) (f nx.2) []) k
section
variable {X : Cx} {W : WX}
theorem lc_tieC {f : List PV → List PV} {mi : Rho → M (Nat × List PV)} {g0 : TG} {g : GM} {t : Rho → M Bool} {e : Rho → M PV} {k : List PV → M PV} {vs : List Nat} (tg : TGo (kw X) vs g0 g) (le : LcEnd (kw X) k) : ∀ σ H Q, tM (kw X) W (eLcC f k mi g t e vs) σ H Q → tLc (tMIC (kw X) W f mi) g0 (tMT (kw X) W0 t) (tM (kw X) W0 e) vs σ H Q :=
  fun σ H Q ⟨μ, st, ρ, er, sr, h⟩ => ⟨μ, st, ρ, er, sr, (PostG.bind h).mono fun J H1 ⟨μ1, st1, nx, g1, s1, su, h1⟩ D hD => lc_impG su (er.mono g1) s1 tg le hD h1⟩
theorem me_lcC {f : List PV → List PV} {elt tgt iter : Expr} {ifs : List Expr} {scope : Scope} {own : List (Str × Nat)} {pos : Pos} {mi : Rho → M (Nat × List PV)} {g0 : TG} {g : GM} {t : Rho → M Bool} {e : Rho → M PV} {k : List PV → M PV} (hc : X.calm = true) (hN : X.N.Nodup) (hi : MIC X W tgt iter f mi) (ok : BlkOk X.N X.env.scope scope own) (tg : TGo (kw X) (own.map (·.2)) g0 g) (le : LcEnd (kw X) k)
    (hg : ∀ (s : Shared) (H : Hp) (C : Addr) (cl : List (Str × Addr)) (fp : List Addr), PG (X.blk s H scope (compEnvC scope cl C X.env) fp) tgt g0)
    (ht : ∀ (s : Shared) (H : Hp) (C : Addr) (cl : List (Str × Addr)) (fp : List Addr), MTs (X.blk s H scope (compEnvC scope cl C X.env) fp) W0 ifs t)
    (he : ∀ (s : Shared) (H : Hp) (C : Addr) (cl : List (Str × Addr)) (fp : List Addr), ME (X.blk s H scope (compEnvC scope cl C X.env) fp) W0 elt e) (hs : ∀ x, foldedSetIterable iter X.env x = pure x := by intro _; kernel_rfl) :
    ME X W (.ListComp elt [⟨tgt, iter, ifs, 0⟩] scope pos) (eLcC f k mi g t e (own.map (·.2))) := PE.imp (pe_lc (tt := tMT (kw X) W0 t) (te := tM (kw X) W0 e) hc hN hi ok hg ht he hs) (lc_tieC tg le)
end
end MP

set_option maxRecDepth 100000
set_option maxHeartbeats 3200000
namespace MP
open PySem L2 PySem.Spec PyProof.Rows
noncomputable def ddS {κ : Type} [DecidableEq κ] (acc : List κ) (k : κ) : List κ := if k ∈ acc then acc else acc ++ [k]
noncomputable def dd {κ : Type} [DecidableEq κ] (l : List κ) : List κ := l.foldl ddS []
section
variable {κ : Type} [DecidableEq κ]
end
section
variable {prog : Program} {w : World} {A : Around} {R : Result → Shared → Prop} {it : Addr} {fp wr : List Addr} {G : Array GenState → Array GenState → Prop} {n : Nat} {P : Nat → Value → Prop} {St : Nat → Shared → Prop} {κ : Type} [DecidableEq κ] {knd : KeyKind prog w κ}
end
section
variable {prog : Program} {w : World} {A : Around} {E : Value → Shared → Prop} {sh : Shared} {κ : Type} [DecidableEq κ] {knd : KeyKind prog w κ}
end
section
variable {X : Cx} {W : WX} {a : Expr} {ma : Rho → M PV} {p p2 q pos : Pos}
end
end MP

set_option maxRecDepth 100000
set_option maxHeartbeats 1000000
namespace MP
open PySem L2 PySem.Spec PyProof.Rows
theorem ofString_inj {a b : String} (h : Str.ofString a = Str.ofString b) : a = b := by
  have e : (Str.ofString a).cps.toList = (Str.ofString b).cps.toList := by rw [h]
  rw [signs_ofString, signs_ofString] at e
  have inj : ∀ (x y : List Char), x.map Char.toNat = y.map Char.toNat → x = y := by
    intro x
    induction x with
    | nil => intro y h; cases y with
      | nil => rfl
      | cons c y => cases h
    | cons c x ih => intro y h; cases y with
      | nil => cases h
      | cons d y =>
        rw [List.map_cons, List.map_cons] at h
        injection h with h1 h2
        rw [ih y h2, Char.ext (UInt32.toNat_inj.mp h1)]
  exact String.toList_inj.mp (inj _ _ e)
noncomputable def lookA : List (String × PV) → String → Option PV
  | [], _ => none
  | p :: r, f => if p.1 = f then some p.2 else lookA r f
noncomputable def putA (f : String) (v : PV) : List (String × PV) → List (String × PV)
  | [] => [(f, v)]
  | p :: r => if p.1 = f then (p.1, v) :: r else p :: putA f v r
section
variable {K : PySem.W.Frag} {H : Hp} {μ : Mu}
theorem FRs.look {f : String} : ∀ {fs : List (String × PV)} {fv : List (Str × V)}, FRs K H μ fs fv → (∀ p, lookA fs f = some p → ∃ v, fv.lookup (Str.ofString f) = some v ∧ VR K H μ p v) ∧ (lookA fs f = none → fv.lookup (Str.ofString f) = none)
  | [], fv, h => by
    have e : fv = [] := h
    subst e
    exact ⟨fun p q => (nomatch q), fun _ => rfl⟩
  | p :: r, fv, h => by
    obtain ⟨v, t, rfl, rv, rt⟩ := h
    unfold lookA
    rw [List.lookup_cons]
    by_cases e : p.1 = f
    · subst e
      rw [if_pos rfl, beq_self_eq_true]
      exact ⟨fun q hq => by cases hq; exact ⟨v, rfl, rv⟩, fun hq => (nomatch hq)⟩
    · have e' : (Str.ofString f == Str.ofString p.1) = false := beq_eq_false_iff_ne.mpr fun q => e (ofString_inj q).symm
      rw [if_neg e, e']
      exact FRs.look rt
theorem FRs.put {f : String} {p : PV} {v : V} (rv : VR K H μ p v) : ∀ {fs : List (String × PV)} {fv : List (Str × V)}, FRs K H μ fs fv → FRs K H μ (putA f p fs) (putF (Str.ofString f) v fv)
  | [], fv, h => by
    have e : fv = [] := h
    subst e
    exact ⟨v, [], rfl, rv, rfl⟩
  | q :: r, fv, h => by
    obtain ⟨w, t, rfl, rw', rt⟩ := h
    unfold putA putF
    by_cases e : q.1 = f
    · subst e
      rw [if_pos rfl, if_pos rfl]
      exact ⟨v, t, rfl, rv, rt⟩
    · have e' : ¬ Str.ofString q.1 = Str.ofString f := fun z => e (ofString_inj z)
      rw [if_neg e, if_neg e']
      exact ⟨w, _, rfl, rw', FRs.put rv rt⟩
theorem FRs.length : ∀ {fs : List (String × PV)} {fv : List (Str × V)}, FRs K H μ fs fv → fs.length = fv.length
  | [], fv, h => by have e : fv = [] := h; subst e; rfl
  | q :: r, fv, h => by obtain ⟨w, t, rfl, _, rt⟩ := h; rw [List.length_cons, List.length_cons, FRs.length rt]
end
noncomputable def attrM (cs : List String) (f : String) (x : PV) : M PV := fun st => match x with
  | .loc n => match st[n]? with
    | some (.ins c fs) => if c ∈ cs then (match lookA fs f with
      | some v => .ok v st
      | none => .bad) else .bad
    | _ => .bad
  | _ => .bad
section
variable {X : Cx} {W : WX} {e o value : Expr} {pos p' : Pos} {me mo mv : Rho → M PV} {cs : List String} {f : String}
noncomputable def setA (cs : List String) (f : String) (y x : PV) : M Unit := fun st => match x with
  | .loc n => match st[n]? with
    | some (.ins c fs) => if c ∈ cs ∧ fs.length < 1000 then .ok () (st.set n (.ins c (putA f y fs))) else .bad
    | _ => .bad
  | _ => .bad
noncomputable def sAttr (cs : List String) (f : String) (mo mv : Rho → M PV) : Rho → M Fl := fun ρ => onErr ρ (mv ρ) fun y => onErr ρ (mo ρ) fun x => onErr ρ (setA cs f y x) fun _ => M.ret (.next ρ)
end
noncomputable def insC (c m : String) (o : PV) : M Unit := fun st => match o with
  | .loc n => match st[n]? with
    | some (.ins c' fs) => if c' = c ∧ lookA fs m = none then .ok () st else .bad
    | _ => .bad
  | _ => .bad
noncomputable def eMth (c m : String) (mf : List PV → M PV) (mo : Rho → M PV) (ma : Rho → M (List PV)) : Rho → M PV := fun ρ => M.bind (mo ρ) fun o => M.bind (insC c m o) fun _ => M.bind (ma ρ) fun xs => mf (o :: xs)
section
variable {X : Cx} {W : WX} {e o : Expr} {es : List Expr} {pos apos : Pos} {mo : Rho → M PV} {ma : Rho → M (List PV)} {c m : String} {C f : Addr} {fd : FuncData} {ps : List Str} {k n : Nat} {mf : List PV → M PV}
noncomputable def mkIns (c : String) (mf : List PV → M PV) (xs : List PV) : M PV := fun st => match mf (.loc st.length :: xs) (st ++ [.ins c []]) with
  | .ok .non st' => .ok (.loc st.length) st'
  | _ => .bad
end
end MP

set_option maxRecDepth 100000
set_option maxHeartbeats 1000000
namespace MP
open PySem L2 PySem.Spec PyProof.Rows
noncomputable def isDct (x : PV) : M Unit := fun st => match dctOf x st with
  | some _ => .ok () st
  | none => .bad
noncomputable def dgetM (x y z : PV) : M PV := fun st => match dctOf x st with
  | some kvs => if (keyOf y).isSome = true then .ok ((lookP kvs y).getD z) st else .bad
  | none => .bad
noncomputable def eGet1 (mo me : Rho → M PV) : Rho → M PV := fun ρ => M.bind (mo ρ) fun x => M.bind (isDct x) fun _ => M.bind (me ρ) fun y => dgetM x y .non
noncomputable def eGet2 (mo me mz : Rho → M PV) : Rho → M PV := fun ρ => M.bind (mo ρ) fun x => M.bind (isDct x) fun _ => M.bind (me ρ) fun y => M.bind (mz ρ) fun z => dgetM x y z
theorem isDct_at {K : KW} {H : Hp} {μ : Mu} {st : Sto} {x : PV} {v : V} {α β : Type} {E : XK} {R : Hp → Mu → α → β → Prop} {Q : β → Hp → Prop} {k : Unit → M α} (sr : SR K μ st H) (r : VR K H μ x v)
    (h : PostG K E R Q μ H (M.bind (isDct x) k st)) : (∃ a, v = .ref a ∧ IsD H a) ∧ PostG K E R Q μ H (k () st) := by
  unfold M.bind isDct at h
  cases q : dctOf x st with
  | none => rw [q] at h; exact h.elim
  | some kvs =>
    rw [q] at h
    obtain ⟨n, a, kv, ex, rfl, ha, hc, h1, h2⟩ := dctOf_at sr r q
    exact ⟨⟨a, rfl, .inl ⟨kv, .inl h1⟩⟩, h⟩
theorem dget_at {K : KW} {H : Hp} {μ : Mu} {st : Sto} {x y z : PV} {a : Addr} {v w : V} {E : XK} {Q : V → Hp → Prop} (sr : SR K μ st H) (r : VR K H μ x (.ref a)) (ry : VR K H μ y v) (rz : VR K H μ z w)
    (h : PostG K E (VR K) Q μ H (dgetM x y z st)) : ∃ o, DGet H a v o ∧ Q (o.getD w) H := by
  unfold dgetM at h
  cases hd : dctOf x st with
  | none => rw [hd] at h; exact h.elim
  | some kvs =>
    rw [hd] at h
    dsimp only at h
    by_cases hk : (keyOf y).isSome = true
    · rw [if_pos hk] at h
      obtain ⟨k', ek⟩ := Option.isSome_iff_exists.mp hk
      obtain ⟨n, a', kv, ex, e, ha, hc, h1, h2⟩ := dctOf_at sr r hd
      cases e
      rw [keyOf_kV ek ry]
      refine ⟨_, DGet.k h1, ?_⟩
      cases q : lookP kvs y with
      | none =>
        rw [(KRs.look ek h2).2 q]
        rw [q] at h
        exact post_same h sr rz
      | some p =>
        obtain ⟨u, e, ru⟩ := (KRs.look ek h2).1 p q
        rw [e]
        rw [q] at h
        exact post_same h sr ru
    · rw [if_neg hk] at h
      exact h.elim
section
variable {X : Cx} {W : WX} {o e f : Expr} {apos cpos : Pos} {mo me mz : Rho → M PV}
theorem me_get1 (hu : X.A.units + 64 < cLine) (ho : ME X W o mo) (he : ME X W e me) (hb : attributeBase o "get" X.env (eval o X.env) = eval o X.env := by kernel_rfl)
    (hf : ((backTo cpos (starEach [e] X.env)).all (fun x => !x.1) && (backToKw cpos (keywordEach [] X.env)).all (fun x => x.1.isSome)
      && decide (([e] : List Expr).length + ([] : List Keyword).length + (if ([] : List Keyword).isEmpty then 0 else 1) < 30)) = true := by kernel_rfl)
    (hl : (apos.endLine == cpos.line) = true := by kernel_rfl) (ht : backTo cpos (starEach [e] X.env) = [(false, eval e X.env)] := by kernel_rfl) :
    ME X W (.Call (.Attribute o "get" apos) [e] [] cpos) (eGet1 mo me) :=
  PE.imp (pe_dget1 (by omega) ho he ⟨hb, hf, hl, ht⟩) fun σ H Q ⟨μ, st, ρ, er, sr, h⟩ => ⟨μ, st, ρ, er, sr, (PostG.bind h).mono fun u H1 ⟨μ1, st1, x, g1, s1, rx, h1⟩ => by
    obtain ⟨⟨a, rfl, d⟩, h2⟩ := isDct_at s1 rx h1
    exact ⟨a, rfl, d, μ1, st1, ρ, er.mono g1, s1, (PostG.bind h2).mono fun v H2 ⟨μ2, st2, y, g2, s2, ry, h3⟩ => dget_at s2 (VR.mono g2 x _ rx) ry (z := .non) (show VR X.K H2 μ2 .non .non from rfl) h3⟩⟩
end
theorem VRs.back {K : PySem.W.Frag} {H : Hp} {μ : Mu} {i : Nat} {v : V} : ∀ {ps : List PV} {vs : List V} {i : Nat}, VRs K H μ ps vs → vs[i]? = some v → ∃ p, ps[i]? = some p ∧ VR K H μ p v
  | [], vs, i, h, e => by have z : vs = [] := h; rw [z] at e; simp at e
  | p :: ps, vs, i, h, e => by
    obtain ⟨w, r, rfl, h1, h2⟩ := (show ∃ v r, vs = v :: r ∧ VR K H μ p v ∧ VRs K H μ ps r from h)
    cases i with
    | zero => simp at e; subst e; exact ⟨p, rfl, h1⟩
    | succ i =>
      obtain ⟨q, e1, e2⟩ := VRs.back (i := i) h2 (by simpa using e)
      exact ⟨q, by simpa using e1, e2⟩
section
variable {X : Cx} {W : WX} {o e : Expr} {apos cpos : Pos} {mo : Rho → M PV} {ma : Rho → M (List PV)}
end
noncomputable def mulL (x y : PV) : M PV := match x, y with
  | .lst a, .int k => if -1000000 ≤ k ∧ k ≤ 1000 ∧ a.length ≤ 1000 then M.ret (.lst (List.replicate k.toNat a).flatten) else M.fail
  | _, _ => M.fail
theorem t_mulL {K : KW} : T2 K rRep mulL := by
  intro μ st H x y u v E Q sr rx ry h
  unfold mulL at h
  split at h
  · rename_i a k
    obtain ⟨p, vs, rfl, h1, r1⟩ := lst_at rx
    cases (show v = V.int k from ry)
    by_cases hz : -1000000 ≤ k ∧ k ≤ 1000 ∧ a.length ≤ 1000
    · rw [if_pos hz] at h
      refine ⟨p, k, vs, rfl, rfl, h1.1, by omega, by omega, ?_, fun q hq => post_lst sr (VRs.rep r1 _) hq h⟩
      rw [← VRs.length r1, sz_eq]
      have h3 : a.length * k.toNat ≤ 1000 * 1000 := Nat.mul_le_mul hz.2.2 (by omega)
      refine Nat.le_trans h3 ?_
      decide
    · rw [if_neg hz] at h
      exact h.elim
  · exact h.elim
section
variable {X : Cx} {W : WX} {a b : Expr} {pos : Pos} {ma mb : Rho → M PV}
theorem me_mulL (ha : ME X W a ma) (hb : ME X W b mb) : ME X W (.BinOp a .Mult b pos) (eBin mulL ma mb) := me_bin op_rep t_mulL ha hb
end
noncomputable def addN (x y : PV) : M PV := fun st => match listOf x st, listOf y st with
  | some a, some b => if a.length + b.length ≤ SZ then .ok (.loc st.length) (st ++ [.lst (a ++ b)]) else .bad
  | _, _ => .bad
theorem t_addN {K : KW} : T2 K rCat addN := by
  intro μ st H x y u v E Q sr rx ry h
  unfold addN at h
  cases q1 : listOf x st with
  | none => rw [q1] at h; exact h.elim
  | some a =>
    cases q2 : listOf y st with
    | none => rw [q1, q2] at h; exact h.elim
    | some b =>
      rw [q1, q2] at h
      dsimp only at h
      by_cases hz : a.length + b.length ≤ SZ
      · rw [if_pos hz] at h
        obtain ⟨p, vs, rfl, h1, r1⟩ := listOf_at sr rx q1
        obtain ⟨p', vs', rfl, h2, r2⟩ := listOf_at sr ry q2
        exact ⟨p, p', vs, vs', rfl, rfl, h1, h2, by rw [← VRs.length r1, ← VRs.length r2, sz_eq]; exact hz, fun q hq => post_cell h sr hq ⟨_, upd_same, VRs.mono (gr_alloc hq) _ _ (VRs.append r1 r2)⟩⟩
      · rw [if_neg hz] at h; exact h.elim
section
variable {X : Cx} {W : WX} {a b : Expr} {pos : Pos} {ma mb : Rho → M PV}
theorem me_addN (ha : ME X W a ma) (hb : ME X W b mb) : ME X W (.BinOp a .Add b pos) (eBin addN ma mb) := me_bin op_cat t_addN ha hb
end
end MP

set_option maxRecDepth 100000
namespace MP
open PySem L2 PySem.Spec PyProof.Rows
noncomputable def pairsOf : List PV → Option (List (PV × PV))
  | [] => some []
  | .tup [k, v] :: r => (pairsOf r).map fun ps => (k, v) :: ps
  | _ :: _ => none
noncomputable def dictM (xs : List PV) : M PV := fun st => match xs with
  | [x] => match dctOf x st with
    | some kvs => .ok (.loc st.length) (st ++ [.dct kvs])
    | none => match listOf x st with
      | some ys => match pairsOf ys with
        | some ps => if keysOk ps = true then .ok (.loc st.length) (st ++ [.dct (mergeP [] ps)]) else .bad
        | none => .bad
      | none => .bad
  | _ => .bad
noncomputable abbrev rDictD : List V → Hp → VK → Prop := fun xs H Q => ∃ (a : Addr) (kvs : List (Key × V)), xs = [.ref a] ∧ Rd H a (.dK kvs) ∧ ∀ p, H p = none → Q (.ref p) (upd H p (.dK kvs))
noncomputable abbrev rDictP (K : PySem.W.Frag) : List V → Hp → VK → Prop := fun xs H Q => ∃ (a : Addr) (ps : List Addr) (kvs : List (Key × V)), xs = [.ref a] ∧ SqL K H a (ps.map V.ref) ∧ Paired (fun p kv => SqT K H p [kV kv.1, kv.2]) ps kvs ∧ ∀ p, H p = none → Q (.ref p) (upd H p (.dK (mergeK [] kvs)))
theorem pairs_at {K : PySem.W.Frag} {H : Hp} {μ : Mu} : ∀ {ys : List PV} {vs : List V} {ps : List (PV × PV)}, VRs K H μ ys vs → pairsOf ys = some ps → keysOk ps = true → ∃ (as : List Addr) (kvs : List (Key × V)), vs = as.map V.ref ∧ Paired (fun p kv => SqT K H p [kV kv.1, kv.2]) as kvs ∧ KRs K H μ ps kvs
  | [], vs, ps, r, h, hk => by cases h; have e : vs = [] := r; subst e; exact ⟨[], [], rfl, .nil, rfl⟩
  | y :: ys, vs, ps, r, h, hk => by
    obtain ⟨v, t, rfl, r1, r2⟩ := r
    unfold pairsOf at h
    split at h
    · rename_i e; cases e
    · rename_i k x r' e
      cases e
      cases q : pairsOf ys with
      | none => rw [q] at h; cases h
      | some ps' =>
        rw [q] at h
        cases h
        have hk' : (keyOf k).isSome = true ∧ keysOk ps' = true := by simpa [keysOk] using hk
        obtain ⟨k', ek⟩ := Option.isSome_iff_exists.mp hk'.1
        obtain ⟨a, ws, rfl, ha, rw_⟩ := tup_at r1
        obtain ⟨w1, t1, rfl, rk, t2⟩ := rw_
        obtain ⟨w2, t3, rfl, rv, t4⟩ := t2
        have e3 : t3 = [] := t4
        subst e3
        obtain ⟨as, kvs, rfl, hp, hr⟩ := pairs_at r2 q hk'.2
        have e1 := keyOf_kV ek rk
        subst e1
        exact ⟨a :: as, (k', w2) :: kvs, rfl, .cons ha.sq hp, k', w2, kvs, rfl, ek, rv, hr⟩
    · cases h
theorem t_dictM {K : KW} : TL K (fun xs H Q => rDictD xs H Q ∨ rDictP K xs H Q) dictM := by
  intro μ st H xs us E Q sr r h
  cases xs with
  | nil => exact h.elim
  | cons x t =>
    cases t with
    | cons y t => exact h.elim
    | nil =>
      obtain ⟨u, rfl, rx⟩ := one_of r
      unfold dictM at h
      dsimp only at h
      cases hd : dctOf x st with
      | some kvs =>
        rw [hd] at h
        obtain ⟨n, a, kv, ex, rfl, ha, hc, h1, h2⟩ := dctOf_at sr rx hd
        exact .inl ⟨a, kv, rfl, .of h1, fun p hp => post_cell h sr hp ⟨_, upd_same, KRs.mono (gr_alloc hp).v _ _ h2⟩⟩
      | none =>
        rw [hd] at h
        dsimp only at h
        cases hl : listOf x st with
        | none => rw [hl] at h; exact h.elim
        | some ys =>
          rw [hl] at h
          dsimp only at h
          cases hp : pairsOf ys with
          | none => rw [hp] at h; exact h.elim
          | some ps =>
            rw [hp] at h
            dsimp only at h
            by_cases hk : keysOk ps = true
            · rw [if_pos hk] at h
              obtain ⟨a, vs, rfl, h1, r1⟩ := listOf_at sr rx hl
              obtain ⟨as, kvs, rfl, hpr, hkr⟩ := pairs_at r1 hp hk
              exact .inr ⟨a, as, kvs, rfl, SqL.of h1, hpr, fun p hp => post_cell h sr hp ⟨_, upd_same, KRs.mono (gr_alloc hp).v _ _ (KRs.merge hkr (show KRs K H μ [] [] from rfl))⟩⟩
            · rw [if_neg hk] at h; exact h.elim
section
variable {X : Cx} {W : WX} {e : Expr} {p pos : Pos} {ma : Rho → M (List PV)}
theorem me_dictOf (hc : X.calm = true) (hg : Gl X "dict") (hm : X.mg "dict" = none) (ha : MA X W [e] ma) (he : starEach [e] X.env = (false, eval e X.env) :: starEach [] X.env := by kernel_rfl) : ME X W (.Call (.Name "dict" p) [e] [] pos) (eCall dictM ma) :=
  me_callTy (call_dictD.or (call_dictP hc)) t_dictM hg hm (by decide +kernel) ha (by decide) (by decide) he rfl
end
noncomputable def sortI (ns : List Int) : List Int := ns.mergeSort (fun a b => decide (a ≤ b))
noncomputable def sortS (ns : List (List Nat)) : List (List Nat) := ns.mergeSort (fun a b => decide (a ≤ b))
theorem sortI_of {ns ys : List Int} (h : ys.Perm ns) (hs : ys.Pairwise (· ≤ ·)) : ys = sortI ns := by
  have h1 : (sortI ns).Perm ns := List.mergeSort_perm _ _
  have h2 : (sortI ns).Pairwise (fun a b => decide (a ≤ b) = true) := List.pairwise_mergeSort (fun a b c h1 h2 => by simp at *; omega) (fun a b => by simp; omega) ns
  exact PySem.W.lks_uniq (h.trans h1.symm) hs (h2.imp fun h => by simpa using h)
theorem sortS_of {ns ys : List (List Nat)} (h : ys.Perm ns) (hs : ys.Pairwise (· ≤ ·)) : ys = sortS ns := by
  have h1 : (sortS ns).Perm ns := List.mergeSort_perm _ _
  have h2 : (sortS ns).Pairwise (fun a b => decide (a ≤ b) = true) := List.pairwise_mergeSort (fun a b c h1 h2 => by simp at *; exact List.le_trans h1 h2) (fun a b => by simp; exact List.le_total a b) ns
  exact (h.trans h1.symm).eq_of_pairwise (fun a b _ _ h1 h2 => List.le_antisymm h1 h2) hs (h2.imp fun h => by simpa using h)
noncomputable abbrev mkS (x : List Nat) : Str := ⟨x.toArray⟩
theorem rising_pw : ∀ {l : List (List Nat)} {p : List Nat}, risingS (mkS p) (l.map mkS) = true → (∀ x ∈ l, p ≤ x) ∧ l.Pairwise (· ≤ ·)
  | [], p, _ => ⟨fun x hx => absurd hx (by simp), .nil⟩
  | x :: l, p, h => by
    rw [List.map_cons] at h
    unfold risingS at h
    rw [Bool.and_eq_true] at h
    obtain ⟨h1, h2⟩ := h
    obtain ⟨g1, g2⟩ := rising_pw h2
    have hpx : p ≤ x := by
      have : ltCps x p = false := by simpa using h1
      rw [ltCps_eq] at this
      have : ¬ x < p := by simpa using this
      exact List.not_lt.mp this
    refine ⟨fun y hy => ?_, .cons g1 g2⟩
    rcases List.mem_cons.mp hy with e | e
    · subst e; exact hpx
    · exact List.le_trans hpx (g1 y e)
theorem sorted_pw {l : List (List Nat)} (h : sortedS (l.map mkS) = true) : l.Pairwise (· ≤ ·) := by
  cases l with
  | nil => exact .nil
  | cons x l =>
    obtain ⟨g1, g2⟩ := rising_pw (show risingS (mkS x) (l.map mkS) = true from h)
    exact .cons g1 g2
theorem strs_back : ∀ (ys : List Str), ys = (ys.map fun y => y.cps.toList).map mkS
  | [] => rfl
  | y :: ys => by rw [List.map_cons, List.map_cons, ← strs_back ys]
theorem sortS_str {ns : List (List Nat)} {ys : List Str} (h : ys.Perm (ns.map mkS)) (hs : sortedS ys = true) : ys = (sortS ns).map mkS := by
  have e := strs_back ys
  rw [e] at h hs
  have hp : (ys.map fun y => y.cps.toList).Perm ns := by
    have := h.map (fun y : Str => y.cps.toList)
    have e2 : ∀ l : List (List Nat), (l.map mkS).map (fun y : Str => y.cps.toList) = l := fun l => by
      induction l with
      | nil => rfl
      | cons x l ih => rw [List.map_cons, List.map_cons, ih]
    rw [e2, e2] at this
    exact this
  rw [e, ← sortS_of hp (sorted_pw hs)]
noncomputable def sortedM (xs : List PV) : M PV := fun st => match xs with
  | [x] => match dctOf x st with
    | some kvs => match strsOf (kvs.map Prod.fst) with
      | some ss => if ss.length < 64 then .ok (.lst ((sortS ss).map .str)) st else .bad
      | none => match intsOf (kvs.map Prod.fst) with
        | some ns => .ok (.lst ((sortI ns).map .int)) st
        | none => .bad
    | none => match listOf x st with
      | some ys => match intsOf ys with
        | some ns => .ok (.lst ((sortI ns).map .int)) st
        | none => match strsOf ys with
          | some ss => if ss.length < 64 then .ok (.lst ((sortS ss).map .str)) st else .bad
          | none => .bad
      | none => .bad
  | _ => .bad
theorem krs_str {K : PySem.W.Frag} {H : Hp} {μ : Mu} : ∀ {kvs : List (PV × PV)} {kv : List (Key × V)} {ss : List (List Nat)}, KRs K H μ kvs kv → strsOf (kvs.map Prod.fst) = some ss → kv.map (·.1) = (ss.map mkS).map Sum.inr
  | [], kv, ss, r, h => by cases h; have e : kv = [] := r; subst e; rfl
  | (p, q) :: kvs, kv, ss, r, h => by
    obtain ⟨k, v, t, rfl, ek, h1, h2⟩ := r
    rw [List.map_cons] at h
    cases p with
    | str x =>
      simp only [strsOf] at h
      cases q' : strsOf (kvs.map Prod.fst) with
      | none => rw [q'] at h; cases h
      | some t' =>
        rw [q'] at h
        cases h
        have : k = Sum.inr (mkS x) := by simpa [keyOf] using ek.symm
        subst this
        rw [List.map_cons, List.map_cons, List.map_cons, krs_str h2 q']
    | _ => cases h
theorem krs_int {K : PySem.W.Frag} {H : Hp} {μ : Mu} : ∀ {kvs : List (PV × PV)} {kv : List (Key × V)} {ss : List Int}, KRs K H μ kvs kv → intsOf (kvs.map Prod.fst) = some ss → kv.map (·.1) = ss.map Sum.inl
  | [], kv, ss, r, h => by cases h; have e : kv = [] := r; subst e; rfl
  | (p, q) :: kvs, kv, ss, r, h => by
    obtain ⟨k, v, t, rfl, ek, h1, h2⟩ := r
    rw [List.map_cons] at h
    cases p with
    | int x =>
      simp only [intsOf] at h
      cases q' : intsOf (kvs.map Prod.fst) with
      | none => rw [q'] at h; cases h
      | some t' =>
        rw [q'] at h
        cases h
        have : k = Sum.inl x := by simpa [keyOf] using ek.symm
        subst this
        rw [List.map_cons, List.map_cons, krs_int h2 q']
    | _ => cases h
theorem vrs_strs {K : PySem.W.Frag} {H : Hp} {μ : Mu} : ∀ {ss : List (List Nat)}, VRs K H μ (ss.map PV.str) ((ss.map mkS).map V.str)
  | [] => rfl
  | x :: ss => ⟨_, _, rfl, rfl, vrs_strs (ss := ss)⟩
noncomputable abbrev rSortedD : List V → Hp → VK → Prop := fun xs H Q => ∃ (a : Addr) (kvs : List (Key × V)) (ks : List Str), xs = [.ref a] ∧ Rd H a (.dK kvs) ∧ kvs.map (·.1) = ks.map Sum.inr ∧ ks.length < 64 ∧ ∀ ys p, ys.Perm ks → sortedS ys = true → H p = none → Q (.ref p) (upd H p (.lst (ys.map V.str)))
noncomputable abbrev rSortedDI : List V → Hp → VK → Prop := fun xs H Q => ∃ (a : Addr) (kvs : List (Key × V)) (ks : List Int), xs = [.ref a] ∧ Rd H a (.dK kvs) ∧ kvs.map (·.1) = ks.map Sum.inl ∧ ∀ (ys : List Int) (p : Addr), ys.Perm ks → ys.Pairwise (· ≤ ·) → H p = none → Q (.ref p) (upd H p (.lst (ys.map V.int)))
theorem call_sortedDA {X : Cx} (hcalm : X.calm = true) : CallR X (.builtin "sorted") rSortedDI := by
  intro pins s σ H xs us Q I r ⟨a, kvs, ks, ex, hd, hks, q⟩
  subst ex
  obtain ⟨u, rfl, rx⟩ := vals1 r
  cases rx
  obtain ⟨hz, lo, vs, rel, dd⟩ := dk_rd I.hok hd
  obtain ⟨ep, hat⟩ := dd.dictAt
  have hkeys : vs.map (·.1) = ks.map Sum.inl := rel.keys.symm.trans hks
  have hl : vs.length = ks.length := by simpa using congrArg List.length hkeys
  have hz2 : vs.length ≤ sizeLine := by rw [← rel.length]; exact hz
  have hz3 : ks.length ≤ sizeLine := by rw [← hl]; exact hz2
  refine Calls.call_function_entry PyProof.Rows.kind_sorted PyProof.Rows.plain_sorted PyProof.Rows.entry_sorted (PyProof.Rows.args_sorted1 _) ?_
  unfold Builtin.«sorted»
  refine wpAny_bind (m := checkCount "sorted" 1 1 _) (wpAny_pure ?_)
  refine wpAny_bind (PySem.W.kdu_collect (A := X.A.in1) (PySem.W.kdl_dict (knd := mixKind X.prog X.w) (kvs := vs) (ep := ep) lo) (I.ok.hd hcalm) hat hz2 fun h1 tk acc hk hacc => ?_)
  have hal : acc.toList.length = ks.length := by rw [Array.length_toList, hacc.1, hl]
  have hS : IntsAre acc.toList ks := ints_each hal fun j v e => by
    obtain ⟨k, x, e1, e2⟩ := hacc.2 j v (by rw [← Array.getElem?_toList]; exact e)
    have e3 : (vs.map (·.1))[j]? = some k := by rw [List.getElem?_map, e1]; rfl
    rw [hkeys, List.getElem?_map] at e3
    cases e4 : ks[j]? with
    | none => rw [e4] at e3; cases e3
    | some y =>
      rw [e4] at e3
      have e5 : Sum.inl y = k := Option.some.inj e3
      subst e5
      rcases keyIs_shape (show keyIs (Sum.inl y) v = true from e2) with ⟨i, t, ek, ev⟩ | ⟨z, t, ek, ev⟩
      · cases ek
        exact ⟨y, t, rfl, ev⟩
      · cases ek
  have I1 : Inv X pins σ H { s with heap := h1, toks := tk } := I.kept hk
  refine wpAny_bind (wpAny_newList ?_ (by rw [hal]; exact hz3))
  have hoL : (h1.push (seqObj "list" acc.toList.toArray 0)).get? h1.objs.size = some (seqObj "list" acc.toList.toArray 0) := Heap.get?_push_size _ rfl
  show wpAny _ _ _ _ _ { s with heap := h1.push (seqObj "list" acc.toList.toArray 0), toks := tk }
  refine wpAny_bind (wpAny_holding (wpAny_call_entry PyProof.Rows.slot_list_sort ⟨_, hoL, rfl⟩ PyProof.Rows.entry_list_sort
    (SrtO.list_sort_ord (s := { s with heap := h1.push (seqObj "list" acc.toList.toArray 0), toks := tk }) SrtO.swo_int hoL (by rw [hal]; exact hz3) (fun h2 => SrtO.ints_sortable hS h2) fun out g1 g2 => ⟨_, rfl, ?_⟩) (PyProof.Rows.args_list_sort _)))
  obtain ⟨k1, k2, k3⟩ := SrtO.ints_out hS g1 g2
  obtain ⟨e', he'⟩ := PyProof.Rows.sortedHeap_at (vs := acc.toList) (out := out.toArray) hoL
  have hlen : ((out.map SrtO.iv).map V.int).length ≤ sizeLine := by
    rw [List.length_map, k2.length_eq]
    exact hz3
  refine wpAny_pure ⟨_, rfl, .ref h1.objs.size, upd H h1.objs.size (.lst ((out.map SrtO.iv).map V.int)), I1.laid (t' := tk) (fun b u e => ?_) (Nat.le_refl _)
    (show ObjOk X.prog X.w _ _ _ (.lst ((out.map SrtO.iv).map V.int)) from ⟨hlen, out, e', vals_of_ints k1, he'⟩), rfl, q _ _ k2 k3 (I1.hok.fresh (Nat.le_refl _))⟩
  have hb : b < h1.objs.size := Heap.lt_size e
  rw [PyProof.Rows.sortedHeap_old (Nat.ne_of_lt hb) (by rw [size_push']; exact Nat.lt_succ_of_lt hb)]
  exact Heap.get?_push_of_some _ e
theorem t_sortedM {K : KW} : TL K (fun xs H Q => (rSortedD xs H Q ∨ rSortedDI xs H Q) ∨ (rSortedI K xs H Q ∨ rSortedS K xs H Q)) sortedM := by
  intro μ st H xs us E Q sr r h
  cases xs with
  | nil => exact h.elim
  | cons x t =>
    cases t with
    | cons y t => exact h.elim
    | nil =>
      obtain ⟨u, rfl, rx⟩ := one_of r
      unfold sortedM at h
      dsimp only at h
      cases hd : dctOf x st with
      | some kvs =>
        rw [hd] at h
        dsimp only at h
        obtain ⟨n, a, kv, ex, rfl, ha, hc, h1, h2⟩ := dctOf_at sr rx hd
        cases hs : strsOf (kvs.map Prod.fst) with
        | some ss =>
          rw [hs] at h
          dsimp only at h
          by_cases hz : ss.length < 64
          · rw [if_pos hz] at h
            refine .inl (.inl ⟨a, kv, ss.map mkS, rfl, .of h1, krs_str h2 hs, by rw [List.length_map]; exact hz, fun ys p hp hso hf => ?_⟩)
            rw [sortS_str hp hso]
            exact post_lst sr vrs_strs hf h
          · rw [if_neg hz] at h; exact h.elim
        | none =>
          rw [hs] at h
          dsimp only at h
          cases hi : intsOf (kvs.map Prod.fst) with
          | none => rw [hi] at h; exact h.elim
          | some ns =>
            rw [hi] at h
            dsimp only at h
            refine .inl (.inr ⟨a, kv, ns, rfl, .of h1, krs_int h2 hi, fun ys p hp hso hf => ?_⟩)
            rw [sortI_of hp hso]
            exact post_lst sr VRs.ints hf h
      | none =>
        rw [hd] at h
        dsimp only at h
        cases hl : listOf x st with
        | none => rw [hl] at h; exact h.elim
        | some ys =>
          rw [hl] at h
          dsimp only at h
          obtain ⟨a, vs, rfl, h1, r1⟩ := listOf_at sr rx hl
          cases hi : intsOf ys with
          | some ns =>
            rw [hi] at h
            dsimp only at h
            have e := intsOf_at r1 hi
            subst e
            refine .inr (.inl ⟨a, ns, rfl, SqL.of h1, fun ys p hp hso hf => ?_⟩)
            rw [sortI_of hp hso]
            exact post_lst sr VRs.ints hf h
          | none =>
            rw [hi] at h
            dsimp only at h
            cases hs : strsOf ys with
            | none => rw [hs] at h; exact h.elim
            | some ss =>
              rw [hs] at h
              dsimp only at h
              by_cases hz : ss.length < 64
              · rw [if_pos hz] at h
                have e := strsOf_at r1 hs
                subst e
                refine .inr (.inr ⟨a, ss.map mkS, rfl, SqL.of h1, by rw [List.length_map]; exact hz, fun ys p hp hso hf => ?_⟩)
                rw [sortS_str hp hso]
                exact post_lst sr vrs_strs hf h
              · rw [if_neg hz] at h; exact h.elim
section
variable {X : Cx} {W : WX} {e : Expr} {p pos : Pos} {ma : Rho → M (List PV)}
theorem me_sorted (hc : X.calm = true) (hg : Gl X "sorted") (hm : X.mg "sorted" = none) (ha : MA X W [e] ma) (he : starEach [e] X.env = (false, eval e X.env) :: starEach [] X.env := by kernel_rfl) : ME X W (.Call (.Name "sorted" p) [e] [] pos) (eCall sortedM ma) :=
  me_callB (((call_sortedD hc).or (call_sortedDA hc)).or (cr_sortedI.or cr_sortedS)) t_sortedM hg hm (by decide +kernel) ha (by decide) (by decide) he rfl
end
end MP

set_option maxRecDepth 100000
set_option maxHeartbeats 1000000
namespace MP
open PySem L2
noncomputable def isGd (x : PV) : M Unit := fun st => match x with
  | .loc n => match st[n]? with
    | some (.dcl _) => .ok () st
    | some (.dcn _) => .ok () st
    | _ => .bad
  | _ => .bad
noncomputable def ggetM (x y : PV) : M PV := fun st => match gdOf x y st with
  | some kvs => .ok ((lookP kvs y).getD .non) st
  | none => .bad
noncomputable def eGetG (mo me : Rho → M PV) : Rho → M PV := fun ρ => M.bind (mo ρ) fun x => M.bind (isGd x) fun _ => M.bind (me ρ) fun y => ggetM x y
end MP

set_option maxRecDepth 100000
set_option maxHeartbeats 1000000
namespace MP
open PySem L2
theorem ER.monov {K : PySem.W.Frag} {H H' : Hp} {μ μ' : Mu} {ρ : Rho} {σ : St} (g : Gv μ H μ' H') (e : ER K H μ ρ σ) : ER K H' μ' ρ σ :=
  ⟨e.len, fun i p h => let ⟨v, h1, h2⟩ := e.get i p h; ⟨v, h1, VR.monov g p v h2⟩⟩
section
variable {K : KW} {H H1 : Hp} {μ : Mu} {a : Addr} {n : Nat} {kvs : List (PV × PV)} {kv : List (Key × V)} {od : Obj}
theorem KRs.at : ∀ {kvs : List (PV × PV)} {kv : List (Key × V)} {i : Nat} {p : PV}, KRs K H μ kvs kv → (kvs.map Prod.fst)[i]? = some p → ∃ k v, kv[i]? = some (k, v) ∧ VR K H μ p (kV k)
  | [], _, _, _, _, e => by simp at e
  | q :: r, kv, 0, p, h, e => by
    obtain ⟨k, v, t, rfl, hk, _, _⟩ := h
    simp at e
    subst e
    refine ⟨k, v, rfl, ?_⟩
    cases hq : q.1 with
    | int i => rw [hq] at hk; cases hk; rfl
    | str x => rw [hq] at hk; cases hk; rfl
    | _ => rw [hq] at hk; cases hk
  | q :: r, kv, i + 1, p, h, e => by
    obtain ⟨k, v, t, rfl, hk, _, h2⟩ := h
    obtain ⟨k', v', e1, e2⟩ := KRs.at (i := i) (p := p) h2 (by simpa using e)
    exact ⟨k', v', by simpa using e1, e2⟩
end
end MP

set_option maxRecDepth 100000
set_option maxHeartbeats 1000000
namespace MP
open PySem L2 PySem.Spec PyProof.Rows
section
variable {prog : Program} {w : World} {A : Around} {E : Value → Shared → Prop} {s : Shared}
end
noncomputable def enumG (xs : List PV) : M (List PV) := match xs with
  | [p] => match skOf p with
    | some ps => M.ret (enumP ps)
    | none => M.fail
  | _ => M.fail
end MP

set_option maxRecDepth 100000
set_option maxHeartbeats 1000000
namespace MP
open PySem L2
noncomputable def mulS (x y : PV) : M PV := match x, y with
  | .str a, .int k => if -1000000 ≤ k ∧ k ≤ 1000 ∧ a.length ≤ 1000 then M.ret (.str (List.replicate k.toNat a).flatten) else M.fail
  | _, _ => M.fail
end MP

set_option maxRecDepth 100000
set_option maxHeartbeats 1000000
namespace MP
open PySem L2
noncomputable def fV : V → Bool
  | .non => true
  | .int _ => true
  | .str _ => true
  | _ => false
theorem eqAt_flat {A : Around} {s : Shared} {x y : V} {v u : Value} (hx : fV x = true) (hy : fV y = true) (rx : RelV x v) (ry : RelV y u) : SeqAt.EqAt A s v u (decide (x = y)) := by
  cases x <;> simp [fV] at hx <;> cases y <;> simp [fV] at hy
  case non.non => cases rx; cases ry; exact SeqAt.EqAt.same _
  case non.int => cases rx; obtain ⟨t, rfl⟩ := ry; exact SeqAt.EqAt.none_int _ _
  case non.str => cases rx; obtain ⟨t, rfl⟩ := ry; exact SeqAt.EqAt.none_str _ _
  case int.non => cases ry; obtain ⟨t, rfl⟩ := rx; exact SeqAt.EqAt.int_none _ _
  case int.int i j =>
    obtain ⟨t, rfl⟩ := rx; obtain ⟨t', rfl⟩ := ry
    refine (SeqAt.EqAt.int_int i t j t').cast ?_
    by_cases h : i = j
    · subst h; simp
    · rw [decide_eq_false (fun z => h (V.int.inj z))]; simpa using h
  case int.str => obtain ⟨t, rfl⟩ := rx; obtain ⟨t', rfl⟩ := ry; exact SeqAt.EqAt.int_str _ _ _ _
  case str.non => cases ry; obtain ⟨t, rfl⟩ := rx; exact SeqAt.EqAt.str_none _ _
  case str.int => obtain ⟨t, rfl⟩ := rx; obtain ⟨t', rfl⟩ := ry; exact SeqAt.EqAt.str_int _ _ _ _
  case str.str a b =>
    obtain ⟨t, rfl⟩ := rx; obtain ⟨t', rfl⟩ := ry
    refine (SeqAt.EqAt.str_str a t b t').cast ?_
    by_cases h : a = b
    · subst h; simp
    · rw [decide_eq_false (fun z => h (V.str.inj z))]; simpa using h
noncomputable def dEqV (ks ls : List (Key × V)) : Bool := (ks.length == ls.length) && ks.all fun p => decide (valV ls p.1 = some p.2)
noncomputable def rEqDD (n : Bool) : R2 := fun x y H Q => ∃ a b ks ls, x = .ref a ∧ y = .ref b ∧ H a = some (.dK ks) ∧ H b = some (.dK ls) ∧ ks.all (fun p => fV p.2) = true ∧ ls.all (fun p => fV p.2) = true ∧ Q (.bl (ng n (dEqV ks ls))) H
theorem hits_of {A : Around} {s : Shared} {ls : List (Key × V)} {vb : List (Key × Value)} (rb : KV ls vb) (fl : ls.all (fun p => fV p.2) = true) {ks : List (Key × V)} {va : List (Key × Value)} (ra : KV ks va) (fk : ks.all (fun p => fV p.2) = true) :
    PySem.W.KeqHits A s vb va (ks.all fun p => decide (valV ls p.1 = some p.2)) := by
  unfold KV at ra
  induction ra with
  | nil => exact .nil
  | @cons p q ps qs h t ih =>
    rw [List.all_cons, Bool.and_eq_true] at fk
    rw [List.all_cons]
    obtain ⟨h1, h2⟩ := h
    obtain ⟨key, v⟩ := q
    have h1' : p.1 = key := h1
    subst h1'
    have rr := rb.val p.1
    cases e : valV ls p.1 with
    | none =>
      rw [e] at rr
      simp only [reduceCtorEq, decide_false, Bool.false_and]
      exact .miss (RelO.none_of rr)
    | some u =>
      rw [e] at rr
      obtain ⟨y, hy, ry⟩ := rr.some_of
      have fu : fV u = true := by
        have hm : ∃ p' ∈ ls, p'.2 = u := by
          unfold valV at e
          obtain ⟨p', e1, e2⟩ := Option.map_eq_some_iff.mp e
          exact ⟨p', List.mem_of_find?_eq_some e1, e2⟩
        obtain ⟨p', m, rfl⟩ := hm
        exact List.all_eq_true.mp fl p' m
      have hh := PySem.W.KeqHits.hit hy (eqAt_flat (A := A) (s := s) fk.1 fu h2 ry) (ih fk.2)
      have e2 : decide (p.2 = u) = decide (some u = some p.2) := by
        by_cases z : p.2 = u
        · subst z; simp
        · rw [decide_eq_false z, decide_eq_false (fun w => z (Option.some.inj w).symm)]
      rw [e2] at hh
      exact hh
theorem op_eqDD {X : Cx} (hu : X.A.units + 64 < cLine) : OpR X (compareOp .Eq) (rEqDD false) := by
  intro pins s σ H x y v u Q I rx ry h
  obtain ⟨a, b, ks, ls, rfl, rfl, ha, hb, fk, fl, q⟩ := h
  cases rx; cases ry
  obtain ⟨_, la, va, ra, da⟩ := dk_of I.hok ha
  obtain ⟨_, lb, vb, rb, db⟩ := dk_of I.hok hb
  refine PySem.W.keq_eq la lb da db (by omega) (fun _ => hits_of rb fl ra fk) ⟨.bl (dEqV ks ls), H, I, ?_, q⟩
  rw [← ra.length, ← rb.length]; rfl
theorem op_neDD {X : Cx} (hu : X.A.units + 64 < cLine) : OpR X (compareOp .NotEq) (rEqDD true) := by
  intro pins s σ H x y v u Q I rx ry h
  obtain ⟨a, b, ks, ls, rfl, rfl, ha, hb, fk, fl, q⟩ := h
  cases rx; cases ry
  obtain ⟨_, la, va, ra, da⟩ := dk_of I.hok ha
  obtain ⟨_, lb, vb, rb, db⟩ := dk_of I.hok hb
  refine PySem.W.keq_ne la lb da db (by omega) (fun _ => hits_of rb fl ra fk) ⟨.bl (!dEqV ks ls), H, I, ?_, q⟩
  rw [← ra.length, ← rb.length]; rfl
noncomputable def flP : PV → Bool
  | .non => true
  | .int _ => true
  | .str _ => true
  | _ => false
noncomputable def dEqP (kx ky : List (PV × PV)) : Bool := (kx.length == ky.length) && kx.all fun p => decide (lookP ky p.1 = some p.2)
theorem flP_V {K : PySem.W.Frag} {H : Hp} {μ : Mu} {p : PV} {v : V} (h : flP p = true) (r : VR K H μ p v) : fV v = true := by
  cases p <;> simp [flP] at h
  · cases (show v = V.non from r); rfl
  · rename_i i; cases (show v = V.int i from r); rfl
  · rename_i i; cases (show v = V.str ⟨i.toArray⟩ from r); rfl
theorem flP_dec {K : PySem.W.Frag} {H : Hp} {μ : Mu} {p q : PV} {v u : V} (h : flP p = true) (h' : flP q = true) (r : VR K H μ p v) (r' : VR K H μ q u) : (v = u) = (p = q) := by
  cases p <;> simp [flP] at h <;> cases q <;> simp [flP] at h'
  all_goals (first | cases (show v = V.non from r) | cases (show v = V.int _ from r) | cases (show v = V.str _ from r))
  all_goals (first | cases (show u = V.non from r') | cases (show u = V.int _ from r') | cases (show u = V.str _ from r'))
  all_goals simp
theorem KRs.flat {K : PySem.W.Frag} {H : Hp} {μ : Mu} : ∀ {kvs : List (PV × PV)} {kv : List (Key × V)}, KRs K H μ kvs kv → kvs.all (fun p => flP p.2) = true → kv.all (fun p => fV p.2) = true
  | [], kv, h, _ => by have e : kv = [] := h; subst e; rfl
  | p :: r, kv, h, f => by
    obtain ⟨k, v, t, rfl, _, rv, rt⟩ := h
    rw [List.all_cons, Bool.and_eq_true] at f ⊢
    exact ⟨flP_V f.1 rv, KRs.flat rt f.2⟩
theorem lookP_mem {ky : List (PV × PV)} {k p : PV} (h : lookP ky k = some p) : ∃ q ∈ ky, q.2 = p := by
  induction ky with
  | nil => cases h
  | cons q r ih =>
    unfold lookP at h
    by_cases e : q.1 = k
    · rw [if_pos e] at h; cases h; exact ⟨q, List.mem_cons_self, rfl⟩
    · rw [if_neg e] at h
      obtain ⟨q', m, e'⟩ := ih h
      exact ⟨q', List.mem_cons_of_mem _ m, e'⟩
theorem dEq_of {K : PySem.W.Frag} {H : Hp} {μ : Mu} {ky : List (PV × PV)} {ls : List (Key × V)} (rl : KRs K H μ ky ls) (fl : ky.all (fun p => flP p.2) = true) : ∀ {kx : List (PV × PV)} {ks : List (Key × V)}, KRs K H μ kx ks → kx.all (fun p => flP p.2) = true →
    (ks.all fun p => decide (valV ls p.1 = some p.2)) = (kx.all fun p => decide (lookP ky p.1 = some p.2))
  | [], ks, h, _ => by have e : ks = [] := h; subst e; rfl
  | p :: r, ks, h, f => by
    obtain ⟨k, v, t, rfl, hk, rv, rt⟩ := h
    rw [List.all_cons, Bool.and_eq_true] at f
    rw [List.all_cons, List.all_cons, dEq_of rl fl rt f.2]
    congr 1
    obtain ⟨l1, l2⟩ := KRs.look hk rl
    cases e : lookP ky p.1 with
    | none => rw [l2 e]; simp
    | some q =>
      obtain ⟨w, ew, rw'⟩ := l1 q e
      obtain ⟨z, m, rfl⟩ := lookP_mem e
      have fz : flP z.2 = true := List.all_eq_true.mp fl z m
      rw [ew]
      have := flP_dec fz f.1 rw' rv
      simp [this]
noncomputable def eqG (n : Bool) (x y : PV) : M PV := fun st => match dctOf x st, dctOf y st with
  | some kx, some ky => if (kx.all (fun p => flP p.2) && ky.all (fun p => flP p.2)) = true then .ok (.bl (ng n (dEqP kx ky))) st else .bad
  | _, _ => .bad
theorem t_eqG {K : KW} {n : Bool} : T2 K (rEqDD n) (eqG n) := by
  intro μ st H x y u v E Q sr rx ry h
  unfold eqG at h
  cases hx : dctOf x st with
  | none => rw [hx] at h; exact h.elim
  | some kx =>
    cases hy : dctOf y st with
    | none => rw [hx, hy] at h; exact h.elim
    | some ky =>
      rw [hx, hy] at h
      dsimp only at h
      by_cases hf : (kx.all (fun p => flP p.2) && ky.all (fun p => flP p.2)) = true
      · rw [if_pos hf] at h
        rw [Bool.and_eq_true] at hf
        obtain ⟨_, a, ks, _, rfl, _, _, h1, h2⟩ := dctOf_at sr rx hx
        obtain ⟨_, b, ls, _, rfl, _, _, h3, h4⟩ := dctOf_at sr ry hy
        refine ⟨a, b, ks, ls, rfl, rfl, h1, h3, KRs.flat h2 hf.1, KRs.flat h4 hf.2, ?_⟩
        have e : dEqV ks ls = dEqP kx ky := by
          unfold dEqV dEqP
          rw [dEq_of h4 hf.2 h2 hf.1, KRs.length h2, KRs.length h4]
        rw [e]
        exact post_same h sr rfl
      · rw [if_neg hf] at h
        exact h.elim
section
variable {X : Cx} {W : WX} {a b : Expr} {pos : Pos} {ma mb : Rho → M PV}
theorem mt_eqG (hu : X.A.units + 64 < cLine) (ha : ME X W a ma) (hb : ME X W b mb) : MT X W (.Compare a [.Eq] [b] pos) (eB (eBin (eqG false) ma mb)) := mt_cmp (op_eqDD hu) t_eqG ha hb (nomark _)
theorem mt_neG (hu : X.A.units + 64 < cLine) (ha : ME X W a ma) (hb : ME X W b mb) : MT X W (.Compare a [.NotEq] [b] pos) (eB (eBin (eqG true) ma mb)) := mt_cmp (op_neDD hu) t_eqG ha hb (nomark _)
end
end MP

set_option maxRecDepth 100000
set_option maxHeartbeats 1000000
namespace MP
open PySem L2
noncomputable abbrev GI := (Sto → Bool) × List PV
noncomputable def yesG : Sto → Bool := fun _ => true
theorem Sup.g {K : KW} {J : It} {ps : List PV} {μ : Mu} {H : Hp} (h : Sup K J ps μ H) : SupG K J ps yesG μ H := fun μ' H' st g s _ => h μ' H' st g s
noncomputable def anyM (v : PV) : M GI := fun st => match v with
  | .tup xs => .ok (yesG, xs) st
  | .lst xs => .ok (yesG, xs) st
  | .frz xs => .ok (yesG, xs) st
  | .str z => .ok (yesG, z.map fun c => .str [c]) st
  | .loc n => match st[n]? with
    | some (.lst xs) => .ok (gd n xs, xs) st
    | _ => .bad
  | _ => .bad
noncomputable def iAny (m : Rho → M PV) : Rho → M GI := fun ρ => M.bind (m ρ) anyM
noncomputable def enumA (v : PV) : M GI := fun st => match v with
  | .tup xs => .ok (yesG, enumP xs) st
  | .lst xs => .ok (yesG, enumP xs) st
  | .frz xs => .ok (yesG, enumP xs) st
  | .str z => .ok (yesG, enumP (z.map fun c => .str [c])) st
  | .loc n => match st[n]? with
    | some (.lst xs) => .ok (gd n xs, enumP xs) st
    | _ => .bad
  | _ => .bad
noncomputable def iEnumA (m : Rho → M PV) : Rho → M GI := fun ρ => M.bind (m ρ) enumA
section
variable {X : Cx} {W : WX} {tg e : Expr} {me : Rho → M PV}
variable {pos : Pos} {m : Rho → M Fl}
noncomputable def sForA (mi : Rho → M GI) (g : GM) (b : Rho → M Fl) : Rho → M Fl := fun ρ => onErr ρ (mi ρ) fun gx => forG gx.1 g b gx.2 ρ
noncomputable def eLcA (k : List PV → M PV) (mi : Rho → M GI) (g : GM) (t : Rho → M Bool) (e : Rho → M PV) (vs : List Nat) : Rho → M PV := fun ρ => M.bind (mi ρ) fun gx => M.bind (lcG gx.1 g t e (wipeP ρ vs) gx.2 []) k
end
end MP

set_option maxRecDepth 100000
namespace MP
open PySem L2 PySem.Spec PyProof.Rows
section
variable {X : Cx} {W : WX} {e : Expr} {p pos : Pos} {ma : Rho → M (List PV)}
end
section
variable {prog : Program} {w : World} {A : Around} {E : Value → Shared → Prop} {s : Shared} {x : Str} {t : Tok}
theorem hint_str {Q : Bool → Shared → Prop} (h : Q false s) : wpAny (model prog w) A (Builtin.List.listLengthHint (.str x t)) Q E s := by
  have hT := typeIs_str s x t
  unfold Builtin.List.listLengthHint
  refine wpAny_bind (wpAny_specialOf hT PySem.F.slot_str_len.lookup ?_)
  generalize hid : ("str.__len__" : String) = id0
  wp_delta
  rw [show splitId id0 = some ("str", "__len__") from by subst hid; decide +kernel]
  subst hid
  refine wpAny_bind (wpAny_isInstance (T := "str") (b := true) hT (by rw [isSubtype_type]; kernel_rfl) ?_)
  refine wpAny_ite_split (fun hab => absurd hab (by decide)) (fun _ => ?_)
  refine wpAny_ite_split (fun _ => ?_) (fun hab => absurd (by decide +kernel) hab)
  refine wpAny_bind (wpAny_typeOf hT ?_)
  exact wpAny_pure h
theorem extend_str {R : Result → Shared → Prop} (hh : A.handled = none) (S : Addr) (res : Value) (c0 : Nat) (hS : s.heap.get? S = some { cls := .type "list", data := .seq #[] c0 })
    (hR : ∀ h' tk acc' c', (∀ b o, b ≠ S → s.heap.get? b = some o → h'.get? b = some o) → h'.get? S = some { cls := .type "list", dict := none, data := .seq acc' c', slots := #[] } → ItemsOf (SignAt x) acc' x.cps.size → R (.ok (.ret res)) { s with heap := h', toks := tk }) (hn : x.cps.size ≤ sizeLine) :
    wpAny (model prog w) A.in1 (Builtin.List.listExtendWith (.ref S) (.str x t) res)
      (fun fin s' => match fin with | .done f => R (.ok f) s' | .again c' => c'.quiet = true ∧ codeAny (model prog w) A c' R s') (fun e s' => R (.error e) s') s := by
  have hSI : S ≠ s.heap.objs.size := Nat.ne_of_lt (Heap.lt_size hS)
  have hSf : S ∉ [s.heap.objs.size] := by simpa using hSI
  unfold Builtin.List.listExtendWith
  refine wpAny_bind (wpAny_typeOf (T := "str") (typeIs_str s x t) ?_)
  have h1 : Builtin.List.listSameRef (.ref S) (.str x t) = false := by simp [Builtin.List.listSameRef]
  have h2 : (Value.type "str" == Value.type "list") = false := by decide
  have h3 : (Value.type "str" == Value.type "tuple") = false := by decide
  simp only [h1, h2, h3, Bool.or_false, Bool.false_eq_true, if_false]
  refine wpAny_bind (wpAny_pyIter_str fun oI St W st => ?_)
  have key : ∀ (h : Heap) (c1 tk : Nat), St 0 h → (∀ b o, b ≠ S → s.heap.get? b = some o → h.get? b = some o) →
      h.get? S = some { cls := .type "list", data := .seq #[] c1 } → codeAny (model prog w) A (.builtin "list.extend.loop" ⟨[.ref S, .ref s.heap.objs.size, res], []⟩) R { s with heap := h, toks := tk } := by
    intro h c1 tk hst hk hS1
    refine codeAny_extend_loopS (W A.in1 hh).toS hn S hSf res x.cps.size 0 _ #[] c1 rfl (Nat.zero_le _) hst hS1 (ItemsOf.nil _) fun s' acc' c' hm hS' hacc => ?_
    rw [Moved.eq_with hm]
    refine hR s'.heap s'.toks acc' c' (fun b o hb e => hm.heap b o (fun hmem => ?_) (hk b o hb e)) hS' hacc
    rcases List.mem_cons.mp hmem with e' | hmem
    · exact hb e'
    · exact absurd (Heap.lt_size e) (by rw [List.mem_singleton.mp hmem]; exact Nat.lt_irrefl _)
  have hS1 := Heap.get?_push_of_some oI hS
  refine wpAny_bind (wpAny_holding (hint_str ?_))
  refine wpAny_ite_split (fun _ => ?_) (fun _ => wpAny_pure ⟨plainId_quiet PySem.F.plain_extend_loop _, key _ c0 _ st (fun b o _ e => Heap.get?_push_of_some _ e) hS1⟩)
  refine wpAny_bind (wpAny_rule ?_)
  refine wpAny_bind ?_
  show wpAny _ _ (updateSeq S (·.push .none) >>= fun _ => updateSeq S (·.pop)) _ _ _
  refine wpAny_bind (wpAny_updateSeq hS1 rfl ?_)
  have hS2 := Heap.get?_update_self (Obj.mapSeq (·.push Value.none)) hS1 rfl
  refine wpAny_updateSeq (hz := by seq_fits) hS2 rfl ?_
  have hS3 := Heap.get?_update_self (Obj.mapSeq (·.pop)) hS2 rfl
  refine wpAny_pure ⟨plainId_quiet PySem.F.plain_extend_loop _, key _ _ _ ?_ (fun b o hb e => ?_) hS3⟩
  · refine (W A.in1 hh).frame 0 _ _ st fun b hb o e => ?_
    have hbS : b ≠ S := fun h => hSf (h ▸ hb)
    exact (Heap.get?_update_other _ _ (Ne.symm hbS)).trans ((Heap.get?_update_other _ _ (Ne.symm hbS)).trans e)
  · exact (Heap.get?_update_other _ _ (Ne.symm hb)).trans ((Heap.get?_update_other _ _ (Ne.symm hb)).trans (Heap.get?_push_of_some _ e))
theorem list_str {Q : Value → Shared → Prop} (hh : A.handled = none) (hn : x.cps.size ≤ sizeLine)
    (hQ : ∀ h' tk acc' c', (∀ b o, s.heap.get? b = some o → h'.get? b = some o) → h'.get? s.heap.objs.size = some { cls := .type "list", dict := none, data := .seq acc' c', slots := #[] } → ItemsOf (SignAt x) acc' x.cps.size → Q (.ref s.heap.objs.size) { s with heap := h', toks := tk }) :
    wpAny (model prog w) A (call (.type "list") [.str x t]) Q E s := by
  refine callType_codes (Q₁ := fun obj s1 => obj = .ref s.heap.objs.size ∧ s1 = { s with heap := s.heap.push { cls := .type "list", data := .seq #[] } }) PySem.F.called_list (PySem.F.typeCall_list_1 _) PySem.F.entry_list_init
    (code_list_new _ ⟨rfl, rfl⟩) fun obj s1 h1 => ?_
  obtain ⟨rfl, rfl⟩ := h1
  have hS : (s.heap.push { cls := .type "list", data := .seq #[] }).get? s.heap.objs.size = some { cls := .type "list", data := .seq #[] } := Heap.get?_push_size _ rfl
  refine ⟨⟨_, hS, rfl⟩, PySem.F.args_list_init_2 _ _, ?_⟩
  show wpAny _ _ (do let old ← Builtin.List.listItems (.ref s.heap.objs.size); Builtin.List.listUpdate (.ref s.heap.objs.size) (fun _ => #[]); letGo old.toList.reverse; Builtin.List.listExtendWith (.ref s.heap.objs.size) (.str x t) .none) _ _ _
  refine wpAny_bind ?_
  unfold Builtin.List.listItems
  refine wpAny_bind (wpAny_seqItems hS rfl (wpAny_pure ?_))
  show wpAny _ _ (updateSeq s.heap.objs.size (fun _ => #[]) >>= fun _ => letGo (#[] : Array Value).toList.reverse >>= fun _ => Builtin.List.listExtendWith (.ref s.heap.objs.size) (.str x t) .none) _ _ _
  refine wpAny_bind (wpAny_updateSeq hS rfl ?_)
  have hS2 := Heap.get?_update_self (Obj.mapSeq (fun _ => (#[] : Array Value))) hS rfl
  have oth : ∀ b o, b ≠ s.heap.objs.size → (s.heap.push { cls := .type "list", data := .seq #[] }).get? b = some o → ((s.heap.push { cls := .type "list", data := .seq #[] }).update s.heap.objs.size (Obj.mapSeq (fun _ => (#[] : Array Value)))).get? b = some o :=
    fun b o hb e => (Heap.get?_update_other _ _ (Ne.symm hb)).trans e
  refine wpAny_bind (wpAny_letGo ?_)
  refine extend_str (A := A.in1) hh _ .none _ hS2 (fun h' tk acc' c' hk hS' hacc => ?_) hn
  exact ⟨rfl, hQ h' tk acc' c' (fun b o e => hk b o (Nat.ne_of_lt (Heap.lt_size e)) (oth b o (Nat.ne_of_lt (Heap.lt_size e)) (Heap.get?_push_of_some _ e))) hS' hacc⟩
end
noncomputable abbrev chS (a : List Nat) : List V := a.map fun c => V.str ⟨#[c]⟩
theorem signs_vals : ∀ {a : List Nat} {us : List Value}, us.length = a.length → (∀ (j : Nat) (v : Value), us[j]? = some v → ∃ (c : Nat) (u : Tok), a[j]? = some c ∧ v = Value.str ⟨#[c]⟩ u) → Vals (chS a) us
  | [], [], _, _ => .nil
  | [], _ :: _, h, _ => by simp at h
  | _ :: _, [], h, _ => by simp at h
  | c :: a, v :: us, h, hv => by
    obtain ⟨c', u, e1, e2⟩ := hv 0 v rfl
    have e3 : c = c' := by simpa using e1
    subst e3; subst e2
    exact .cons ⟨u, rfl⟩ (signs_vals (by simpa using h) fun j v e => hv (j + 1) v (by simpa using e))
noncomputable abbrev rListS : List V → Hp → VK → Prop := fun xs H Q => ∃ z : List Nat, xs = [.str ⟨z.toArray⟩] ∧ z.length ≤ SZ ∧ ∀ p, H p = none → Q (.ref p) (upd H p (.lst (chS z)))
theorem call_listS {X : Cx} (hcalm : X.calm = true) : CallR X (.type "list") rListS := by
  intro pins s σ H xs us Q I r ⟨z, ex, hz, q⟩
  subst ex
  obtain ⟨u, rfl, t, rfl⟩ := vals1 r
  have hz2 : z.length ≤ sizeLine := by rw [sz_eq]; exact hz
  refine list_str (I.ok.hd hcalm) (by simpa using hz2) fun h' tk acc c' hk hD hacc => ?_
  have hv : Vals (chS z) acc.toList := signs_vals (by rw [Array.length_toList, hacc.1]; simp) fun j v e => by
    obtain ⟨c, u, e1, e2⟩ := hacc.2 j v (by rw [← Array.getElem?_toList]; exact e)
    exact ⟨c, u, by simpa using e1, e2⟩
  exact ⟨.ref s.heap.objs.size, upd H s.heap.objs.size (.lst (chS z)), I.laid (t' := tk) hk (Nat.le_refl _)
    (show ObjOk X.prog X.w _ _ _ (.lst (chS z)) from ⟨by rw [List.length_map]; exact hz2, acc.toList, c', hv, by rw [Array.toArray_toList]; exact hD⟩), rfl, q _ (I.hok.fresh (Nat.le_refl _))⟩
noncomputable def itemsA (x : PV) (st : Sto) : Option (List PV) := match x with
  | .str a => if a.length ≤ SZ then some (a.map fun c => .str [c]) else none
  | x => match dctOf x st with
    | some kvs => some (kvs.map Prod.fst)
    | none => seqOf x st
noncomputable def listAN (xs : List PV) : M PV := fun st => match xs with
  | [x] => match itemsA x st with
    | some ys => .ok (.loc st.length) (st ++ [.lst ys])
    | none => .bad
  | _ => .bad
noncomputable abbrev rListD1 : List V → Hp → VK → Prop := fun xs H Q => ∃ (a : Addr) (kvs : List (Key × V)), xs = [.ref a] ∧ Rd H a (.dK kvs) ∧ ∀ p, H p = none → Q (.ref p) (upd H p (.lst (kvs.map fun kv => kV kv.1)))
theorem krs_keys {K : PySem.W.Frag} {H : Hp} {μ : Mu} : ∀ {kvs : List (PV × PV)} {kv : List (Key × V)}, KRs K H μ kvs kv → VRs K H μ (kvs.map Prod.fst) (kv.map fun p => kV p.1)
  | [], kv, r => by have e : kv = [] := r; subst e; rfl
  | (p, q) :: kvs, kv, r => by
    obtain ⟨k, v, t, rfl, ek, h1, h2⟩ := r
    refine ⟨kV k, _, rfl, ?_, krs_keys h2⟩
    cases p with
    | int i => cases ek; rfl
    | str z => cases ek; rfl
    | _ => cases ek
theorem vrs_signs {K : PySem.W.Frag} {H : Hp} {μ : Mu} : ∀ (a : List Nat), VRs K H μ (a.map fun c => .str [c]) (chS a)
  | [] => rfl
  | c :: a => ⟨_, _, rfl, rfl, vrs_signs a⟩
theorem itemsA_at {K : KW} {H : Hp} {μ : Mu} {st : Sto} {x : PV} {u : V} {ys : List PV} {Q : VK} (sr : SR K μ st H) (rx : VR K H μ x u) (h : itemsA x st = some ys)
    (q : ∀ vs p, VRs K H μ ys vs → H p = none → Q (.ref p) (upd H p (.lst vs))) : (rListM K [u] H Q ∨ rListD1 [u] H Q) ∨ rListS [u] H Q := by
  have gen : ∀ kvs', dctOf x st = some kvs' → ys = kvs'.map Prod.fst → (rListM K [u] H Q ∨ rListD1 [u] H Q) ∨ rListS [u] H Q := fun kvs' hd ey => by
    obtain ⟨n, a, kv, ex, rfl, ha, hc, h1, h2⟩ := dctOf_at sr rx hd
    subst ey
    exact .inl (.inr ⟨a, kv, rfl, .of h1, fun p hp => q _ p (krs_keys h2) hp⟩)
  have gen2 : seqOf x st = some ys → (rListM K [u] H Q ∨ rListD1 [u] H Q) ∨ rListS [u] H Q := fun hs => by
    obtain ⟨a, vs, rfl, hq, rs⟩ := seqOf_at sr rx hs
    exact .inl (.inl ⟨a, vs, rfl, hq, fun l hl => q vs l rs hl⟩)
  unfold itemsA at h
  split at h
  · rename_i a
    by_cases hz : a.length ≤ SZ
    · rw [if_pos hz] at h
      cases h
      cases (show u = V.str ⟨a.toArray⟩ from rx)
      exact .inr ⟨a, rfl, hz, fun p hp => q _ p (vrs_signs a) hp⟩
    · rw [if_neg hz] at h; cases h
  · cases hd : dctOf x st with
    | some kvs => rw [hd] at h; cases h; exact gen kvs hd rfl
    | none => rw [hd] at h; exact gen2 h
theorem t_listAN {K : KW} : TL K (fun xs H Q => (rListM K xs H Q ∨ rListD1 xs H Q) ∨ rListS xs H Q) listAN := by
  intro μ st H xs us E Q sr r h
  cases xs with
  | nil => exact h.elim
  | cons x t =>
    cases t with
    | cons y t => exact h.elim
    | nil =>
      obtain ⟨u, rfl, rx⟩ := one_of r
      unfold listAN at h
      dsimp only at h
      cases hs : itemsA x st with
      | none => rw [hs] at h; exact h.elim
      | some ys =>
        rw [hs] at h
        exact itemsA_at sr rx hs fun vs p rs hp => post_cell h sr hp ⟨_, upd_same, VRs.mono (gr_alloc hp) _ _ rs⟩
section
variable {X : Cx} {W : WX} {e : Expr} {p pos : Pos} {ma : Rho → M (List PV)}
theorem me_listAN (hc : X.calm = true) (hg : Gl X "list") (hm : X.mg "list" = none) (ha : MA X W [e] ma) (he : starEach [e] X.env = (false, eval e X.env) :: starEach [] X.env := by kernel_rfl) : ME X W (.Call (.Name "list" p) [e] [] pos) (eCall listAN ma) :=
  me_callTy ((call_list_of.or (call_listD hc)).or (call_listS hc)) t_listAN hg hm (by decide +kernel) ha (by decide) (by decide) he rfl
end
noncomputable def gAttr (cs : List String) (f : String) (mo : Rho → M PV) : GM := fun p ρ => M.bind (mo ρ) fun o => M.bind (setA cs f p o) fun _ => M.ret ρ
section
variable {X : Cx} {W : WX} {o : Expr} {f : String} {cs : List String} {pos : Pos} {mo : Rho → M PV} {ta : TE}
end
end MP

set_option maxRecDepth 100000
set_option maxHeartbeats 1000000
namespace MP
open PySem L2 PySem.Spec PyProof.Rows PySem.W
section
variable {prog : Program} {w : World} {A : Around} {E : Value → Shared → Prop} {s : Shared} {e it T : Addr} {fp : List Addr} {n i : Nat} {P : Nat → Value → Prop} {St : Nat → Heap → Prop} {old : Value} {f : Bool} {oT : Obj}
end
section
variable {prog : Program} {w : World} {e it : Addr} {fp : List Addr} {n : Nat} {P : Nat → Value → Prop} {St : Nat → Heap → Prop}
end
section
variable {X : Cx} {W : WX} {a : Expr} {ma : Rho → M PV} {p p2 q pos : Pos}
end
noncomputable def extendM (o : PV) (xs : List PV) : M PV := fun st => match lstCell o st with
  | some (n, ys) => match xs with
    | [x] => match listOf x st with
      | some zs => if ys.length + zs.length ≤ SZ then .ok .non (st.set n (.lst (ys ++ zs))) else .bad
      | none => .bad
    | _ => .bad
  | none => .bad
section
variable {X : Cx} {W : WX} {o e : Expr} {apos cpos : Pos} {mo : Rho → M PV} {ma : Rho → M (List PV)}
end
end MP

set_option maxRecDepth 100000
set_option maxHeartbeats 3200000
namespace MP
open PySem L2 PySem.Spec PyProof.Rows
noncomputable def kS (e : Int × Value) : Str := match e.2 with
  | .str k _ => k
  | _ => Str.empty
noncomputable def GoodS (P : Program) (w : World) (e : Int × Value) : Prop := ∃ k t, e.2 = Value.str k t ∧ e.1 = (strKind P w).hash k
noncomputable def SetS (P : Program) (w : World) (h : Heap) (a : Addr) (ks : List Str) : Prop :=
  ∃ o es ep t, h.get? a = some o ∧ o.ExactSet ∧ o.data = .set es ep t ∧ (∀ e ∈ es.toList, GoodS P w e) ∧ (es.toList.map kS).Perm ks ∧ ks.Nodup ∧
    es.size < scanBound ∧ t.fits es.size = true ∧ Ris t.place.toList ∧ (w.params.followText "set-order" = true ∨ t.led = true)
section
variable {P : Program} {w : World} {A : Around} {E : Value → Shared → Prop} {sh : Shared} {a : Addr} {ks : List Str} {h h' : Heap}
theorem SetS.stay (R : SetS P w h a ks) (k : ∀ o, h.get? a = some o → h'.get? a = some o) : SetS P w h' a ks := by
  obtain ⟨o, es, ep, t, ho, r⟩ := R
  exact ⟨o, es, ep, t, k o ho, r⟩
end
section
variable {X : Cx} {W : WX} {a : Expr} {ma : Rho → M PV} {p p2 q pos : Pos}
end
end MP

set_option maxRecDepth 100000
set_option maxHeartbeats 3200000
namespace MP
open PySem L2 PySem.Spec PyProof.Rows
section
variable {X : Cx} {W : WX} {o e e2 : Expr} {pos apos cpos : Pos} {mo me mz : Rho → M PV} {ma : Rho → M (List PV)}
noncomputable def dropP (kvs : List (PV × PV)) (k : PV) : List (PV × PV) := kvs.filter fun kv => decide (kv.1 ≠ k)
theorem KRs.drop {K : PySem.W.Frag} {H : Hp} {μ : Mu} {k : PV} {k' : Key} (hk : MP.keyOf k = some k') : ∀ {kvs : List (PV × PV)} {kv : List (Key × V)}, KRs K H μ kvs kv → KRs K H μ (dropP kvs k) (dropK kv k')
  | [], kv, h => by have e : kv = [] := h; subst e; rfl
  | p :: kvs, kv, h => by
    obtain ⟨k1, v, t, rfl, e1, h1, h2⟩ := h
    have ih := KRs.drop hk h2
    have hiff : p.1 = k ↔ k1 = k' := by
      constructor
      · intro e; rw [e, hk] at e1; exact (Option.some.inj e1).symm
      · intro e; exact keyOf_inj (by rw [e1, e]) hk
    unfold dropP dropK at ih ⊢
    by_cases e : p.1 = k
    · rw [List.filter_cons_of_neg (by simp [e]), List.filter_cons_of_neg (by simp [hiff.mp e])]
      exact ih
    · rw [List.filter_cons_of_pos (by simp [e]), List.filter_cons_of_pos (by simpa using fun q => e (hiff.mpr q))]
      exact ⟨k1, v, _, rfl, e1, h1, ih⟩
end
end MP

set_option maxRecDepth 100000
set_option maxHeartbeats 3200000
namespace MP
open PySem L2 PySem.Spec PyProof.Rows
section
variable {X : Cx} {W : WX} {o e e2 : Expr} {p pos tpos apos cpos : Pos} {elts : List Expr} {kk : Nat} {mo me me2 : Rho → M PV} {ma : Rho → M (List PV)}
end
end MP

set_option maxRecDepth 100000
set_option maxHeartbeats 3200000
namespace MP
open PySem L2 PySem.Spec PyProof.Rows
section
variable {X : Cx} {W : WX} {a b : Expr} {pos : Pos} {ma mb : Rho → M PV}
end
end MP

set_option maxRecDepth 100000
set_option maxHeartbeats 1000000
namespace MP
open PySem L2 PySem.Spec PyProof.Rows
structure CIni (K : PySem.W.Frag) (B : Addr) : Prop where
  rd : PySem.W.readsIn K B (.type "type") = true
  fi : PySem.W.findCls K (.ref B) (.type "type") "__init__" = some (.val (.builtin "ValueError.__init__"))
  sg : PySem.W.specialIn K (.ref B) "__getattribute__" = some (some (.builtin "type.__getattribute__"))
section
variable {X : Cx} {e : Expr} {es : List Expr} {ta : TA} {p1 p2 pos : Pos} {b : Str} {B : Addr}
end
inductive Chain (X : Cx) : Nat → List String → List Stmt → Prop
  | nil {i : Nat} : Chain X i [] []
  | cons {i : Nat} {f : String} {fs : List String} {st : Stmt} {rest : List Stmt} (h : PS X st (tOst X.K (Str.ofString f) (tVar 0) (tVar i))) (r : Chain X (i + 1) fs rest) : Chain X i (f :: fs) (st :: rest)
inductive InitOk (X : Cx) (names : List String) : List Stmt → Prop
  | mk {st : Stmt} {rest : List Stmt} {t : TS} (h : PS X st t) (i : ∀ (D : Ends) (σ : L2.St) (H : Hp) (a C : Addr), OexC X.K C → σ[0]? = some (some (.ref a)) → H a = some (exo a C none) → D.nx σ H → t D σ H) (c : Chain X 1 names rest) : InitOk X names (st :: rest)
noncomputable def exnR (c : String) (names : List String) (ps : List PV) : Exn := ⟨c, go names ps []⟩
where go : List String → List PV → List (String × PV) → List (String × PV)
  | f :: fs, p :: ps, l => go fs ps ((f, p) :: l)
  | _, _, l => l
noncomputable def sRaise (c : String) (names : List String) (ma : Rho → M (List PV)) : Rho → M Fl := fun ρ => onErr ρ (ma ρ) fun ps => M.ret (.exc (exnR c names ps) ρ)
end MP

set_option maxRecDepth 100000
set_option maxHeartbeats 1000000
namespace MP
open PySem L2 PySem.Spec PyProof.Rows
noncomputable def LookV : List String → List (Str × V) → List V → Prop
  | [], _, vs => vs = []
  | f :: r, l, vs => ∃ v t, vs = v :: t ∧ l.lookup (Str.ofString f) = some v ∧ LookV r l t
noncomputable def lookAll : List String → List (String × PV) → Option (List PV)
  | [], _ => some []
  | f :: r, l => match lookA l f with
    | some v => match lookAll r l with
      | some vs => some (v :: vs)
      | none => none
    | none => none
theorem LookV.len : ∀ {fs : List String} {fl : List (Str × V)} {vs : List V}, LookV fs fl vs → vs.length = fs.length
  | [], fl, vs, h => by have e : vs = [] := h; subst e; rfl
  | f :: r, fl, vs, h => by obtain ⟨v, t, rfl, _, h2⟩ := h; rw [List.length_cons, List.length_cons, LookV.len h2]
noncomputable def sTryT (c : String) (i j : Nat) (fs : List String) (mb : Rho → M Fl) : Rho → M Fl := fun ρ st => match mb ρ st with
  | .ok (.exc x ρ') st' => if x.C = c ∧ i < ρ'.length then (match lookAll fs x.fs with
    | some ps => .ok (.next ((ρ'.set j (some (.tup ps))).set i none)) st'
    | none => .bad) else .bad
  | r => r
section
variable {X : Cx} {W : WX} {x n : Str} {c : String} {C : Addr} {i j : Nat} {body suite : List Stmt} {b₀ : Stmt} {np pos pos' : Pos} {fs : List String} {mb : Rho → M Fl}
end
section
variable {X : Cx} {a dd C : Addr} {oe : Obj} {pn : List (Addr × Obj)} {i j : Nat}
inductive Flds (X : Cx) (a dd C : Addr) (oe : Obj) (pn : List (Addr × Obj)) (i : Nat) : List String → List Expr → Prop
  | nil : Flds X a dd C oe pn i [] []
  | cons {f : String} {fs : List String} {e : Expr} {es : List Expr} (h : PE (X.suite a ((a, oe) :: pn)) e (tXf a (.ref C) (some dd) C (Str.ofString f) (tVar i))) (hs : starEach (e :: es) X.env = (false, eval e X.env) :: starEach es X.env) (r : Flds X a dd C oe pn i fs es) : Flds X a dd C oe pn i (f :: fs) (e :: es)
end
end MP

set_option maxRecDepth 100000
set_option maxHeartbeats 1000000
namespace MP
open PySem L2
section
variable {K : KW} {H H1 : Hp} {μ : Mu} {a : Addr} {n : Nat} {kvs : List (PV × PV)} {kv : List (Key × V)} {od : Obj}
end
end MP

set_option maxRecDepth 100000
set_option maxHeartbeats 1000000
namespace MP
open PySem L2 PySem.Spec PyProof.Rows
section
variable {P : Program} {w : World} {K : PySem.W.Frag} {tg : Expr} {d : Addr} {o : Obj} {es : Array DictEntry} {ep : Nat} {xs : List (NestedKey × Addr × Value)}
end
section
variable {K : KW} {H H1 : Hp} {μ : Mu} {a : Addr} {n : Nat} {kvs : List (PV × PV)} {xs : List (NestedKey × Addr × Value)} {od : Obj}
theorem NRs.at : ∀ {kvs : List (PV × PV)} {xs : List (NestedKey × Addr × Value)} {i : Nat} {p : PV}, NRs K.K H μ kvs xs → (kvs.map Prod.fst)[i]? = some p → ∃ k q v, xs[i]? = some (k, q, v) ∧ VR K.K H μ p (.ref q)
  | [], _, _, _, _, e => by simp at e
  | _ :: _, _, 0, p, .cons h _, e => by
    simp at e
    subst e
    exact ⟨_, _, _, rfl, h.2.1⟩
  | _ :: _, _, i + 1, p, .cons _ r, e => by
    obtain ⟨k, q, v, e1, e2⟩ := NRs.at (i := i) (p := p) r (by simpa using e)
    exact ⟨k, q, v, by simpa using e1, e2⟩
end
end MP

set_option maxRecDepth 100000
set_option maxHeartbeats 1000000
namespace MP
open PySem L2 PySem.Spec PyProof.Rows
section
variable {X : Cx} {W : WX} {pos : Pos}
noncomputable def itA (p : PV) (st : Sto) : Option (List PV) := match p with
  | .tup xs => some xs
  | .lst xs => some xs
  | .loc k => match st[k]? with
    | some (.lst xs) => some xs
    | _ => none
  | _ => none
noncomputable def gTA (n : Nat) (r : GsM) : GM := fun p ρ st => match itA p st with
  | some xs => if xs.length = n then M.calm (r xs ρ) st else .bad
  | none => .bad
end
end MP

set_option maxRecDepth 100000
set_option maxHeartbeats 1000000
namespace HT
open PySem PySem.Spec PyProof.Rows
section
variable {prog : Program} {w : World} {A : Around} {E : Value → Shared → Prop} {s : Shared}
end
end HT

namespace L2
open PySem PySem.Spec PyProof.Rows
section
variable {X : Cx} {pos p2 p3 p1 : Pos} {e : Expr} {te : TE} {k : Nat}
noncomputable def RvR (X : Cx) (r : V → Hp → VK → Prop) : Prop :=
  ∀ (pins : List (Addr × Obj)) (s : Shared) (σ : St) (H : Hp) (x : V) (v vl vu vs : Value) (sl : Addr) (Q : VK), Inv X pins σ H s → RelV x v → s.heap.IsSliceOf sl vl vu vs → IsPart vl none → IsPart vu none → IsPart vs (some (-1)) → r x H Q →
    ∃ T id, typeLookup (.type T) "__getitem__" = pure (some (.builtin id)) ∧ s.TypeIs v T ∧ wpAny (model X.prog X.w) X.A (getItem v (.ref sl)) (EP X pins σ Q) X.xe s
theorem RvR.or {r r' : V → Hp → VK → Prop} (h : RvR X r) (h' : RvR X r') : RvR X (fun x H Q => r x H Q ∨ r' x H Q) := by
  intro pins s σ H x v vl vu vs sl Q I rx hs pl pu ps q
  rcases q with q | q
  · exact h pins s σ H x v vl vu vs sl Q I rx hs pl pu ps q
  · exact h' pins s σ H x v vl vu vs sl Q I rx hs pl pu ps q
end
end L2

namespace MP
open PySem L2 PySem.Spec PyProof.Rows
section
variable {X : Cx} {W : WX} {e : Expr} {pos p1 p2 p3 : Pos} {k : Nat} {me : Rho → M PV}
noncomputable def rvsM (x : PV) : M PV := match x with
  | .str z => if z.length ≤ SZ then M.ret (.str z.reverse) else M.fail
  | .tup xs => M.ret (.tup xs.reverse)
  | _ => M.fail
noncomputable def notT (x y : PV) : M PV := match y with
  | .bl b => match x with
    | .bl a => M.ret (.bl (!decide (a = b)))
    | .non => M.ret (.bl true)
    | .tup _ => M.ret (.bl true)
    | _ => M.fail
  | _ => M.fail
end
end MP

set_option maxRecDepth 100000
namespace MP
open PySem L2 PySem.Spec PyProof.Rows
section
variable {X : Cx} {W : WX} {a b : Expr} {pos : Pos} {ma mb : Rho → M PV}
end
noncomputable def isT (x y : PV) : M PV := match y with
  | .bl b => match x with
    | .bl a => M.ret (.bl (decide (a = b)))
    | .non => M.ret (.bl false)
    | .tup _ => M.ret (.bl false)
    | _ => M.fail
  | _ => M.fail
section
variable {X : Cx} {W : WX} {a b : Expr} {pos : Pos} {ma mb : Rho → M PV}
end
noncomputable def sTryN (mb : Rho → M Fl) : Rho → M Fl := fun ρ st => match mb ρ st with
  | .ok (.exc _ _) _ => .bad
  | r => r
end MP

set_option maxRecDepth 100000
namespace PySem
open Sem (wp)
end PySem
namespace PySem.W
open PySem PySem.SeqAt PyProof.Rows
end PySem.W
namespace MP
open PySem L2 PySem.Spec PyProof.Rows
noncomputable def ltD (x y : PV) : Bool := match toD x, toD y with
  | some d, some e => PySem.W.dataLt d e
  | _, _ => false
end MP

set_option maxRecDepth 100000
set_option maxHeartbeats 3200000
namespace MP
open PySem L2 PySem.Spec PyProof.Rows
section
variable {P : Program} {w : World} {A : Around} {E : Value → Shared → Prop} {sh : Shared} {a : Addr} {h h' : Heap}
noncomputable def SetO (P : Program) (w : World) (h : Heap) (a : Addr) (e : Int × Value) : Prop :=
  ∃ o ep t, h.get? a = some o ∧ o.ExactSet ∧ o.data = .set #[e] ep t ∧ t.fits 1 = true ∧ Ris t.place.toList ∧ (w.params.followText "set-order" = true ∨ t.led = true)
theorem SetO.stay {e : Int × Value} (R : SetO P w h a e) (k : ∀ o, h.get? a = some o → h'.get? a = some o) : SetO P w h' a e := by
  obtain ⟨o, ep, t, ho, r⟩ := R
  exact ⟨o, ep, t, k o ho, r⟩
end
section
variable {X : Cx} {W : WX} {a : Expr} {ma : Rho → M PV} {p p2 q pos : Pos}
end
end MP

set_option maxRecDepth 100000
set_option maxHeartbeats 3200000
namespace MP
open PySem L2 PySem.Spec
section
variable {X : Cx} {W : WX} {e : Expr} {p pos kp bp : Pos} {j : Nat} {ma : Rho → M (List PV)}
end
end MP

set_option maxRecDepth 100000
set_option maxHeartbeats 3200000
namespace MP
open PySem L2 PySem.Spec PyProof.Rows
section
variable {X : Cx} {W : WX} {a : Expr} {ma : Rho → M PV} {p p2 q pos : Pos}
end
end MP

set_option maxRecDepth 100000
namespace MP
open PySem L2 PySem.Spec PyProof.Rows
noncomputable def minTM (xs : List PV) : M PV := match xs with
  | [.str a, .str b] => fun st => .ok (if ltD (.str b) (.str a) then .str b else .str a) st
  | _ => M.fail
section
variable {X : Cx} {W : WX} {a b : Expr} {pos : Pos} {ma mb : Rho → M PV}
end
end MP

set_option maxRecDepth 100000
set_option maxHeartbeats 3200000
namespace MP
open PySem L2 PySem.Spec PyProof.Rows
noncomputable abbrev KyL := List (Addr × NestedKey)
noncomputable def entK (w : World) (p : Addr × NestedKey) : Int × Value := (p.2.hash w, .ref p.1)
noncomputable def KyAt (h : Heap) (p : Addr × NestedKey) : Prop := NestedIs h p.2 (.ref p.1) ∧ p.2.depth ≤ 8
section
variable {P : Program} {w : World} {A : Around} {E : Value → Shared → Prop} {sh : Shared} {a : Addr} {h h' : Heap} {L : KyL} {es : Array (Int × Value)} {ep : Nat} {t : SetTable}
theorem KyAt.mv {p : Addr × NestedKey} (x : KyAt h p) (k : ∀ b o, h.get? b = some o → h'.get? b = some o) : KyAt h' p := ⟨NestedIs.at (fun b o _ _ e _ => k b o e) _ _ x.1, x.2⟩
theorem KyAt.same {p : Addr × NestedKey} {o : Obj} {es : Array (Int × Value)} {ep : Nat} {t : SetTable} (x : KyAt h p) (ho : h.get? a = some o) (hd : o.data = .set es ep t) (hs : Heap.SameBut a h h') : KyAt h' p :=
  ⟨NestedIs.at (fun b ob vs n e c => by
    refine (hs.2 b fun z => ?_).trans e
    subst z
    rw [ho] at e
    cases e
    rw [hd] at c
    cases c) _ _ x.1, x.2⟩
structure SetK (P : Program) (w : World) (h : Heap) (a : Addr) (L : KyL) (es : Array (Int × Value)) (ep : Nat) (t : SetTable) : Prop where
  ob : ∃ o, h.get? a = some o ∧ o.ExactSet ∧ o.data = .set es ep t
  rows : es.toList = L.map (entK w)
  tab : TabOk t (L.map fun p => p.2.hash w)
  nd : (L.map (·.2)).Nodup
  key : ∀ p ∈ L, KyAt h p
  led : w.params.followText "set-order" = true ∨ t.led = true
  room : L.length * 5 < t.mask * 3
  few : L.length < 64
theorem SetK.stay (R : SetK P w h a L es ep t) (k : ∀ b o, h.get? b = some o → h'.get? b = some o) : SetK P w h' a L es ep t := by
  obtain ⟨o, ho, r⟩ := R.ob
  exact ⟨⟨o, k _ _ ho, r⟩, R.rows, R.tab, R.nd, fun p hp => (R.key p hp).mv k, R.led, R.room, R.few⟩
structure HasK (ks : KyL) (L : KyL) : Prop where
  sub : ∀ p ∈ L, p ∈ ks
  all : ∀ p ∈ ks, p.2 ∈ L.map (·.2)
  len : L.length ≤ ks.length
theorem HasK.next {ks L L' : KyL} {x : Addr × NestedKey} (g : HasK ks L) (c1 : x.2 ∈ L.map (·.2) → L' = L) (c2 : x.2 ∉ L.map (·.2) → L'.Perm (x :: L)) : HasK (ks ++ [x]) L' := by
  by_cases c : x.2 ∈ L.map (·.2)
  · rw [c1 c]
    refine ⟨fun p hp => by simp [g.sub p hp], fun p hp => ?_, by have := g.len; simp; omega⟩
    rcases List.mem_append.mp hp with z | z
    · exact g.all p z
    · rw [List.mem_singleton.mp z]; exact c
  · have pm := c2 c
    refine ⟨fun p hp => ?_, fun p hp => ?_, by rw [pm.length_eq]; have := g.len; simp; omega⟩
    · rcases List.mem_cons.mp (pm.mem_iff.mp hp) with e | z
      · simp [e]
      · simp [g.sub p z]
    · rw [(pm.map (·.2)).mem_iff, List.map_cons]
      rcases List.mem_append.mp hp with z | z
      · exact List.mem_cons_of_mem _ (g.all p z)
      · rw [List.mem_singleton.mp z]; exact List.mem_cons_self
noncomputable def PrAt (h : Heap) (b : Addr) (i : Int) (y : Str) : Prop := ∃ o m t u, h.get? b = some o ∧ o.cls = .type "tuple" ∧ o.data = .seq #[.int i t, .str y u] m
noncomputable abbrev Prw := Addr × Int × Str
noncomputable def kyD (b : Prw) : Addr × NestedKey := (b.1, .tup [.num b.2.1, .text b.2.2])
theorem PrAt.key {b : Prw} (x : PrAt h b.1 b.2.1 b.2.2) : KyAt h (kyD b) := by
  obtain ⟨o, m, t, u, ho, hc, hd⟩ := x
  exact ⟨.tup ho hc hd (.cons (.int _ t) (.cons (.text _ u) .nil)), by simp [kyD, NestedKey.depth, NestedKey.depthAll]⟩
theorem PrAt.mv {b : Addr} {i : Int} {y : Str} (x : PrAt h b i y) (k : ∀ b o, h.get? b = some o → h'.get? b = some o) : PrAt h' b i y := by
  obtain ⟨o, m, t, u, ho, r⟩ := x
  exact ⟨o, m, t, u, k _ _ ho, r⟩
end
section
variable {X : Cx} {W : WX} {a : Expr} {ma : Rho → M PV} {p p2 q pos : Pos}
end
end MP

set_option maxRecDepth 100000
namespace MP
open PySem L2 PySem.Spec PyProof.Rows
noncomputable def ltX (x y : PV) : M PV := match x, y with
  | .int i, .int j => M.ret (.bl (decide (i < j)))
  | .str a, .str b => M.ret (.bl (decide (a < b)))
  | _, _ => M.fail
section
variable {X : Cx} {W : WX} {a b : Expr} {ma mb : Rho → M PV} {pos : Pos}
end
end MP

set_option maxRecDepth 100000
set_option maxHeartbeats 3200000
namespace MP
open PySem L2 PySem.Spec PyProof.Rows
section
variable {X : Cx} {W : WX} {a : Expr} {ma : Rho → M PV} {p p2 q pos : Pos}
end
section
variable {X : Cx} {W : WX} {a e : Expr} {ma : Rho → M PV} {p p2 q pos : Pos}
end
section
variable {X : Cx} {W : WX} {a e : Expr} {ma : Rho → M PV} {p p2 q pos : Pos}
end
end MP

set_option maxRecDepth 100000
set_option maxHeartbeats 3200000
namespace MP
open PySem L2 PySem.Spec PyProof.Rows
section
variable {X : Cx} {CX : CXT} {W : WX} {e fe ie : Expr} {es : List Expr} {tf : TE} {t : TA} {pos : Pos}
structure HeldF (X : Cx) (CX : CXT) (f : Addr) (sp : Sp) : Prop where
  ex : ∃ (k : Nat) (fd : FuncData) (ps : List Str), FnOk X.prog X.w X.K X.mg X.base CX k f fd ps sp ∧ Room k X.A ∧ PySem.W.keepIn X.K (.ref f) = true ∧ Binds X.K fd ps []
end
noncomputable def pickF (fs : List (List PV → M PV)) : PV → Option (List PV → M PV)
  | .int j => if 0 ≤ j then fs[j.toNat]? else none
  | _ => none
noncomputable def eSel (fs : List (List PV → M PV)) (mi : Rho → M PV) (ma : Rho → M (List PV)) : Rho → M PV := fun ρ => M.bind (mi ρ) fun i => match pickF fs i with
  | some f => M.bind (ma ρ) f
  | none => M.fail
section
variable {X : Cx} {W : WX} {e ie : Expr} {es : List Expr} {pos p0 p1 p2 p3 p4 : Pos}
end
end MP

set_option maxRecDepth 100000
namespace MP
open PySem L2
section
variable {X : Cx} {W : WX} {o e : Expr} {apos cpos : Pos} {mo : Rho → M PV} {ma : Rho → M (List PV)}
end
end MP

set_option maxRecDepth 100000
namespace MP
open PySem L2 PySem.Spec PyProof.Rows
section
variable {K : KW} {H : Hp} {μ : Mu} {st : Sto} {E : XK} {Q : VK} {x y : PV} {u v : V}
noncomputable def wkP : PV → PV
  | .xt xs => .tup xs
  | p => p
theorem VR.wk {K : PySem.W.Frag} : ∀ {p : PV}, VR K H μ p v → VR K H μ (wkP p) v
  | .xt ps, r => by
    obtain ⟨a, vs, e, ⟨⟨o, h, _⟩, n⟩, rs⟩ := xt_at r
    exact (show ∃ a vs, v = .ref a ∧ TupAt K H μ a vs ∧ VRs K H μ ps vs from ⟨a, vs, e, .inl ⟨.inr ⟨o, h⟩, n⟩, rs⟩)
  | .non, r => r
  | .bl _, r => r
  | .int _, r => r
  | .str _, r => r
  | .ty _, r => r
  | .gl _, r => r
  | .tup _, r => r
  | .lst _, r => r
  | .frz _, r => r
  | .loc _, r => r
end
noncomputable def eWk (m : Rho → M PV) : Rho → M PV := fun ρ => M.bind (m ρ) fun p => M.ret (wkP p)
section
variable {X : Cx} {W : WX} {e : Expr}
theorem me_wk {m : Rho → M PV} (h : ME X W e m) : ME X W e (eWk m) :=
  PE.imp h fun σ H Q ⟨μ, st, ρ, er, sr, q⟩ => ⟨μ, st, ρ, er, sr, (PostG.bind q).mono fun u H1 ⟨μ1, st1, x, g1, s1, rx, h1⟩ => h1 μ1 H1 u (Gr.refl _ _) s1 (VR.wk rx)⟩
end
noncomputable def tupX (xs : List PV) : M PV := fun st => match xs with
  | [x] => match listOf x st with
    | some ys => .ok (.xt ys) st
    | none => .bad
  | _ => .bad
noncomputable abbrev rTupX (K : PySem.W.Frag) : List V → Hp → VK → Prop := fun xs H Q => ∃ p ys, xs = [.ref p] ∧ SqL K H p ys ∧ ∀ l o, o.dict = none → H l = none → Q (.ref l) (upd H l (.frz o (.tup ys)))
theorem call_tupX {X : Cx} : CallR X (.type "tuple") (rTupX X.K) := by
  intro pins s σ H xs us Q I r h
  obtain ⟨p, ys, rfl, hq, q⟩ := h
  obtain ⟨u, rfl, rx⟩ := vals1 r
  cases rx
  obtain ⟨its, r', pl, hz⟩ := I.list hq
  have hlen := r'.length
  refine call_tuple_list pl.isList (fun h' kp => ?_) (by simp only [List.size_toArray] <;> omega)
  have I1 : Inv X pins σ H { s with heap := h' } := I.kept (t' := s.toks) kp
  have I2 : Inv X pins σ (upd H h'.objs.size (.frz { cls := .type "tuple", data := .seq its.toArray } (.tup ys))) { s with heap := h'.push { cls := .type "tuple", data := .seq its.toArray } } :=
    I1.laid (t' := s.toks) (fun b o e => Heap.get?_push_of_some _ e) (Nat.le_refl _) (show ObjOk X.prog X.w _ _ _ (.frz _ (.tup ys)) from ⟨Heap.get?_push_size _ rfl, hz, its, r', IsTup.new _ _⟩)
  exact ⟨.ref h'.objs.size, _, I2, rfl, q _ _ rfl (I1.hok.fresh (Nat.le_refl _))⟩
theorem t_tupX {K : KW} : TL K (rTupX K) tupX := by
  intro μ st H xs us E Q sr r h
  cases xs with
  | nil => exact h.elim
  | cons x t =>
    cases t with
    | cons y t => exact h.elim
    | nil =>
      obtain ⟨u, rfl, rx⟩ := one_of r
      unfold tupX at h
      dsimp only at h
      cases hl : listOf x st with
      | none => rw [hl] at h; exact h.elim
      | some ys =>
        rw [hl] at h
        dsimp only at h
        obtain ⟨a, vs, rfl, h1, r1⟩ := listOf_at sr rx hl
        refine ⟨a, vs, rfl, SqL.of h1, fun p o ho hp => ?_⟩
        exact h μ _ _ (gr_new hp) (sr.new hp) (show ∃ a ws, V.ref p = .ref a ∧ XtAt (upd H p (.frz o (.tup vs))) μ a ws ∧ VRs K (upd H p (.frz o (.tup vs))) μ ys ws from ⟨p, vs, rfl, ⟨⟨o, upd_same, ho⟩, sr.free hp⟩, VRs.mono (gr_new hp) ys vs r1⟩)
section
variable {X : Cx} {W : WX} {e : Expr} {p pos : Pos} {ma : Rho → M (List PV)}
theorem me_tupX (hg : Gl X "tuple") (hm : X.mg "tuple" = none) (ha : MA X W [e] ma) (he : starEach [e] X.env = (false, eval e X.env) :: starEach [] X.env := by kernel_rfl) : ME X W (.Call (.Name "tuple" p) [e] [] pos) (eCall tupX ma) :=
  me_callTy call_tupX t_tupX hg hm (by decide +kernel) ha (by decide) (by decide) he rfl
end
noncomputable def dictX (xs : List PV) : M PV := fun st => match xs with
  | [.xt ys] => match pairsOf ys with
    | some ps => if keysOk ps = true then .ok (.loc st.length) (st ++ [.dct (mergeP [] ps)]) else .bad
    | none => .bad
  | _ => .bad
noncomputable abbrev rDictX (K : PySem.W.Frag) : List V → Hp → VK → Prop := fun xs H Q => ∃ (a : Addr) (ps : List Addr) (kvs : List (Key × V)) (o : Obj), xs = [.ref a] ∧ H a = some (.frz o (.tup (ps.map V.ref))) ∧ o.dict = none ∧ Paired (fun p kv => SqT K H p [kV kv.1, kv.2]) ps kvs ∧ ∀ p, H p = none → Q (.ref p) (upd H p (.dK (mergeK [] kvs)))
section
variable {X : Cx}
theorem pairs_of2 {pins : List (Addr × Obj)} {σ : L2.St} {H : Hp} {s : Shared} (I : L2.Inv X pins σ H s) : ∀ {ps : List Addr} {kvs : List (Key × V)}, Paired (fun p kv => SqT X.K H p [kV kv.1, kv.2]) ps kvs →
    ∃ (prs : List (Key × Value)) (qs : List (Value × Value)), KV kvs prs ∧ prs.length = ps.length ∧ qs.length = ps.length ∧ ∀ (j : Nat) (u x : Value), qs[j]? = some (u, x) → ∃ (b : Addr) (k : Key), ps[j]? = some b ∧ prs[j]? = some (k, x) ∧ IsTup s.heap b #[u, x] ∧ keyIs k u = true
  | _, _, .nil => ⟨[], [], .nil, rfl, rfl, fun j u x e => by simp at e⟩
  | _, _, .cons (a := p) (b := kv) h t => by
    obtain ⟨prs, qs, r, hl, hl2, hp⟩ := pairs_of2 I t
    obtain ⟨its, rv, ht, _⟩ := I.tuple h
    obtain ⟨u, y, ei, ru, ry⟩ := vals2 rv
    subst ei
    refine ⟨(kv.1, y) :: prs, (u, y) :: qs, .cons ⟨rfl, ry⟩ r, by rw [List.length_cons, List.length_cons, hl], by rw [List.length_cons, List.length_cons, hl2], fun j u' x' e => ?_⟩
    cases j with
    | zero =>
      have e' : (u, y) = (u', x') := Option.some.inj e
      cases e'
      exact ⟨p, kv.1, rfl, rfl, ht, kV_is (P := X.prog) (w := X.w) ru⟩
    | succ j =>
      obtain ⟨b, k, e1, e2, e3, e4⟩ := hp j u' x' (by simpa using e)
      exact ⟨b, k, by simpa using e1, by simpa using e2, e3, e4⟩
theorem call_dictX (hcalm : X.calm = true) : CallR X (.type "dict") (rDictX X.K) := by
  intro pins s σ H xs us Q I r q
  obtain ⟨a, ps, kvs, o, ex, hq, hd, hp, q⟩ := q
  subst ex
  obtain ⟨u, eu, rx⟩ := vals1 r
  subst eu
  cases rx
  obtain ⟨ho, hz, its, rv, o', ho', hc, n, hdat⟩ := (show ObjOk X.prog X.w H s.heap a (.frz o (.tup (ps.map V.ref))) from I.hok a _ hq)
  rw [ho] at ho'
  cases ho'
  have ei := refs_at rv
  subst ei
  rw [List.length_map] at hz
  obtain ⟨prs, qs, rel, hl, hl2, hpr⟩ := pairs_of2 I hp
  refine PySem.call_dict_pairs (knd := mixKind X.prog X.w) (kvs := prs) (PairArg.tuple a (ps.map Value.ref).toArray (fun j => ps.getD j 0) qs) (I.ok.hd hcalm) ⟨⟨o, n, ho, hc, hd, hdat⟩, by simp [hl2], fun j k v e => ?_⟩ ⟨by rw [hl, hl2], fun i k v e => ?_⟩ (by rw [hl2]; exact hz) fun h' tk hd' k => ?_
  · obtain ⟨b, k', e1, _, e3, _⟩ := hpr j k v e
    have e5 : ps.getD j 0 = b := by rw [List.getD_eq_getElem?_getD, e1]; rfl
    dsimp only
    rw [e5]
    exact ⟨by simp [e1], .inl e3⟩
  · obtain ⟨b, k', _, e2, _, e4⟩ := hpr i k v e
    exact ⟨k', e2, e4⟩
  · have hm : (s.heap.objs.size == sysModules) = false := beq_eq_false_iff_ne.mpr (Nat.ne_of_gt I.big)
    have hlen : (mergeK [] kvs).length ≤ sizeLine := by
      refine Nat.le_trans (length_mergeK kvs []) ?_
      rw [List.length_nil, Nat.zero_add, rel.length, hl]
      exact hz
    exact ⟨.ref s.heap.objs.size, upd H s.heap.objs.size (.dK (mergeK [] kvs)), I.laid (t' := tk) (fun b o e => k b o (fun h => nomatch h) e) (Nat.le_refl _) (show ObjOk X.prog X.w _ _ _ (.dK (mergeK [] kvs)) from ⟨hlen, hm, merged [] prs, KV.merge rel .nil, hd'⟩), rfl, q _ (I.hok.fresh (Nat.le_refl _))⟩
end
theorem t_dictX {K : KW} : TL K (rDictX K) dictX := by
  intro μ st H xs us E Q sr r h
  cases xs with
  | nil => exact h.elim
  | cons x t =>
    cases t with
    | cons y t => cases x <;> exact h.elim
    | nil =>
      obtain ⟨u, rfl, rx⟩ := one_of r
      unfold dictX at h
      cases x with
      | xt ys =>
        dsimp only at h
        cases hp : pairsOf ys with
        | none => rw [hp] at h; exact h.elim
        | some ps =>
          rw [hp] at h
          dsimp only at h
          by_cases hk : keysOk ps = true
          · rw [if_pos hk] at h
            obtain ⟨a, vs, rfl, ⟨⟨o, h1, ho⟩, _⟩, r1⟩ := xt_at rx
            obtain ⟨as, kvs, rfl, hpr, hkr⟩ := pairs_at r1 hp hk
            exact ⟨a, as, kvs, o, rfl, h1, ho, hpr, fun p hp => post_cell h sr hp ⟨_, upd_same, KRs.mono (gr_alloc hp).v _ _ (KRs.merge hkr (show KRs K H μ [] [] from rfl))⟩⟩
          · rw [if_neg hk] at h; exact h.elim
      | _ => exact h.elim
section
variable {X : Cx} {W : WX} {e : Expr} {p pos : Pos} {ma : Rho → M (List PV)}
theorem me_dictX (hc : X.calm = true) (hg : Gl X "dict") (hm : X.mg "dict" = none) (ha : MA X W [e] ma) (he : starEach [e] X.env = (false, eval e X.env) :: starEach [] X.env := by kernel_rfl) : ME X W (.Call (.Name "dict" p) [e] [] pos) (eCall dictX ma) :=
  me_callTy (call_dictX hc) t_dictX hg hm (by decide +kernel) ha (by decide) (by decide) he rfl
end
end MP

set_option maxRecDepth 100000
set_option maxHeartbeats 1000000
namespace MP
open PySem L2
noncomputable def Z {α : Type} (r : Res α) (Q : α → Sto → Prop) (E : Exn → Sto → Prop) : Prop := match r with
  | .ok a st => Q a st
  | .err x st => E x st
  | .bad => False
noncomputable def E0 : Exn → Sto → Prop := fun _ _ => False
noncomputable abbrev KP := PV → Sto → Prop
noncomputable abbrev KB := Bool → Sto → Prop
noncomputable abbrev KLs := List PV → Sto → Prop
noncomputable abbrev KR := Rho → Sto → Prop
noncomputable abbrev KF := Fl → Sto → Prop
noncomputable abbrev KU := Unit → Sto → Prop
noncomputable abbrev KO := Option Int → Sto → Prop
noncomputable abbrev KI := Int → Sto → Prop
noncomputable abbrev KX := Exn → Sto → Prop
noncomputable abbrev KD := List (PV × PV) → Sto → Prop
noncomputable abbrev ME1 := Rho → M PV
noncomputable abbrev MT1 := Rho → M Bool
noncomputable abbrev MS1 := Rho → M Fl
noncomputable abbrev ML1 := Rho → M (List PV)
section
variable {α β : Type} {st : Sto} {ρ : Rho} {Q : α → Sto → Prop} {E : KX} {QP : KP} {QF : KF} {QB : KB} {QL : KLs} {QR : KR} {QO : KO} {QI : KI} {QU : KU} {QD : KD}
@[simp ↓] theorem Z_ok {a : α} : Z (.ok a st) Q E = Q a st := propext Iff.rfl
@[simp ↓] theorem Z_err {x : Exn} : Z (.err x st : Res α) Q E = E x st := propext Iff.rfl
@[simp ↓] theorem Z_bad : Z (.bad : Res α) Q E = False := propext Iff.rfl
theorem Z.imp {r : Res α} {Q Q' : α → Sto → Prop} {E E' : KX} (h : Z r Q E) (hq : ∀ a st, Q a st → Q' a st) (he : ∀ x st, E x st → E' x st) : Z r Q' E' := by
  cases r with
  | ok a st => exact hq a st h
  | err x st => exact he x st h
  | bad => exact h
theorem Z.go {r : Res α} {Q Q' : α → Sto → Prop} {E' : KX} (h : Z r Q E0) (hq : ∀ a st, Q a st → Q' a st) : Z r Q' E' := h.imp hq fun _ _ h => False.elim h
@[simp ↓] theorem Z_ret {a : α} : Z (M.ret a st) Q E = Q a st := propext Iff.rfl
@[simp ↓] theorem Z_fail : Z ((M.fail : M α) st) Q E = False := propext Iff.rfl
theorem Z_bind {m : M β} {f : β → M α} : Z (M.bind m f st) Q E = Z (m st) (fun a st' => Z (f a st') Q E) E := by
  unfold M.bind; cases m st <;> rfl
@[simp ↓] theorem Z_calm {m : M α} : Z (M.calm m st) Q E = Z (m st) Q E0 := by
  unfold M.calm; cases m st <;> rfl
theorem Z_onErr {m : M α} {k : α → M Fl} : Z (onErr ρ m k st) QF E = Z (m st) (fun a s => Z (k a s) QF E) (fun x s => QF (.exc x ρ) s) := by
  unfold onErr; cases m st <;> rfl
theorem Z_ite {c : Prop} [Decidable c] {m m' : M α} : Z ((if c then m else m') st) Q E = if c then Z (m st) Q E else Z (m' st) Q E := by split <;> rfl
theorem Z_iteR {c : Prop} [Decidable c] {r r' : Res α} : Z (if c then r else r') Q E = if c then Z r Q E else Z r' Q E := by split <;> rfl
@[simp ↓] theorem Z_eVar {i : Nat} {p : PV} (h : ρ[i]? = some (some p)) : Z (eVar i ρ st) QP E = QP p st := by unfold eVar; rw [h]; rfl
@[simp ↓] theorem Z_eC {p : PV} : Z (eC p ρ st) QP E = QP p st := propext Iff.rfl
@[simp ↓] theorem Z_asB {b : Bool} : Z (asB (.bl b) st) QB E = QB b st := propext Iff.rfl
@[simp ↓] theorem Z_asI {i : Int} : Z (asI (.int i) st) QI E = QI i st := propext Iff.rfl
@[simp ↓] theorem Z_aNil : Z (aNil ρ st) QL E = QL [] st := propext Iff.rfl
@[simp ↓] theorem Z_oNone : Z (oNone ρ st) QO E = QO none st := propext Iff.rfl
@[simp ↓] theorem Z_sNext : Z (sNext ρ st) QF E = QF (.next ρ) st := propext Iff.rfl
@[simp ↓] theorem Z_sPass : Z (sPass ρ st) QF E = QF (.next ρ) st := propext Iff.rfl
@[simp ↓] theorem Z_sBreak : Z (sBreak ρ st) QF E = QF (.brk ρ) st := propext Iff.rfl
@[simp ↓] theorem Z_sCont : Z (sCont ρ st) QF E = QF (.cont ρ) st := propext Iff.rfl
@[simp ↓] theorem Z_sRetN : Z (sRetN ρ st) QF E = QF (.ret .non) st := propext Iff.rfl
@[simp ↓] theorem Z_gN {i : Nat} {p : PV} : Z (gN i p ρ st) QR E = QR (ρ.set i (some p)) st := propext Iff.rfl
noncomputable def kB2 (g : PV → PV → M PV) (x : PV) (QP : KP) (E : KX) : PV → Sto → Prop := fun y s => Z (g x y s) QP E
@[simp ↓] theorem kB2_at {g : PV → PV → M PV} {x : PV} {QP : KP} {E : KX} {y : PV} {s : Sto} : kB2 g x QP E y s = (Z (g x y s) QP E) := propext Iff.rfl
noncomputable def kB1 (g : PV → PV → M PV) (mb : ME1) (ρ : Rho) (QP : KP) (E : KX) : PV → Sto → Prop := fun x s => Z (mb ρ s) (kB2 g x QP E) E
@[simp ↓] theorem kB1_at {g : PV → PV → M PV} {mb : ME1} {ρ : Rho} {QP : KP} {E : KX} {x : PV} {s : Sto} : kB1 g mb ρ QP E x s = (Z (mb ρ s) (kB2 g x QP E) E) := propext Iff.rfl
@[simp ↓] theorem Z_eBin {g : PV → PV → M PV} {ma mb : ME1} : Z (eBin g ma mb ρ st) QP E = Z (ma ρ st) (kB1 g mb ρ QP E) E := by
  unfold eBin; rw [Z_bind]; simp only [Z_bind]; rfl
noncomputable def kU (g : PV → M PV) (QP : KP) (E : KX) : PV → Sto → Prop := fun x s => Z (g x s) QP E
@[simp ↓] theorem kU_at {g : PV → M PV} {QP : KP} {E : KX} {x : PV} {s : Sto} : kU g QP E x s = (Z (g x s) QP E) := propext Iff.rfl
@[simp ↓] theorem Z_eUn {g : PV → M PV} {ma : ME1} : Z (eUn g ma ρ st) QP E = Z (ma ρ st) (kU g QP E) E := by
  unfold eUn; rw [Z_bind]; rfl
noncomputable def kAs (QB : KB) (E : KX) : PV → Sto → Prop := fun x s => Z (asB x s) QB E
@[simp ↓] theorem kAs_bl {QB : KB} {E : KX} {b : Bool} {s : Sto} : kAs QB E (.bl b) s = QB b s := propext Iff.rfl
@[simp ↓] theorem Z_eB {m : ME1} : Z (eB m ρ st) QB E = Z (m ρ st) (kAs QB E) E := by
  unfold eB; rw [Z_bind]; rfl
noncomputable def kAnd (u : MT1) (ρ : Rho) (QB : KB) (E : KX) : Bool → Sto → Prop := fun c s => if c = true then Z (u ρ s) QB E else QB false s
@[simp ↓] theorem kAnd_t {u : MT1} {ρ : Rho} {QB : KB} {E : KX} {s : Sto} : kAnd u ρ QB E true s = (Z (u ρ s) QB E) := propext Iff.rfl
@[simp ↓] theorem kAnd_f {u : MT1} {ρ : Rho} {QB : KB} {E : KX} {s : Sto} : kAnd u ρ QB E false s = (QB false s) := propext Iff.rfl
@[simp ↓] theorem Z_tAnd {t u : MT1} : Z (tAndM t u ρ st) QB E = Z (t ρ st) (kAnd u ρ QB E) E := by
  unfold tAndM; rw [Z_bind]; congr 1; funext c s; cases c <;> rfl
noncomputable def kOr (u : MT1) (ρ : Rho) (QB : KB) (E : KX) : Bool → Sto → Prop := fun c s => if c = true then QB true s else Z (u ρ s) QB E
@[simp ↓] theorem kOr_t {u : MT1} {ρ : Rho} {QB : KB} {E : KX} {s : Sto} : kOr u ρ QB E true s = (QB true s) := propext Iff.rfl
@[simp ↓] theorem kOr_f {u : MT1} {ρ : Rho} {QB : KB} {E : KX} {s : Sto} : kOr u ρ QB E false s = (Z (u ρ s) QB E) := propext Iff.rfl
@[simp ↓] theorem Z_tOr {t u : MT1} : Z (tOrM t u ρ st) QB E = Z (t ρ st) (kOr u ρ QB E) E := by
  unfold tOrM; rw [Z_bind]; congr 1; funext c s; cases c <;> rfl
noncomputable def kNot (QB : KB) : Bool → Sto → Prop := fun c s => QB (!c) s
@[simp ↓] theorem kNot_at {QB : KB} {c : Bool} {s : Sto} : kNot QB c s = (QB (!c) s) := propext Iff.rfl
@[simp ↓] theorem Z_tNot {t : MT1} : Z (tNotM t ρ st) QB E = Z (t ρ st) (kNot QB) E := by
  unfold tNotM; rw [Z_bind]; rfl
noncomputable def kAndV (mb : ME1) (ρ : Rho) (QP : KP) (E : KX) : Bool → Sto → Prop := fun c s => if c = true then Z (mb ρ s) QP E else QP (.bl false) s
@[simp ↓] theorem kAndV_t {mb : ME1} {ρ : Rho} {QP : KP} {E : KX} {s : Sto} : kAndV mb ρ QP E true s = (Z (mb ρ s) QP E) := propext Iff.rfl
@[simp ↓] theorem kAndV_f {mb : ME1} {ρ : Rho} {QP : KP} {E : KX} {s : Sto} : kAndV mb ρ QP E false s = (QP (.bl false) s) := propext Iff.rfl
@[simp ↓] theorem Z_eAnd {ma mb : ME1} : Z (eAndV ma mb ρ st) QP E = Z (ma ρ st) (kAs (kAndV mb ρ QP E) E) E := by
  unfold eAndV; rw [Z_bind]; congr 1; funext x s; rw [Z_bind]; show Z _ _ _ = Z _ _ _; congr 1; funext c s; cases c <;> rfl
noncomputable def kOrV (mb : ME1) (ρ : Rho) (QP : KP) (E : KX) : Bool → Sto → Prop := fun c s => if c = true then QP (.bl true) s else Z (mb ρ s) QP E
@[simp ↓] theorem kOrV_t {mb : ME1} {ρ : Rho} {QP : KP} {E : KX} {s : Sto} : kOrV mb ρ QP E true s = (QP (.bl true) s) := propext Iff.rfl
@[simp ↓] theorem kOrV_f {mb : ME1} {ρ : Rho} {QP : KP} {E : KX} {s : Sto} : kOrV mb ρ QP E false s = (Z (mb ρ s) QP E) := propext Iff.rfl
@[simp ↓] theorem Z_eOr {ma mb : ME1} : Z (eOrV ma mb ρ st) QP E = Z (ma ρ st) (kAs (kOrV mb ρ QP E) E) E := by
  unfold eOrV; rw [Z_bind]; congr 1; funext x s; rw [Z_bind]; show Z _ _ _ = Z _ _ _; congr 1; funext c s; cases c <;> rfl
noncomputable def kNotV (QP : KP) : Bool → Sto → Prop := fun c s => QP (.bl (!c)) s
@[simp ↓] theorem kNotV_at {QP : KP} {c : Bool} {s : Sto} : kNotV QP c s = (QP (.bl (!c)) s) := propext Iff.rfl
@[simp ↓] theorem Z_eNot {ma : ME1} : Z (eNotV ma ρ st) QP E = Z (ma ρ st) (kAs (kNotV QP) E) E := by
  unfold eNotV; rw [Z_bind]; congr 1; funext x s; rw [Z_bind]; rfl
noncomputable def kIf (ma : ME1) (mb : ME1) (ρ : Rho) (QP : KP) (E : KX) : Bool → Sto → Prop := fun c s => if c = true then Z (ma ρ s) QP E else Z (mb ρ s) QP E
@[simp ↓] theorem kIf_t {ma : ME1} {mb : ME1} {ρ : Rho} {QP : KP} {E : KX} {s : Sto} : kIf ma mb ρ QP E true s = (Z (ma ρ s) QP E) := propext Iff.rfl
@[simp ↓] theorem kIf_f {ma : ME1} {mb : ME1} {ρ : Rho} {QP : KP} {E : KX} {s : Sto} : kIf ma mb ρ QP E false s = (Z (mb ρ s) QP E) := propext Iff.rfl
@[simp ↓] theorem Z_eIf {t : MT1} {ma mb : ME1} : Z (eIf t ma mb ρ st) QP E = Z (t ρ st) (kIf ma mb ρ QP E) E := by
  unfold eIf; rw [Z_bind]; congr 1; funext c s; cases c <;> rfl
noncomputable def kA2 (x : PV) (QL : KLs) : List PV → Sto → Prop := fun xs s => QL (x :: xs) s
@[simp ↓] theorem kA2_at {x : PV} {QL : KLs} {xs : List PV} {s : Sto} : kA2 x QL xs s = (QL (x :: xs) s) := propext Iff.rfl
noncomputable def kA1 (r : ML1) (ρ : Rho) (QL : KLs) (E : KX) : PV → Sto → Prop := fun x s => Z (r ρ s) (kA2 x QL) E
@[simp ↓] theorem kA1_at {r : ML1} {ρ : Rho} {QL : KLs} {E : KX} {x : PV} {s : Sto} : kA1 r ρ QL E x s = (Z (r ρ s) (kA2 x QL) E) := propext Iff.rfl
@[simp ↓] theorem Z_aCons {m : ME1} {r : ML1} : Z (aCons m r ρ st) QL E = Z (m ρ st) (kA1 r ρ QL E) E := by
  unfold aCons; rw [Z_bind]; congr 1; funext x s; rw [Z_bind]; rfl
noncomputable def kF (f : List PV → M PV) (QP : KP) (E : KX) : List PV → Sto → Prop := fun xs s => Z (f xs s) QP E
@[simp ↓] theorem kF_at {f : List PV → M PV} {QP : KP} {E : KX} {xs : List PV} {s : Sto} : kF f QP E xs s = (Z (f xs s) QP E) := propext Iff.rfl
@[simp ↓] theorem Z_eCall {f : List PV → M PV} {m : ML1} : Z (eCall f m ρ st) QP E = Z (m ρ st) (kF f QP E) E := by
  unfold eCall; rw [Z_bind]; rfl
noncomputable def kM3 (f : PV → List PV → M PV) (o : PV) (QP : KP) (E : KX) : List PV → Sto → Prop := fun xs s => Z (f o xs s) QP E
@[simp ↓] theorem kM3_at {f : PV → List PV → M PV} {o : PV} {QP : KP} {E : KX} {xs : List PV} {s : Sto} : kM3 f o QP E xs s = (Z (f o xs s) QP E) := propext Iff.rfl
noncomputable def kM2 (f : PV → List PV → M PV) (ma : ML1) (ρ : Rho) (o : PV) (QP : KP) (E : KX) : Unit → Sto → Prop := fun _ s => Z (ma ρ s) (kM3 f o QP E) E
@[simp ↓] theorem kM2_at {f : PV → List PV → M PV} {ma : ML1} {ρ : Rho} {o : PV} {QP : KP} {E : KX} {a : Unit} {s : Sto} : kM2 f ma ρ o QP E a s = (Z (ma ρ s) (kM3 f o QP E) E) := propext Iff.rfl
noncomputable def kM1 (T : String) (f : PV → List PV → M PV) (ma : ML1) (ρ : Rho) (QP : KP) (E : KX) : PV → Sto → Prop := fun o s => Z (tyC T o s) (kM2 f ma ρ o QP E) E
@[simp ↓] theorem kM1_at {T : String} {f : PV → List PV → M PV} {ma : ML1} {ρ : Rho} {QP : KP} {E : KX} {o : PV} {s : Sto} : kM1 T f ma ρ QP E o s = (Z (tyC T o s) (kM2 f ma ρ o QP E) E) := propext Iff.rfl
@[simp ↓] theorem Z_eMeth {T : String} {f : PV → List PV → M PV} {mo : ME1} {ma : ML1} : Z (eMeth T f mo ma ρ st) QP E = Z (mo ρ st) (kM1 T f ma ρ QP E) E := by
  unfold eMeth; rw [Z_bind]; simp only [Z_bind]; rfl
noncomputable def kC3 (g : PV → PV → M PV) (mc : ME1) (ρ : Rho) (y : PV) (QP : KP) (E : KX) : Bool → Sto → Prop := fun c s => if c = true then Z (mc ρ s) (kB2 g y QP E) E else QP (.bl false) s
@[simp ↓] theorem kC3_t {g : PV → PV → M PV} {mc : ME1} {ρ : Rho} {y : PV} {QP : KP} {E : KX} {s : Sto} : kC3 g mc ρ y QP E true s = (Z (mc ρ s) (kB2 g y QP E) E) := propext Iff.rfl
@[simp ↓] theorem kC3_f {g : PV → PV → M PV} {mc : ME1} {ρ : Rho} {y : PV} {QP : KP} {E : KX} {s : Sto} : kC3 g mc ρ y QP E false s = (QP (.bl false) s) := propext Iff.rfl
noncomputable def kC2 (f : PV → PV → M PV) (g : PV → PV → M PV) (mc : ME1) (ρ : Rho) (x : PV) (QP : KP) (E : KX) : PV → Sto → Prop := fun y s => Z (f x y s) (kAs (kC3 g mc ρ y QP E) E) E
@[simp ↓] theorem kC2_at {f : PV → PV → M PV} {g : PV → PV → M PV} {mc : ME1} {ρ : Rho} {x : PV} {QP : KP} {E : KX} {y : PV} {s : Sto} : kC2 f g mc ρ x QP E y s = (Z (f x y s) (kAs (kC3 g mc ρ y QP E) E) E) := propext Iff.rfl
noncomputable def kC1 (f : PV → PV → M PV) (g : PV → PV → M PV) (mb : ME1) (mc : ME1) (ρ : Rho) (QP : KP) (E : KX) : PV → Sto → Prop := fun x s => Z (mb ρ s) (kC2 f g mc ρ x QP E) E
@[simp ↓] theorem kC1_at {f : PV → PV → M PV} {g : PV → PV → M PV} {mb : ME1} {mc : ME1} {ρ : Rho} {QP : KP} {E : KX} {x : PV} {s : Sto} : kC1 f g mb mc ρ QP E x s = (Z (mb ρ s) (kC2 f g mc ρ x QP E) E) := propext Iff.rfl
@[simp ↓] theorem Z_eChain {f g : PV → PV → M PV} {ma mb mc : ME1} : Z (eChain f g ma mb mc ρ st) QP E = Z (ma ρ st) (kC1 f g mb mc ρ QP E) E := by
  unfold eChain; rw [Z_bind]; congr 1; funext x s; rw [Z_bind]; show Z _ _ _ = Z _ _ _; congr 1; funext y s; rw [Z_bind]; show Z _ _ _ = Z _ _ _; congr 1; funext z s; rw [Z_bind]; show Z _ _ _ = Z _ _ _; congr 1; funext c s; cases c
  · rfl
  · show Z (M.bind _ _ _) _ _ = _; rw [Z_bind]; rfl
noncomputable def seqQ (m' : MS1) (Q : KF) (E : KX) : Fl → Sto → Prop
  | .next ρ, st => Z (m' ρ st) Q E
  | fl, st => Q fl st
@[simp] theorem seqQ_next {m' : MS1} : seqQ m' QF E (.next ρ) st = Z (m' ρ st) QF E := propext Iff.rfl
@[simp] theorem seqQ_ret {m' : MS1} {v : PV} : seqQ m' QF E (.ret v) st = QF (.ret v) st := propext Iff.rfl
@[simp] theorem seqQ_brk {m' : MS1} : seqQ m' QF E (.brk ρ) st = QF (.brk ρ) st := propext Iff.rfl
@[simp] theorem seqQ_cont {m' : MS1} : seqQ m' QF E (.cont ρ) st = QF (.cont ρ) st := propext Iff.rfl
@[simp] theorem seqQ_exc {m' : MS1} {x : Exn} : seqQ m' QF E (.exc x ρ) st = QF (.exc x ρ) st := propext Iff.rfl
@[simp ↓] theorem Z_sSeq {m m' : MS1} : Z (sSeq m m' ρ st) QF E = Z (m ρ st) (seqQ m' QF E) E := by
  unfold sSeq
  cases m ρ st with
  | ok f s => cases f <;> rfl
  | err x s => rfl
  | bad => rfl
noncomputable def turnQ (k : MS1) (Q : KF) (E : KX) : Fl → Sto → Prop
  | .next ρ, st => Z (k ρ st) Q E
  | .cont ρ, st => Z (k ρ st) Q E
  | .brk ρ, st => Q (.next ρ) st
  | fl, st => Q fl st
@[simp] theorem turnQ_next {k : MS1} : turnQ k QF E (.next ρ) st = Z (k ρ st) QF E := propext Iff.rfl
@[simp] theorem turnQ_cont {k : MS1} : turnQ k QF E (.cont ρ) st = Z (k ρ st) QF E := propext Iff.rfl
@[simp] theorem turnQ_brk {k : MS1} : turnQ k QF E (.brk ρ) st = QF (.next ρ) st := propext Iff.rfl
@[simp] theorem turnQ_ret {k : MS1} {v : PV} : turnQ k QF E (.ret v) st = QF (.ret v) st := propext Iff.rfl
@[simp] theorem turnQ_exc {k : MS1} {x : Exn} : turnQ k QF E (.exc x ρ) st = QF (.exc x ρ) st := propext Iff.rfl
@[simp ↓] theorem Z_turn {k : MS1} {m : M Fl} : Z (turnL k m st) QF E = Z (m st) (turnQ k QF E) E := by
  unfold turnL
  cases m st with
  | ok f s => cases f <;> rfl
  | err x s => rfl
  | bad => rfl
noncomputable def kX (ρ : Rho) (QF : KF) : Exn → Sto → Prop := fun x s => QF (.exc x ρ) s
@[simp ↓] theorem kX_at {ρ : Rho} {QF : KF} {x : Exn} {s : Sto} : kX ρ QF x s = (QF (.exc x ρ) s) := propext Iff.rfl
noncomputable def kDrop (ρ : Rho) (QF : KF) : PV → Sto → Prop := fun _ s => QF (.next ρ) s
@[simp ↓] theorem kDrop_at {ρ : Rho} {QF : KF} {a : PV} {s : Sto} : kDrop ρ QF a s = (QF (.next ρ) s) := propext Iff.rfl
@[simp ↓] theorem Z_sDrop {me : ME1} : Z (sDrop me ρ st) QF E = Z (me ρ st) (kDrop ρ QF) (kX ρ QF) := by
  unfold sDrop; rw [Z_onErr]; rfl
noncomputable def kRet (QF : KF) : PV → Sto → Prop := fun v s => QF (.ret v) s
@[simp ↓] theorem kRet_at {QF : KF} {v : PV} {s : Sto} : kRet QF v s = (QF (.ret v) s) := propext Iff.rfl
@[simp ↓] theorem Z_sRet {me : ME1} : Z (sRet me ρ st) QF E = Z (me ρ st) (kRet QF) (kX ρ QF) := by
  unfold sRet; rw [Z_onErr]; rfl
noncomputable def kSet (i : Nat) (ρ : Rho) (QF : KF) : PV → Sto → Prop := fun v s => QF (.next (ρ.set i (some v))) s
@[simp ↓] theorem kSet_at {i : Nat} {ρ : Rho} {QF : KF} {v : PV} {s : Sto} : kSet i ρ QF v s = (QF (.next (ρ.set i (some v))) s) := propext Iff.rfl
@[simp ↓] theorem Z_sSet {i : Nat} {me : ME1} : Z (sSet i me ρ st) QF E = Z (me ρ st) (kSet i ρ QF) (kX ρ QF) := by
  unfold sSet; rw [Z_onErr]; rfl
noncomputable def kSIf (m : MS1) (m' : MS1) (ρ : Rho) (QF : KF) (E : KX) : Bool → Sto → Prop := fun c s => if c = true then Z (m ρ s) QF E else Z (m' ρ s) QF E
@[simp ↓] theorem kSIf_t {m : MS1} {m' : MS1} {ρ : Rho} {QF : KF} {E : KX} {s : Sto} : kSIf m m' ρ QF E true s = (Z (m ρ s) QF E) := propext Iff.rfl
@[simp ↓] theorem kSIf_f {m : MS1} {m' : MS1} {ρ : Rho} {QF : KF} {E : KX} {s : Sto} : kSIf m m' ρ QF E false s = (Z (m' ρ s) QF E) := propext Iff.rfl
@[simp ↓] theorem Z_sIf {t : MT1} {m m' : MS1} : Z (sIf t m m' ρ st) QF E = Z (t ρ st) (kSIf m m' ρ QF E) (kX ρ QF) := by
  unfold sIf; rw [Z_onErr]; congr 1; funext c s; cases c <;> rfl
noncomputable def kNx (QF : KF) : Rho → Sto → Prop := fun ρ' s => QF (.next ρ') s
@[simp ↓] theorem kNx_at {QF : KF} {ρ' : Rho} {s : Sto} : kNx QF ρ' s = (QF (.next ρ') s) := propext Iff.rfl
noncomputable def kAsg (g : GM) (ρ : Rho) (QF : KF) : PV → Sto → Prop := fun v s => Z (g v ρ s) (kNx QF) (kX ρ QF)
@[simp ↓] theorem kAsg_at {g : GM} {ρ : Rho} {QF : KF} {v : PV} {s : Sto} : kAsg g ρ QF v s = (Z (g v ρ s) (kNx QF) (kX ρ QF)) := propext Iff.rfl
@[simp ↓] theorem Z_sAsg {me : ME1} {g : GM} : Z (sAsg me g ρ st) QF E = Z (me ρ st) (kAsg g ρ QF) (kX ρ QF) := by
  unfold sAsg; rw [Z_onErr]; congr 1; funext v s; rw [Z_onErr]; rfl
noncomputable def kG3 (ρ : Rho) (QR : KR) : Unit → Sto → Prop := fun _ s => QR ρ s
@[simp ↓] theorem kG3_at {ρ : Rho} {QR : KR} {a : Unit} {s : Sto} : kG3 ρ QR a s = (QR ρ s) := propext Iff.rfl
noncomputable def kG2 (o : PV) (p : PV) (ρ : Rho) (QR : KR) (E : KX) : PV → Sto → Prop := fun i s => Z (setM o i p s) (kG3 ρ QR) E
@[simp ↓] theorem kG2_at {o : PV} {p : PV} {ρ : Rho} {QR : KR} {E : KX} {i : PV} {s : Sto} : kG2 o p ρ QR E i s = (Z (setM o i p s) (kG3 ρ QR) E) := propext Iff.rfl
noncomputable def kG1 (mi : ME1) (p : PV) (ρ : Rho) (QR : KR) (E : KX) : PV → Sto → Prop := fun o s => Z (mi ρ s) (kG2 o p ρ QR E) E
@[simp ↓] theorem kG1_at {mi : ME1} {p : PV} {ρ : Rho} {QR : KR} {E : KX} {o : PV} {s : Sto} : kG1 mi p ρ QR E o s = (Z (mi ρ s) (kG2 o p ρ QR E) E) := propext Iff.rfl
@[simp ↓] theorem Z_gSub {mo mi : ME1} {p : PV} : Z (gSubM mo mi p ρ st) QR E = Z (mo ρ st) (kG1 mi p ρ QR E) E := by
  unfold gSubM; rw [Z_bind]; simp only [Z_bind]; rfl
noncomputable def kGs (r : GsM) (xs : List PV) (QR : KR) (E : KX) : Rho → Sto → Prop := fun ρ1 s => Z (r xs ρ1 s) QR E
@[simp] theorem kGs_at {r : GsM} {xs : List PV} {QR : KR} {E : KX} {ρ1 : Rho} {s : Sto} : kGs r xs QR E ρ1 s = (Z (r xs ρ1 s) QR E) := propext Iff.rfl
@[simp ↓] theorem Z_gsCons {g : GM} {r : GsM} {x : PV} {xs : List PV} : Z (gsCons g r (x :: xs) ρ st) QR E = Z (g x ρ st) (kGs r xs QR E) E0 := by
  unfold gsCons; dsimp only; rw [Z_bind, Z_calm]; rfl
@[simp ↓] theorem Z_gsNil : Z (gsNil [] ρ st) QR E = QR ρ st := propext Iff.rfl
@[simp ↓] theorem Z_gT {m : Nat} {r : GsM} {xs : List PV} : Z (gT m r (.tup xs) ρ st) QR E = if xs.length = m then Z (r xs ρ st) QR E0 else False := by
  unfold gT; dsimp only; rw [Z_ite]; by_cases h : xs.length = m
  · rw [if_pos h, if_pos h, Z_calm]
  · rw [if_neg h, if_neg h]; rfl
@[simp ↓] theorem Z_gTLt {m : Nat} {r : GsM} {xs : List PV} : Z (gTL m r (.tup xs) ρ st) QR E = if xs.length = m then Z (r xs ρ st) QR E0 else False := by
  unfold gTL; dsimp only; rw [Z_ite]; by_cases h : xs.length = m
  · rw [if_pos h, if_pos h, Z_calm]
  · rw [if_neg h, if_neg h]; rfl
@[simp ↓] theorem Z_gTLl {m : Nat} {r : GsM} {xs : List PV} : Z (gTL m r (.lst xs) ρ st) QR E = if xs.length = m then Z (r xs ρ st) QR E0 else False := by
  unfold gTL; dsimp only; rw [Z_ite]; by_cases h : xs.length = m
  · rw [if_pos h, if_pos h, Z_calm]
  · rw [if_neg h, if_neg h]; rfl
noncomputable def kFor (g : GM) (b : MS1) (ρ : Rho) (QF : KF) (E : KX) : List PV → Sto → Prop := fun ps s => Z (forL g b ps ρ s) QF E
@[simp ↓] theorem kFor_at {g : GM} {b : MS1} {ρ : Rho} {QF : KF} {E : KX} {ps : List PV} {s : Sto} : kFor g b ρ QF E ps s = (Z (forL g b ps ρ s) QF E) := propext Iff.rfl
@[simp ↓] theorem Z_sFor {mi : ML1} {g : GM} {b : MS1} : Z (sFor mi g b ρ st) QF E = Z (mi ρ st) (kFor g b ρ QF E) (kX ρ QF) := by
  unfold sFor; rw [Z_onErr]; rfl
theorem Z_forL_nil {g : GM} {b : MS1} : Z (forL g b [] ρ st) QF E = QF (.next ρ) st := propext Iff.rfl
noncomputable def kF1 (g : GM) (b : MS1) (ps : List PV) (QF : KF) (E : KX) : Rho → Sto → Prop := fun ρ1 s => Z (b ρ1 s) (turnQ (forL g b ps) QF E) E
@[simp] theorem kF1_at {g : GM} {b : MS1} {ps : List PV} {QF : KF} {E : KX} {ρ1 : Rho} {s : Sto} : kF1 g b ps QF E ρ1 s = (Z (b ρ1 s) (turnQ (forL g b ps) QF E) E) := propext Iff.rfl
theorem Z_forL {g : GM} {b : MS1} {p : PV} {ps : List PV} : Z (forL g b (p :: ps) ρ st) QF E = Z (g p ρ st) (kF1 g b ps QF E) (kX ρ QF) := by
  rw [forL, Z_onErr]
  simp only [Z_turn]
  rfl
noncomputable def kIt (QL : KLs) (E : KX) : PV → Sto → Prop := fun x s => Z (itemsM x s) QL E
@[simp ↓] theorem kIt_at {QL : KLs} {E : KX} {x : PV} {s : Sto} : kIt QL E x s = (Z (itemsM x s) QL E) := propext Iff.rfl
@[simp ↓] theorem Z_iSeq {m : ME1} : Z (iSeq m ρ st) QL E = Z (m ρ st) (kIt QL E) E := by
  unfold iSeq; rw [Z_bind]; rfl
noncomputable def kFL (f : List PV → M (List PV)) (QL : KLs) (E : KX) : List PV → Sto → Prop := fun xs s => Z (f xs s) QL E
@[simp ↓] theorem kFL_at {f : List PV → M (List PV)} {QL : KLs} {E : KX} {xs : List PV} {s : Sto} : kFL f QL E xs s = (Z (f xs s) QL E) := propext Iff.rfl
@[simp ↓] theorem Z_iCall {f : List PV → M (List PV)} {m : ML1} : Z (iCall f m ρ st) QL E = Z (m ρ st) (kFL f QL E) E := by
  unfold iCall; rw [Z_bind]; rfl
noncomputable def kS3 (f : PV → Option Int → Option Int → M PV) (x : PV) (l : Option Int) (QP : KP) (E : KX) : Option Int → Sto → Prop := fun h s => Z (f x l h s) QP E
@[simp ↓] theorem kS3_at {f : PV → Option Int → Option Int → M PV} {x : PV} {l : Option Int} {QP : KP} {E : KX} {h : Option Int} {s : Sto} : kS3 f x l QP E h s = (Z (f x l h s) QP E) := propext Iff.rfl
noncomputable def kS2 (f : PV → Option Int → Option Int → M PV) (mh : Rho → M (Option Int)) (ρ : Rho) (x : PV) (QP : KP) (E : KX) : Option Int → Sto → Prop := fun l s => Z (mh ρ s) (kS3 f x l QP E) E
@[simp ↓] theorem kS2_at {f : PV → Option Int → Option Int → M PV} {mh : Rho → M (Option Int)} {ρ : Rho} {x : PV} {QP : KP} {E : KX} {l : Option Int} {s : Sto} : kS2 f mh ρ x QP E l s = (Z (mh ρ s) (kS3 f x l QP E) E) := propext Iff.rfl
noncomputable def kS1 (f : PV → Option Int → Option Int → M PV) (ml : Rho → M (Option Int)) (mh : Rho → M (Option Int)) (ρ : Rho) (QP : KP) (E : KX) : PV → Sto → Prop := fun x s => Z (ml ρ s) (kS2 f mh ρ x QP E) E
@[simp ↓] theorem kS1_at {f : PV → Option Int → Option Int → M PV} {ml : Rho → M (Option Int)} {mh : Rho → M (Option Int)} {ρ : Rho} {QP : KP} {E : KX} {x : PV} {s : Sto} : kS1 f ml mh ρ QP E x s = (Z (ml ρ s) (kS2 f mh ρ x QP E) E) := propext Iff.rfl
@[simp ↓] theorem Z_eSl {f : PV → Option Int → Option Int → M PV} {me : ME1} {ml mh : Rho → M (Option Int)} : Z (eSl f me ml mh ρ st) QP E = Z (me ρ st) (kS1 f ml mh ρ QP E) E := by
  unfold eSl; rw [Z_bind]; simp only [Z_bind]; rfl
noncomputable def kO2 (QO : KO) : Int → Sto → Prop := fun i s => QO (some i) s
@[simp ↓] theorem kO2_at {QO : KO} {i : Int} {s : Sto} : kO2 QO i s = (QO (some i) s) := propext Iff.rfl
noncomputable def kO1 (QO : KO) (E : KX) : PV → Sto → Prop := fun x s => Z (asI x s) (kO2 QO) E
@[simp ↓] theorem kO1_at {QO : KO} {E : KX} {x : PV} {s : Sto} : kO1 QO E x s = (Z (asI x s) (kO2 QO) E) := propext Iff.rfl
@[simp ↓] theorem Z_oSome {m : ME1} : Z (oSome m ρ st) QO E = Z (m ρ st) (kO1 QO E) E := by
  unfold oSome; rw [Z_bind]; simp only [Z_bind]; rfl
noncomputable def kP3 (k : PV) (v : PV) (QD : KD) : List (PV × PV) → Sto → Prop := fun ps s => QD ((k, v) :: ps) s
@[simp ↓] theorem kP3_at {k : PV} {v : PV} {QD : KD} {ps : List (PV × PV)} {s : Sto} : kP3 k v QD ps s = (QD ((k, v) :: ps) s) := propext Iff.rfl
noncomputable def kP2 (ms : List (ME1 × ME1)) (ρ : Rho) (k : PV) (QD : KD) (E : KX) : PV → Sto → Prop := fun v s => Z (pairsM ms ρ s) (kP3 k v QD) E
@[simp ↓] theorem kP2_at {ms : List (ME1 × ME1)} {ρ : Rho} {k : PV} {QD : KD} {E : KX} {v : PV} {s : Sto} : kP2 ms ρ k QD E v s = (Z (pairsM ms ρ s) (kP3 k v QD) E) := propext Iff.rfl
noncomputable def kP1 (mv : ME1) (ms : List (ME1 × ME1)) (ρ : Rho) (QD : KD) (E : KX) : PV → Sto → Prop := fun k s => Z (mv ρ s) (kP2 ms ρ k QD E) E
@[simp ↓] theorem kP1_at {mv : ME1} {ms : List (ME1 × ME1)} {ρ : Rho} {QD : KD} {E : KX} {k : PV} {s : Sto} : kP1 mv ms ρ QD E k s = (Z (mv ρ s) (kP2 ms ρ k QD E) E) := propext Iff.rfl
@[simp ↓] theorem Z_pairsN : Z (pairsM [] ρ st) QD E = QD [] st := propext Iff.rfl
@[simp ↓] theorem Z_pairsC {mk mv : ME1} {ms : List (ME1 × ME1)} : Z (pairsM ((mk, mv) :: ms) ρ st) QD E = Z (mk ρ st) (kP1 mv ms ρ QD E) E := by
  rw [pairsM, Z_bind]; simp only [Z_bind]; rfl
noncomputable def kD (QP : KP) : List (PV × PV) → Sto → Prop := fun ps s => if keysOk ps = true ∧ ps.length ≤ 15 then QP (.loc s.length) (s ++ [.dct (mergeP [] ps)]) else False
@[simp ↓] theorem kD_at {QP : KP} {ps : List (PV × PV)} {s : Sto} : kD QP ps s = (if keysOk ps = true ∧ ps.length ≤ 15 then QP (.loc s.length) (s ++ [.dct (mergeP [] ps)]) else False) := propext Iff.rfl
@[simp ↓] theorem Z_eDct {ms : List (ME1 × ME1)} : Z (eDct ms ρ st) QP E = Z (pairsM ms ρ st) (kD QP) E := by
  unfold eDct M.bind
  cases pairsM ms ρ st with
  | ok ps s => exact Z_iteR
  | err x s => rfl
  | bad => rfl
@[simp ↓] theorem Z_eDct0 : Z (eDct0 ρ st) QP E = QP (.loc st.length) (st ++ [.dct []]) := propext Iff.rfl
noncomputable def kLE (k : List PV → M PV) (QP : KP) (E : KX) : List PV → Sto → Prop := fun acc s => Z (k acc s) QP E
@[simp ↓] theorem kLE_at {k : List PV → M PV} {QP : KP} {E : KX} {acc : List PV} {s : Sto} : kLE k QP E acc s = (Z (k acc s) QP E) := propext Iff.rfl
noncomputable def kLc (k : List PV → M PV) (g : GM) (t : MT1) (e : ME1) (vs : List Nat) (ρ : Rho) (QP : KP) (E : KX) : List PV → Sto → Prop := fun ps s => Z (lcL g t e (wipeP ρ vs) ps [] s) (kLE k QP E) E
@[simp ↓] theorem kLc_at {k : List PV → M PV} {g : GM} {t : MT1} {e : ME1} {vs : List Nat} {ρ : Rho} {QP : KP} {E : KX} {ps : List PV} {s : Sto} : kLc k g t e vs ρ QP E ps s = (Z (lcL g t e (wipeP ρ vs) ps [] s) (kLE k QP E) E) := propext Iff.rfl
@[simp ↓] theorem Z_eLc {k : List PV → M PV} {mi : ML1} {g : GM} {t : MT1} {e : ME1} {vs : List Nat} : Z (eLc k mi g t e vs ρ st) QP E = Z (mi ρ st) (kLc k g t e vs ρ QP E) E := by
  unfold eLc; rw [Z_bind]; simp only [Z_bind]; rfl
@[simp ↓] theorem Z_lcV {acc : List PV} : Z (lcV acc st) QP E = QP (.lst acc) st := propext Iff.rfl
@[simp ↓] theorem Z_lcN {acc : List PV} : Z (lcN acc st) QP E = QP (.loc st.length) (st ++ [.lst acc]) := propext Iff.rfl
@[simp ↓] theorem Z_tYes : Z (tYesM ρ st) QB E = QB true st := propext Iff.rfl
@[simp ↓] theorem wipeP_nil {ρ : Rho} : wipeP ρ [] = ρ := rfl
@[simp ↓] theorem wipeP_cons {ρ : Rho} {v : Nat} {vs : List Nat} : wipeP ρ (v :: vs) = (wipeP ρ vs).set v none := rfl
theorem lc_nil {g : GM} {t : MT1} {e : ME1} {ρ0 : Rho} {acc : List PV} : Z (lcL g t e ρ0 [] acc st) QL E = QL acc st := propext Iff.rfl
theorem lc_cons {g : GM} {t : MT1} {e : ME1} {ρ0 : Rho} {p : PV} {ps acc : List PV} : Z (lcL g t e ρ0 (p :: ps) acc st) QL E = Z (g p ρ0 st) (fun ρ1 s => Z (t ρ1 s) (fun c s => if c = true then Z (e ρ1 s) (fun y s => if acc.length < 16777216 then Z (lcL g t e ρ0 ps (acc ++ [y]) s) QL E else False) E0 else Z (lcL g t e ρ0 ps acc s) QL E) E0) E0 := by
  rw [lcL, Z_bind, Z_calm]
  congr 1; funext ρ1 s
  rw [Z_bind, Z_calm]
  congr 1; funext c s
  cases c with
  | false => rfl
  | true =>
    show Z (M.bind _ _ _) _ _ = Z _ _ _
    rw [Z_bind, Z_calm]
    congr 1; funext y s
    exact Z_ite
end
end MP

set_option maxRecDepth 100000
namespace MP
open PySem L2 PyProof
section
variable {X : Cx} {W : WX} {pos : Pos}
noncomputable def sPar (i j : Nat) (ma : Rho → M (List PV)) : Rho → M Fl := fun ρ => onErr ρ (ma ρ) fun vs => match vs with
  | [v, w] => M.ret (.next ((ρ.set i (some v)).set j (some w)))
  | _ => M.fail
noncomputable def sPar3 (i j l : Nat) (ma : Rho → M (List PV)) : Rho → M Fl := fun ρ => onErr ρ (ma ρ) fun vs => match vs with
  | [u, v, w] => M.ret (.next (((ρ.set i (some u)).set j (some v)).set l (some w)))
  | _ => M.fail
end
section
variable {ρ : Rho} {st : Sto} {QF : KF} {E : KX}
noncomputable def kPar (i j : Nat) (ρ : Rho) (QF : KF) : List PV → Sto → Prop := fun vs s => match vs with
  | [v, w] => QF (.next ((ρ.set i (some v)).set j (some w))) s
  | _ => False
noncomputable def kPar3 (i j l : Nat) (ρ : Rho) (QF : KF) : List PV → Sto → Prop := fun vs s => match vs with
  | [u, v, w] => QF (.next (((ρ.set i (some u)).set j (some v)).set l (some w))) s
  | _ => False
@[simp ↓] theorem kPar_at {i j : Nat} {v w : PV} {s : Sto} : kPar i j ρ QF [v, w] s = QF (.next ((ρ.set i (some v)).set j (some w))) s := propext Iff.rfl
@[simp ↓] theorem kPar3_at {i j l : Nat} {u v w : PV} {s : Sto} : kPar3 i j l ρ QF [u, v, w] s = QF (.next (((ρ.set i (some u)).set j (some v)).set l (some w))) s := propext Iff.rfl
@[simp ↓] theorem Z_sPar {i j : Nat} {ma : ML1} : Z (sPar i j ma ρ st) QF E = Z (ma ρ st) (kPar i j ρ QF) (kX ρ QF) := by
  unfold sPar; rw [Z_onErr]; congr 1; funext vs s; unfold kPar; split <;> rfl
@[simp ↓] theorem Z_sPar3 {i j l : Nat} {ma : ML1} : Z (sPar3 i j l ma ρ st) QF E = Z (ma ρ st) (kPar3 i j l ρ QF) (kX ρ QF) := by
  unfold sPar3; rw [Z_onErr]; congr 1; funext vs s; unfold kPar3; split <;> rfl
end
end MP

set_option maxRecDepth 100000
set_option maxHeartbeats 1000000
namespace MP
open PySem L2
@[simp] theorem atI_0 {α : Type} {x0 : α} {l : List α} : L2.atI (x0 :: l) (0 : Int) = some x0 := by
  unfold L2.atI L2.ixN
  rw [if_pos (by omega), if_pos (by simp only [List.length_cons]; omega)]
  rfl
@[simp] theorem atI_1 {α : Type} {x0 x1 : α} {l : List α} : L2.atI (x0 :: x1 :: l) (1 : Int) = some x1 := by
  unfold L2.atI L2.ixN
  rw [if_pos (by omega), if_pos (by simp only [List.length_cons]; omega)]
  rfl
@[simp] theorem atI_2 {α : Type} {x0 x1 x2 : α} {l : List α} : L2.atI (x0 :: x1 :: x2 :: l) (2 : Int) = some x2 := by
  unfold L2.atI L2.ixN
  rw [if_pos (by omega), if_pos (by simp only [List.length_cons]; omega)]
  rfl
@[simp] theorem atI_3 {α : Type} {x0 x1 x2 x3 : α} {l : List α} : L2.atI (x0 :: x1 :: x2 :: x3 :: l) (3 : Int) = some x3 := by
  unfold L2.atI L2.ixN
  rw [if_pos (by omega), if_pos (by simp only [List.length_cons]; omega)]
  rfl
@[simp] theorem atI_4 {α : Type} {x0 x1 x2 x3 x4 : α} {l : List α} : L2.atI (x0 :: x1 :: x2 :: x3 :: x4 :: l) (4 : Int) = some x4 := by
  unfold L2.atI L2.ixN
  rw [if_pos (by omega), if_pos (by simp only [List.length_cons]; omega)]
  rfl
@[simp] theorem atI_5 {α : Type} {x0 x1 x2 x3 x4 x5 : α} {l : List α} : L2.atI (x0 :: x1 :: x2 :: x3 :: x4 :: x5 :: l) (5 : Int) = some x5 := by
  unfold L2.atI L2.ixN
  rw [if_pos (by omega), if_pos (by simp only [List.length_cons]; omega)]
  rfl
@[simp] theorem atI_6 {α : Type} {x0 x1 x2 x3 x4 x5 x6 : α} {l : List α} : L2.atI (x0 :: x1 :: x2 :: x3 :: x4 :: x5 :: x6 :: l) (6 : Int) = some x6 := by
  unfold L2.atI L2.ixN
  rw [if_pos (by omega), if_pos (by simp only [List.length_cons]; omega)]
  rfl
@[simp] theorem atI_7 {α : Type} {x0 x1 x2 x3 x4 x5 x6 x7 : α} {l : List α} : L2.atI (x0 :: x1 :: x2 :: x3 :: x4 :: x5 :: x6 :: x7 :: l) (7 : Int) = some x7 := by
  unfold L2.atI L2.ixN
  rw [if_pos (by omega), if_pos (by simp only [List.length_cons]; omega)]
  rfl
section
variable {α β : Type} {QL : List PV → Sto → Prop} {st : Sto} {ρ : Rho} {Q : α → Sto → Prop} {E : Exn → Sto → Prop} {QP : PV → Sto → Prop} {QF : Fl → Sto → Prop} {QU : Unit → Sto → Prop} {i j : Int} {a b : List Nat} {xs ys : List PV} {x y : PV} {m : Nat}
noncomputable def runQ (Q : PV → Sto → Prop) (E : Exn → Sto → Prop) : Fl → Sto → Prop
  | .next _, st => Q .non st
  | .ret p, st => Q p st
  | .exc x _, st => E x st
  | _, _ => False
@[simp] theorem runQ_next : runQ QP E (.next ρ) st = QP .non st := propext Iff.rfl
@[simp] theorem runQ_ret : runQ QP E (.ret x) st = QP x st := propext Iff.rfl
@[simp] theorem runQ_exc {x : Exn} : runQ QP E (.exc x ρ) st = E x st := propext Iff.rfl
theorem Z_run {b : Rho → M Fl} {k : Nat} {ps : List PV} {ρ0 : Rho} (h : ps.map some ++ List.replicate (k - ps.length) none = ρ0) : Z (runB b k ps st) QP E = Z (b ρ0 st) (runQ QP E) E0 := by
  unfold runB
  rw [h]
  cases b ρ0 st with
  | ok f s => cases f <;> rfl
  | err x s => rfl
  | bad => rfl
@[simp ↓] theorem Z_addII : Z (addV (.int i) (.int j) st) QP E = QP (.int (i + j)) st := propext Iff.rfl
@[simp ↓] theorem Z_addSS : Z (addV (.str a) (.str b) st) QP E = if a.length + b.length ≤ 16777216 then QP (.str (a ++ b)) st else False := by unfold addV; dsimp only; rw [Z_ite]; rfl
@[simp ↓] theorem Z_addTT : Z (addV (.tup xs) (.tup ys) st) QP E = if xs.length + ys.length ≤ 16777216 then QP (.tup (xs ++ ys)) st else False := by unfold addV; dsimp only; rw [Z_ite]; rfl
@[simp ↓] theorem Z_addLL : Z (addV (.lst xs) (.lst ys) st) QP E = if xs.length + ys.length ≤ 16777216 then QP (.lst (xs ++ ys)) st else False := by unfold addV; dsimp only [listOf]; rw [Z_iteR]; rfl
@[simp ↓] theorem Z_subII : Z (subV (.int i) (.int j) st) QP E = QP (.int (i - j)) st := propext Iff.rfl
@[simp ↓] theorem Z_mulII : Z (mulV (.int i) (.int j) st) QP E = if mulOk i j = true then QP (.int (i * j)) st else False := by unfold mulV; dsimp only; rw [Z_ite]; rfl
@[simp ↓] theorem Z_mulTI : Z (mulV (.tup xs) (.int i) st) QP E = if xs ≠ [] ∧ -1000000 ≤ i ∧ i ≤ 1000 ∧ xs.length ≤ 1000 then QP (.tup (List.replicate i.toNat xs).flatten) st else False := by unfold mulV; dsimp only; rw [Z_ite]; rfl
@[simp ↓] theorem Z_fdivII : Z (fdivV (.int i) (.int j) st) QP E = if (j ≠ 0 ∧ j.natAbs < 1073741824) ∨ (0 < j ∧ j.natAbs.log2 < 9000) then QP (.int (i.fdiv j)) st else False := by unfold fdivV; dsimp only; rw [Z_ite]; rfl
@[simp ↓] theorem Z_modII : Z (modV (.int i) (.int j) st) QP E = if j ≠ 0 then QP (.int (i.fmod j)) st else False := by unfold modV; dsimp only; rw [Z_ite]; rfl
@[simp ↓] theorem Z_powII : Z (powV (.int i) (.int j) st) QP E = if 0 ≤ j ∧ j ≤ 1000000 ∧ i.natAbs < 18446744073709551616 then QP (.int (i ^ j.toNat)) st else False := by unfold powV; dsimp only; rw [Z_ite]; rfl
@[simp ↓] theorem Z_negI : Z (negV (.int i) st) QP E = QP (.int (-i)) st := propext Iff.rfl
@[simp ↓] theorem Z_ltV {p : Int → Int → Bool} : Z (ltV p (.int i) (.int j) st) QP E = QP (.bl (p i j)) st := propext Iff.rfl
theorem ibeq (i j : Int) : (i == j) = decide (i = j) := by rw [Bool.eq_iff_iff]; simp
@[simp ↓] theorem Z_eqII : Z (eqM (.int i) (.int j) st) QP E = QP (.bl (decide (i = j))) st := by
  unfold eqM; rw [if_pos (by rfl)]; show QP (.bl (i == j)) st = _; rw [ibeq]
@[simp ↓] theorem Z_neII : Z (neM (.int i) (.int j) st) QP E = QP (.bl (decide (i ≠ j))) st := by
  unfold neM; rw [if_pos (by rfl)]; show QP (.bl (!(i == j))) st = _; rw [ibeq]; simp
theorem lbeq {α : Type} [DecidableEq α] (a b : List α) : (a == b) = decide (a = b) := by rw [Bool.eq_iff_iff]; simp
@[simp ↓] theorem Z_eqSS : Z (eqM (.str a) (.str b) st) QP E = QP (.bl (decide (a = b))) st := by
  unfold eqM; rw [if_pos (by rfl)]; show QP (.bl (a == b)) st = _; rw [lbeq]
@[simp ↓] theorem Z_neSS : Z (neM (.str a) (.str b) st) QP E = QP (.bl (decide (a ≠ b))) st := by
  unfold neM; rw [if_pos (by rfl)]; show QP (.bl (!(a == b))) st = _; rw [lbeq]; simp
theorem Z_eq (h : cmpOk x y st = true) : Z (eqM x y st) QP E = QP (.bl (eqb (shal x st) (shal y st))) st := by unfold eqM; rw [if_pos h]; rfl
@[simp ↓] theorem Z_isN : Z (isN x .non st) QP E = QP (.bl (nonP x)) st := propext Iff.rfl
@[simp ↓] theorem Z_notN : Z (notN x .non st) QP E = QP (.bl (!nonP x)) st := propext Iff.rfl
@[simp ↓] theorem Z_optS {v : α} : Z (optM (some v) st) Q E = Q v st := propext Iff.rfl
@[simp ↓] theorem Z_optN : Z (optM (none : Option α) st) Q E = False := propext Iff.rfl
@[simp ↓] theorem Z_ixT : Z (ixM (.tup xs) (.int i) st) QP E = Z (optM (L2.atI xs i) st) QP E := propext Iff.rfl
@[simp ↓] theorem Z_ixL : Z (ixM (.lst xs) (.int i) st) QP E = Z (optM (L2.atI xs i) st) QP E := propext Iff.rfl
@[simp ↓] theorem Z_ixZ : Z (ixM (.frz xs) (.int i) st) QP E = Z (optM (L2.atI xs i) st) QP E := propext Iff.rfl
noncomputable def kIS (QP : KP) : Nat → Sto → Prop := fun c s => QP (.str [c]) s
@[simp ↓] theorem kIS_at {c : Nat} : kIS QP c st = QP (.str [c]) st := propext Iff.rfl
@[simp ↓] theorem Z_ixS : Z (ixM (.str a) (.int i) st) QP E = if a.length ≤ 16777216 then Z (optM (L2.atI a i) st) (kIS QP) E else False := by
  show Z (if a.length ≤ 16777216 then (match L2.atI a i with | some c => .ok (.str [c]) st | none => .bad) else .bad) QP E = _
  rw [Z_iteR]
  cases L2.atI a i <;> rfl
@[simp ↓] theorem Z_ixC (h : st[m]? = some (.lst xs)) : Z (ixM (.loc m) (.int i) st) QP E = Z (optM (L2.atI xs i) st) QP E := by
  unfold ixM seqOf; dsimp only; rw [h]
theorem Z_ixD {kvs : List (PV × PV)} (h : st[m]? = some (.dct kvs)) (hk : (keyOf y).isSome = true) : Z (ixM (.loc m) y st) QP E = Z (optM (lookP kvs y) st) QP E := by
  unfold ixM seqOf dctOf; dsimp only; rw [h]; dsimp only; rw [if_pos hk]
@[simp ↓] theorem Z_ixDs {kvs : List (PV × PV)} (h : st[m]? = some (.dct kvs)) : Z (ixM (.loc m) (.str a) st) QP E = Z (optM (lookP kvs (.str a)) st) QP E := Z_ixD h rfl
@[simp ↓] theorem Z_ixDi {kvs : List (PV × PV)} (h : st[m]? = some (.dct kvs)) : Z (ixM (.loc m) (.int i) st) QP E = Z (optM (lookP kvs (.int i)) st) QP E := Z_ixD h rfl
@[simp] theorem keyOf_int : keyOf (.int i) = some (.inl i) := rfl
@[simp] theorem keyOf_str : keyOf (.str a) = some (.inr ⟨a.toArray⟩) := rfl
@[simp ↓] theorem Z_lenT : Z (lenM [.tup xs] st) QP E = QP (.int xs.length) st := propext Iff.rfl
@[simp ↓] theorem Z_lenL : Z (lenM [.lst xs] st) QP E = QP (.int xs.length) st := propext Iff.rfl
@[simp ↓] theorem Z_lenZ : Z (lenM [.frz xs] st) QP E = QP (.int xs.length) st := propext Iff.rfl
@[simp ↓] theorem Z_lenS : Z (lenM [.str a] st) QP E = if a.length ≤ 16777216 then QP (.int a.length) st else False := by
  show Z (if a.length ≤ 16777216 then .ok (.int a.length) st else .bad) QP E = _; rw [Z_iteR]; rfl
@[simp ↓] theorem Z_lenC (h : st[m]? = some (.lst xs)) : Z (lenM [.loc m] st) QP E = QP (.int xs.length) st := by
  unfold lenM seqOf; dsimp only; rw [h]; rfl
@[simp ↓] theorem Z_mkTup : Z (mkTup xs st) QP E = if xs.length ≤ 16777216 then QP (.tup xs) st else False := by unfold mkTup; rw [Z_ite]; rfl
@[simp ↓] theorem Z_mkLst : Z (mkLst xs st) QP E = if xs.length ≤ 16777216 then QP (.lst xs) st else False := by unfold mkLst; rw [Z_ite]; rfl
@[simp ↓] theorem Z_mkLstN : Z (mkLstN xs st) QP E = if xs.length ≤ 16777216 then QP (.loc st.length) (st ++ [.lst xs]) else False := by unfold mkLstN; rw [Z_iteR]; rfl
@[simp ↓] theorem Z_listN (h : seqOf x st = some xs) : Z (listN [x] st) QP E = QP (.loc st.length) (st ++ [.lst xs]) := by unfold listN; dsimp only; rw [h]; rfl
@[simp ↓] theorem Z_listM (h : seqOf x st = some xs) : Z (listM [x] st) QP E = QP (.lst xs) st := by unfold listM; dsimp only; rw [h]; rfl
@[simp ↓] theorem Z_tupleM (h : seqOf x st = some xs) : Z (tupleM [x] st) QP E = QP (.tup xs) st := by unfold tupleM; dsimp only; rw [h]; rfl
@[simp] theorem seqOf_tup : seqOf (.tup xs) st = some xs := rfl
@[simp] theorem seqOf_lst : seqOf (.lst xs) st = some xs := rfl
@[simp] theorem seqOf_frz : seqOf (.frz xs) st = some xs := rfl
@[simp] theorem seqOf_loc (h : st[m]? = some (.lst xs)) : seqOf (.loc m) st = some xs := by unfold seqOf; dsimp only; rw [h]
@[simp ↓] theorem Z_setL {v : PV} {k : Nat} (h : st[m]? = some (.lst xs)) (hi : ixN xs.length i = some k) : Z (setM (.loc m) (.int i) v st) QU E = QU () (st.set m (.lst (xs.set k v))) := by
  unfold setM; dsimp only; rw [h]; dsimp only; rw [hi]; rfl
theorem Z_setD {v : PV} {kvs : List (PV × PV)} (h : st[m]? = some (.dct kvs)) (hk : (keyOf y).isSome = true) (hl : kvs.length < 16777216) : Z (setM (.loc m) y v st) QU E = QU () (st.set m (.dct (putP kvs y v))) := by
  unfold setM; dsimp only; rw [h]; dsimp only; rw [if_pos ⟨hk, hl⟩]; rfl
@[simp ↓] theorem Z_setDs {v : PV} {kvs : List (PV × PV)} (h : st[m]? = some (.dct kvs)) (hl : kvs.length < 16777216) : Z (setM (.loc m) (.str a) v st) QU E = QU () (st.set m (.dct (putP kvs (.str a) v))) := Z_setD h rfl hl
@[simp ↓] theorem Z_setDi {v : PV} {kvs : List (PV × PV)} (h : st[m]? = some (.dct kvs)) (hl : kvs.length < 16777216) : Z (setM (.loc m) (.int i) v st) QU E = QU () (st.set m (.dct (putP kvs (.int i) v))) := Z_setD h rfl hl
@[simp ↓] theorem Z_slS {lo hi : Option Int} : Z (slM (.str a) lo hi st) QP E = if a.length ≤ 16777216 then QP (.str (cutL a lo hi)) st else False := by unfold slM; dsimp only; rw [Z_ite]; rfl
@[simp ↓] theorem Z_slT {lo hi : Option Int} : Z (slM (.tup xs) lo hi st) QP E = QP (.tup (cutL xs lo hi)) st := propext Iff.rfl
@[simp ↓] theorem Z_slL {lo hi : Option Int} : Z (slM (.lst xs) lo hi st) QP E = QP (.lst (cutL xs lo hi)) st := propext Iff.rfl
theorem Z_isi {T t : String} (h : isiOk T = true) (ht : tyP x st = some t) : Z (isiM [x, .ty T] st) QP E = QP (.bl (isiT t T)) st := by unfold isiM; dsimp only; rw [if_pos h, ht]; rfl
@[simp ↓] theorem Z_isi_non_int : Z (isiM [.non, .ty "int"] st) QP E = QP (.bl false) st := Z_isi (t := "NoneType") (by decide) rfl
@[simp ↓] theorem Z_isi_bl_int {k : Bool} : Z (isiM [.bl k, .ty "int"] st) QP E = QP (.bl true) st := Z_isi (t := "bool") (by decide) rfl
@[simp ↓] theorem Z_isi_int_int : Z (isiM [.int i, .ty "int"] st) QP E = QP (.bl true) st := Z_isi (t := "int") (by decide) rfl
@[simp ↓] theorem Z_isi_str_int : Z (isiM [.str a, .ty "int"] st) QP E = QP (.bl false) st := Z_isi (t := "str") (by decide) rfl
@[simp ↓] theorem Z_isi_tup_int : Z (isiM [.tup xs, .ty "int"] st) QP E = QP (.bl false) st := Z_isi (t := "tuple") (by decide) rfl
@[simp ↓] theorem Z_isi_lst_int : Z (isiM [.lst xs, .ty "int"] st) QP E = QP (.bl false) st := Z_isi (t := "list") (by decide) rfl
@[simp ↓] theorem Z_isi_non_bool : Z (isiM [.non, .ty "bool"] st) QP E = QP (.bl false) st := Z_isi (t := "NoneType") (by decide) rfl
@[simp ↓] theorem Z_isi_bl_bool {k : Bool} : Z (isiM [.bl k, .ty "bool"] st) QP E = QP (.bl true) st := Z_isi (t := "bool") (by decide) rfl
@[simp ↓] theorem Z_isi_int_bool : Z (isiM [.int i, .ty "bool"] st) QP E = QP (.bl false) st := Z_isi (t := "int") (by decide) rfl
@[simp ↓] theorem Z_isi_str_bool : Z (isiM [.str a, .ty "bool"] st) QP E = QP (.bl false) st := Z_isi (t := "str") (by decide) rfl
@[simp ↓] theorem Z_isi_tup_bool : Z (isiM [.tup xs, .ty "bool"] st) QP E = QP (.bl false) st := Z_isi (t := "tuple") (by decide) rfl
@[simp ↓] theorem Z_isi_lst_bool : Z (isiM [.lst xs, .ty "bool"] st) QP E = QP (.bl false) st := Z_isi (t := "list") (by decide) rfl
@[simp ↓] theorem Z_isi_non_str : Z (isiM [.non, .ty "str"] st) QP E = QP (.bl false) st := Z_isi (t := "NoneType") (by decide) rfl
@[simp ↓] theorem Z_isi_bl_str {k : Bool} : Z (isiM [.bl k, .ty "str"] st) QP E = QP (.bl false) st := Z_isi (t := "bool") (by decide) rfl
@[simp ↓] theorem Z_isi_int_str : Z (isiM [.int i, .ty "str"] st) QP E = QP (.bl false) st := Z_isi (t := "int") (by decide) rfl
@[simp ↓] theorem Z_isi_str_str : Z (isiM [.str a, .ty "str"] st) QP E = QP (.bl true) st := Z_isi (t := "str") (by decide) rfl
@[simp ↓] theorem Z_isi_tup_str : Z (isiM [.tup xs, .ty "str"] st) QP E = QP (.bl false) st := Z_isi (t := "tuple") (by decide) rfl
@[simp ↓] theorem Z_isi_lst_str : Z (isiM [.lst xs, .ty "str"] st) QP E = QP (.bl false) st := Z_isi (t := "list") (by decide) rfl
@[simp ↓] theorem Z_isi_non_tuple : Z (isiM [.non, .ty "tuple"] st) QP E = QP (.bl false) st := Z_isi (t := "NoneType") (by decide) rfl
@[simp ↓] theorem Z_isi_bl_tuple {k : Bool} : Z (isiM [.bl k, .ty "tuple"] st) QP E = QP (.bl false) st := Z_isi (t := "bool") (by decide) rfl
@[simp ↓] theorem Z_isi_int_tuple : Z (isiM [.int i, .ty "tuple"] st) QP E = QP (.bl false) st := Z_isi (t := "int") (by decide) rfl
@[simp ↓] theorem Z_isi_str_tuple : Z (isiM [.str a, .ty "tuple"] st) QP E = QP (.bl false) st := Z_isi (t := "str") (by decide) rfl
@[simp ↓] theorem Z_isi_tup_tuple : Z (isiM [.tup xs, .ty "tuple"] st) QP E = QP (.bl true) st := Z_isi (t := "tuple") (by decide) rfl
@[simp ↓] theorem Z_isi_lst_tuple : Z (isiM [.lst xs, .ty "tuple"] st) QP E = QP (.bl false) st := Z_isi (t := "list") (by decide) rfl
@[simp ↓] theorem Z_isi_non_list : Z (isiM [.non, .ty "list"] st) QP E = QP (.bl false) st := Z_isi (t := "NoneType") (by decide) rfl
@[simp ↓] theorem Z_isi_bl_list {k : Bool} : Z (isiM [.bl k, .ty "list"] st) QP E = QP (.bl false) st := Z_isi (t := "bool") (by decide) rfl
@[simp ↓] theorem Z_isi_int_list : Z (isiM [.int i, .ty "list"] st) QP E = QP (.bl false) st := Z_isi (t := "int") (by decide) rfl
@[simp ↓] theorem Z_isi_str_list : Z (isiM [.str a, .ty "list"] st) QP E = QP (.bl false) st := Z_isi (t := "str") (by decide) rfl
@[simp ↓] theorem Z_isi_tup_list : Z (isiM [.tup xs, .ty "list"] st) QP E = QP (.bl false) st := Z_isi (t := "tuple") (by decide) rfl
@[simp ↓] theorem Z_isi_lst_list : Z (isiM [.lst xs, .ty "list"] st) QP E = QP (.bl true) st := Z_isi (t := "list") (by decide) rfl
@[simp ↓] theorem Z_isi_non_dict : Z (isiM [.non, .ty "dict"] st) QP E = QP (.bl false) st := Z_isi (t := "NoneType") (by decide) rfl
@[simp ↓] theorem Z_isi_bl_dict {k : Bool} : Z (isiM [.bl k, .ty "dict"] st) QP E = QP (.bl false) st := Z_isi (t := "bool") (by decide) rfl
@[simp ↓] theorem Z_isi_int_dict : Z (isiM [.int i, .ty "dict"] st) QP E = QP (.bl false) st := Z_isi (t := "int") (by decide) rfl
@[simp ↓] theorem Z_isi_str_dict : Z (isiM [.str a, .ty "dict"] st) QP E = QP (.bl false) st := Z_isi (t := "str") (by decide) rfl
@[simp ↓] theorem Z_isi_tup_dict : Z (isiM [.tup xs, .ty "dict"] st) QP E = QP (.bl false) st := Z_isi (t := "tuple") (by decide) rfl
@[simp ↓] theorem Z_isi_lst_dict : Z (isiM [.lst xs, .ty "dict"] st) QP E = QP (.bl false) st := Z_isi (t := "list") (by decide) rfl
@[simp] theorem tyP_non : tyP .non st = some "NoneType" := rfl
@[simp] theorem tyP_bl {b : Bool} : tyP (.bl b) st = some "bool" := rfl
@[simp] theorem tyP_int : tyP (.int i) st = some "int" := rfl
@[simp] theorem tyP_str : tyP (.str a) st = some "str" := rfl
@[simp] theorem tyP_tup : tyP (.tup xs) st = some "tuple" := rfl
@[simp] theorem tyP_lst : tyP (.lst xs) st = some "list" := rfl
@[simp] theorem rangeOk_iff : rangeOk i ↔ -4611686018427387904 ≤ i ∧ i < 4611686018427387904 := Iff.rfl
@[simp ↓] theorem Z_range1 (h : rangeOk i) : Z (range1 [.int i] st) QL E = QL ((List.range i.toNat).map fun (k : Nat) => .int ((0 : Int) + (k : Int))) st := by unfold range1; dsimp only; rw [if_pos h]; rfl
@[simp ↓] theorem Z_rangeN {l : Nat} (h : l ≤ 16777216) : Z (range1 [.int (l : Int)] st) QL E = QL ((List.range l).map fun (k : Nat) => .int (k : Int)) st := by
  rw [Z_range1 ⟨by omega, by omega⟩, Int.toNat_natCast]
  simp only [Int.zero_add]
@[simp ↓] theorem Z_range2 (h : rangeOk i) (h' : rangeOk j) : Z (range2 [.int i, .int j] st) QL E = QL ((List.range (j - i).toNat).map fun (k : Nat) => .int (i + (k : Int))) st := by unfold range2; dsimp only; rw [if_pos ⟨h, h'⟩]; rfl
@[simp ↓] theorem Z_itT : Z (itemsM (.tup xs) st) QL E = QL xs st := propext Iff.rfl
@[simp ↓] theorem Z_itL : Z (itemsM (.lst xs) st) QL E = QL xs st := propext Iff.rfl
@[simp ↓] theorem Z_itF : Z (itemsM (.frz xs) st) QL E = QL xs st := propext Iff.rfl
@[simp ↓] theorem Z_itS : Z (itemsM (.str a) st) QL E = QL (a.map fun c => .str [c]) st := propext Iff.rfl
@[simp ↓] theorem Z_getTab {tab : List (List Nat × PV)} : Z (getTab tab (.str a) st) QP E = QP ((lookT tab a).getD .non) st := propext Iff.rfl
@[simp ↓] theorem Z_min : Z (minM [.int i, .int j] st) QP E = QP (.int (if j < i then j else i)) st := propext Iff.rfl
@[simp ↓] theorem Z_max : Z (maxM [.int i, .int j] st) QP E = QP (.int (if j > i then j else i)) st := propext Iff.rfl
@[simp ↓] theorem Z_intI : Z (intM [.int i] st) QP E = QP (.int i) st := propext Iff.rfl
@[simp ↓] theorem Z_intB {k : Bool} : Z (intM [.bl k] st) QP E = QP (.int (if k then 1 else 0)) st := propext Iff.rfl
@[simp ↓] theorem Z_enumL : Z (enumM [.lst xs] st) QL E = QL (xs.mapIdx fun i p => .tup [.int (i : Nat), p]) st := propext Iff.rfl
@[simp ↓] theorem Z_inS {n : Bool} {c : Nat} : Z (inM n (.str [c]) (.str a) st) QP E = QP (.bl (ng n (decide (c ∈ a)))) st := propext Iff.rfl
@[simp] theorem ng_t {b : Bool} : ng true b = !b := rfl
@[simp] theorem ng_f {b : Bool} : ng false b = b := rfl
@[simp ↓] theorem Z_tyS : Z (tyC "str" (.str a) st) QU E = QU () st := propext Iff.rfl
theorem Z_join {zs : List (List Nat)} (h : seqOf x st = some (zs.map .str)) (hz : (zs.map (·.length)).sum + zs.length * a.length ≤ 16777216) : Z (joinM (.str a) [x] st) QP E = QP (.str (TL.joinL a zs)) st := by
  have e : ∀ l : List (List Nat), strsOf (l.map .str) = some l := by
    intro l; induction l with
    | nil => rfl
    | cons z l ih => rw [List.map_cons, strsOf, ih]; rfl
  unfold joinM; dsimp only; rw [h]; dsimp only; rw [e]; dsimp only; rw [if_pos hz]; rfl
@[simp ↓] theorem Z_tyL (h : st[m]? = some (.lst xs)) : Z (tyC "list" (.loc m) st) QU E = QU () st := by
  unfold tyC listOf; dsimp only; rw [h]; rfl
@[simp ↓] theorem Z_append (h : st[m]? = some (.lst xs)) (hl : xs.length < 16777216) : Z (appendM (.loc m) [x] st) QP E = QP .non (st.set m (.lst (xs ++ [x]))) := by
  unfold appendM lstCell; dsimp only; rw [h]; dsimp only; rw [if_pos hl]; rfl
theorem cut_to {α : Type} {l : List α} {p : Int} (h0 : 0 ≤ p) (h1 : p ≤ l.length) : cutL l none (some p) = l.take p.toNat := by
  unfold cutL HT.sIx
  simp
  have : ¬ p < 0 := by omega
  simp [this]
theorem cut_from {α : Type} {l : List α} {p : Int} (h0 : 0 ≤ p) (h1 : p ≤ l.length) : cutL l (some p) none = l.drop p.toNat := by
  have hp : ¬ p < 0 := by omega
  have hm : min p.toNat l.length = p.toNat := by omega
  show (l.drop (if p < 0 then (p + (l.length : Int)).toNat else min p.toNat l.length)).take (l.length - (if p < 0 then (p + (l.length : Int)).toNat else min p.toNat l.length)) = _
  rw [if_neg hp, hm]
  exact List.take_of_length_le (by rw [List.length_drop]; omega)
end
theorem getN {st : Sto} {m : Nat} {c : Cell} (h : st[m]? = some c) : m < st.length := by
  rcases Nat.lt_or_ge m st.length with h' | h'
  · exact h'
  · rw [List.getElem?_eq_none h'] at h; cases h
structure Box (st : Sto) (b c : Nat) (k : Int) : Prop where
  dct : ∃ d, st[b]? = some (.dct [(.str [99, 101, 108, 108, 115], .loc c), (.str [99, 111, 117, 110, 116], .int k), (.str [100, 105, 103, 105, 116, 115], .bl d)])
  cel : ∃ ns : List Int, ns ≠ [] ∧ st[c]? = some (.lst (ns.map .int))
theorem Box.app {st : Sto} {b c : Nat} {k : Int} (B : Box st b c k) (ys : Sto) : Box (st ++ ys) b c k := by
  obtain ⟨⟨d, hd⟩, ns, hn, hc⟩ := B
  exact ⟨⟨d, by rw [List.getElem?_append_left (getN hd), hd]⟩, ns, hn, by rw [List.getElem?_append_left (getN hc), hc]⟩
theorem Box.setN {st : Sto} {b c m : Nat} {k : Int} {x : Cell} (B : Box st b c k) (h : m ≠ b) (h' : m ≠ c) : Box (st.set m x) b c k := by
  obtain ⟨⟨d, hd⟩, ns, hn, hc⟩ := B
  exact ⟨⟨d, by rw [List.getElem?_set_ne h, hd]⟩, ns, hn, by rw [List.getElem?_set_ne h', hc]⟩
theorem Box.bl {st : Sto} {b c : Nat} {k : Int} (B : Box st b c k) : b < st.length := let ⟨_, h⟩ := B.dct; getN h
theorem Box.cl {st : Sto} {b c : Nat} {k : Int} (B : Box st b c k) : c < st.length := let ⟨_, _, h⟩ := B.cel; getN h
theorem atI_of {α : Type} {xs : List α} {i : Int} (h0 : 0 ≤ i) (h1 : i < xs.length) : L2.atI xs i = some (xs[i.toNat]'(by omega)) := by
  unfold L2.atI L2.ixN
  rw [if_pos h0, if_pos h1]
  simp [List.getElem?_eq_getElem (show i.toNat < xs.length by omega)]
theorem ixN_of {n : Nat} {i : Int} (h0 : 0 ≤ i) (h1 : i < n) : L2.ixN n i = some i.toNat := by
  unfold L2.ixN
  rw [if_pos h0, if_pos h1]
end MP

set_option maxRecDepth 100000
set_option maxHeartbeats 1000000
namespace MP
open PySem L2
mutual
noncomputable def plP : PV → Bool
  | .non => true
  | .int _ => true
  | .str x => x.all fun c => decide (c < 1114112)
  | .tup xs => plPs xs
  | .lst xs => plPs xs
  | _ => false
noncomputable def plPs : List PV → Bool
  | [] => true
  | x :: xs => plP x && plPs xs
end
mutual
theorem eqb_pl : ∀ (x y : PV), plP x = true → plP y = true → eqb x y = decide (x = y)
  | .non, y, h, h' => by cases y <;> simp [eqb]
  | .int i, y, h, h' => by
    cases y <;> simp [plP] at h' <;> simp [eqb]
    rw [ibeq]
  | .str a, y, h, h' => by
    cases y <;> simp [plP] at h' <;> simp [eqb]
    rw [lbeq]
  | .tup xs, y, h, h' => by
    cases y <;> simp [plP] at h' <;> simp [eqb]
    exact eqbs_pl xs _ (by simpa [plP] using h) h'
  | .lst xs, y, h, h' => by
    cases y <;> simp [plP] at h' <;> simp [eqb]
    exact eqbs_pl xs _ (by simpa [plP] using h) h'
  | .bl _, _, h, _ => by simp [plP] at h
  | .ty _, _, h, _ => by simp [plP] at h
  | .gl _, _, h, _ => by simp [plP] at h
  | .frz _, _, h, _ => by simp [plP] at h
  | .loc _, _, h, _ => by simp [plP] at h
  | .xt _, _, h, _ => by simp [plP] at h
theorem eqbs_pl : ∀ (x y : List PV), plPs x = true → plPs y = true → eqbs x y = decide (x = y)
  | [], y, h, h' => by cases y <;> simp [eqbs]
  | a :: x, [], h, h' => by simp [eqbs]
  | a :: x, b :: y, h, h' => by
    simp [plPs] at h h'
    rw [eqbs, eqb_pl a b h.1 h'.1, eqbs_pl x y h.2 h'.2]
    simp
end
mutual
theorem lay_pl : ∀ (x : PV), plP x = true → layP x = true
  | .non, h => by simp [layP]
  | .int i, h => by simp [layP]
  | .str a, h => by simpa [layP, plP] using h
  | .tup xs, h => by simp [layP]; exact lays_pl xs (by simpa [plP] using h)
  | .lst xs, h => by simp [layP]; exact lays_pl xs (by simpa [plP] using h)
  | .bl _, h => by simp [plP] at h
  | .ty _, h => by simp [plP] at h
  | .gl _, h => by simp [plP] at h
  | .frz _, h => by simp [plP] at h
  | .loc _, h => by simp [plP] at h
  | .xt _, h => by simp [plP] at h
theorem lays_pl : ∀ (x : List PV), plPs x = true → layPs x = true
  | [], h => by simp [layPs]
  | a :: x, h => by
    simp [plPs] at h
    simp [layPs, lay_pl a h.1, lays_pl x h.2]
end
noncomputable def fpl : PV → Bool
  | .non => true
  | .int _ => true
  | .str _ => true
  | _ => false
theorem eqb_fpl {x y : PV} (h : fpl x = true) (h' : fpl y = true) : eqb x y = decide (x = y) := by
  cases x <;> simp [fpl] at h <;> cases y <;> simp [fpl] at h' <;> simp [eqb, ibeq, lbeq]
theorem flat_fpl {x : PV} (h : fpl x = true) : flatP x = true := by cases x <;> simp [fpl] at h <;> simp [flatP]
theorem any_fpl {x : PV} (h : fpl x = true) : ∀ {xs : List PV}, xs.all fpl = true → xs.all flatP = true ∧ (xs.any fun p => eqb p x) = decide (x ∈ xs)
  | [], _ => by simp
  | y :: xs, hs => by
    simp at hs
    obtain ⟨h1, h2⟩ := any_fpl h (xs := xs) (by simpa using hs.2)
    have e := eqb_fpl hs.1 h
    refine ⟨by simp [flat_fpl hs.1]; simpa using h1, ?_⟩
    rw [List.any_cons, h2, e]
    by_cases hy : y = x
    · subst hy; simp
    · have : ¬ x = y := fun e => hy e.symm
      simp [hy, this]
theorem Z_inP {n : Bool} {x y : PV} {xs : List PV} {st : Sto} {Q : PV → Sto → Prop} {E : Exn → Sto → Prop} (hs : seqOf y st = some xs) (hx : fpl x = true) (hf : xs.all fpl = true) : Z (inM n x y st) Q E = Q (.bl (ng n (decide (x ∈ xs)))) st := by
  obtain ⟨h1, h2⟩ := any_fpl hx hf
  have e : inM n x y st = (if (flatP x && xs.all flatP) = true then .ok (.bl (ng n (xs.any fun p => eqb p x))) st else .bad) := by
    unfold inM
    cases y with
    | str z => simp [seqOf] at hs
    | tup z => dsimp only; rw [hs]
    | lst z => dsimp only; rw [hs]
    | frz z => dsimp only; rw [hs]
    | loc z => dsimp only; rw [hs]
    | non => simp [seqOf] at hs
    | bl _ => simp [seqOf] at hs
    | int _ => simp [seqOf] at hs
    | ty _ => simp [seqOf] at hs
    | gl _ => simp [seqOf] at hs
    | xt _ => simp [seqOf] at hs
  rw [e, if_pos (by rw [h1, flat_fpl hx]; rfl), h2]
  rfl
noncomputable def Sg (z : List Nat) (m : Nat) : Prop := z.length ≤ m ∧ ∀ c ∈ z, c < 1114112
theorem Sg.app {a b : List Nat} {m k : Nat} (h : Sg a m) (h' : Sg b k) : Sg (a ++ b) (m + k) := ⟨by have := h.1; have := h'.1; simp; omega, fun c hc => by
  rcases List.mem_append.mp hc with hc | hc
  · exact h.2 c hc
  · exact h'.2 c hc⟩
theorem Sg.mono {a : List Nat} {m k : Nat} (h : Sg a m) (hk : m ≤ k) : Sg a k := ⟨Nat.le_trans h.1 hk, h.2⟩
theorem Sg.cut {a : List Nat} {m : Nat} {x y : Option Int} (h : Sg a m) : Sg (cutL a x y) m := by
  unfold cutL
  exact ⟨Nat.le_trans (by simp; omega) h.1, fun c hc => h.2 c (List.mem_of_mem_drop (List.mem_of_mem_take hc))⟩
@[simp ↓] theorem Z_slF {xs : List PV} {lo hi : Option Int} {st : Sto} {Q : PV → Sto → Prop} {E : Exn → Sto → Prop} : Z (slM (.frz xs) lo hi st) Q E = Q (.lst (cutL xs lo hi)) st := propext Iff.rfl
section
variable {st : Sto} {Q : PV → Sto → Prop} {E : Exn → Sto → Prop} {QL : List PV → Sto → Prop} {i : Int} {a b : List Nat} {xs ys : List PV} {x : PV} {n : Bool} {tab : List (List Nat × PV)}
theorem Z_strI (h : i.natAbs.log2 < 1920) : Z (strM [.int i] st) Q E = Q (.str (intS i)) st := by unfold strM; dsimp only; rw [if_pos h]; rfl
@[simp ↓] theorem Z_strS : Z (strM [.str a] st) Q E = Q (.str a) st := propext Iff.rfl
@[simp ↓] theorem Z_inTab : Z (inTab n tab (.str a) st) Q E = Q (.bl (ng n (lookT tab a).isSome)) st := propext Iff.rfl
theorem Z_ixTab (h : lookT tab a = some x) : Z (ixTab tab (.str a) st) Q E = Q x st := by unfold ixTab; dsimp only; rw [h]; rfl
@[simp ↓] theorem Z_zipT : Z (zipM [.tup xs, .tup ys] st) QL E = QL (zipP xs ys) st := propext Iff.rfl
@[simp ↓] theorem Z_zipL : Z (zipM [.lst xs, .lst ys] st) QL E = QL (zipP xs ys) st := propext Iff.rfl
theorem intsOf_map (l : List Int) : intsOf (l.map .int) = some l := by
  induction l with
  | nil => rfl
  | cons i l ih => rw [List.map_cons, intsOf, ih]; rfl
theorem Z_sumL {l : List Int} : Z (sumM [.lst (l.map .int)] st) Q E = Q (.int l.sum) st := by
  unfold sumM; simp only [lstOf, listOf, intsOf_map]; rfl
end
noncomputable def kForC (f : List PV → List PV) (g : GM) (b : MS1) (ρ : Rho) (QF : KF) (E : KX) : Nat × List PV → Sto → Prop := fun nx s => Z (forG (gd nx.1 nx.2) g b (f nx.2) ρ s) QF E
@[simp ↓] theorem kForC_at {f : List PV → List PV} {g : GM} {b : MS1} {ρ : Rho} {QF : KF} {E : KX} {n : Nat} {xs : List PV} {s : Sto} : kForC f g b ρ QF E (n, xs) s = Z (forG (gd n xs) g b (f xs) ρ s) QF E := propext Iff.rfl
@[simp ↓] theorem Z_sForC {f : List PV → List PV} {mi : Rho → M (Nat × List PV)} {g : GM} {b : MS1} {ρ : Rho} {st : Sto} {QF : KF} {E : KX} : Z (sForC f mi g b ρ st) QF E = Z (mi ρ st) (kForC f g b ρ QF E) (kX ρ QF) := by
  unfold sForC; rw [Z_onErr]; rfl
noncomputable def kCell (Q : Nat × List PV → Sto → Prop) : PV → Sto → Prop := fun v s => Z (atCell v s) Q E0
theorem kCell_at {Q : Nat × List PV → Sto → Prop} {n : Nat} {xs : List PV} {s : Sto} (h : s[n]? = some (.lst xs)) : kCell Q (.loc n) s = Q (n, xs) s := by
  unfold kCell atCell; dsimp only; rw [h]; rfl
@[simp ↓] theorem Z_iCell {m : ME1} {ρ : Rho} {st : Sto} {Q : Nat × List PV → Sto → Prop} {E : KX} : Z (iCell m ρ st) Q E = Z (m ρ st) (kCell Q) E := by
  unfold iCell; rw [Z_bind]
  congr 1; funext v s
  unfold kCell atCell
  cases v with
  | loc n => dsimp only; cases s[n]? with
    | none => rfl
    | some c => cases c <;> rfl
  | _ => rfl
theorem gd_of {n : Nat} {xs : List PV} {st : Sto} (h : st[n]? = some (.lst xs)) : gd n xs st = true := by unfold gd; rw [h]; simp
theorem Z_forG_nil {G : Sto → Bool} {g : GM} {b : MS1} {ρ : Rho} {st : Sto} {QF : KF} {E : KX} (h : G st = true) : Z (forG G g b [] ρ st) QF E = QF (.next ρ) st := by
  unfold forG; rw [if_pos h]; rfl
theorem Z_forG {G : Sto → Bool} {g : GM} {b : MS1} {p : PV} {ps : List PV} {ρ : Rho} {st : Sto} {QF : KF} {E : KX} (h : G st = true) : Z (forG G g b (p :: ps) ρ st) QF E = Z (g p ρ st) (fun ρ1 s => Z (b ρ1 s) (turnQ (forG G g b ps) QF E) E) (kX ρ QF) := by
  rw [forG]; dsimp only; rw [if_pos h, Z_onErr]
  congr 1; funext ρ1 s
  unfold turnL
  cases b ρ1 s with
  | ok f s' => cases f <;> rfl
  | err x s' => rfl
  | bad => rfl
noncomputable def kLcC (f : List PV → List PV) (k : List PV → M PV) (g : GM) (t : MT1) (e : ME1) (vs : List Nat) (ρ : Rho) (QP : KP) (E : KX) : Nat × List PV → Sto → Prop := fun nx s => Z (lcG (gd nx.1 nx.2) g t e (wipeP ρ vs) (f nx.2) [] s) (kLE k QP E) E
@[simp ↓] theorem kLcC_at {f : List PV → List PV} {k : List PV → M PV} {g : GM} {t : MT1} {e : ME1} {vs : List Nat} {ρ : Rho} {QP : KP} {E : KX} {n : Nat} {xs : List PV} {s : Sto} : kLcC f k g t e vs ρ QP E (n, xs) s = Z (lcG (gd n xs) g t e (wipeP ρ vs) (f xs) [] s) (kLE k QP E) E := propext Iff.rfl
@[simp ↓] theorem Z_eLcC {f : List PV → List PV} {k : List PV → M PV} {mi : Rho → M (Nat × List PV)} {g : GM} {t : MT1} {e : ME1} {vs : List Nat} {ρ : Rho} {st : Sto} {QP : KP} {E : KX} : Z (eLcC f k mi g t e vs ρ st) QP E = Z (mi ρ st) (kLcC f k g t e vs ρ QP E) E := by
  unfold eLcC; rw [Z_bind]; simp only [Z_bind]; rfl
theorem lcG_nil {G : Sto → Bool} {g : GM} {t : MT1} {e : ME1} {ρ0 : Rho} {acc : List PV} {st : Sto} {QL : KLs} {E : KX} (h : G st = true) : Z (lcG G g t e ρ0 [] acc st) QL E = QL acc st := by unfold lcG; rw [if_pos h]; rfl
theorem lcG_cons {G : Sto → Bool} {g : GM} {t : MT1} {e : ME1} {ρ0 : Rho} {p : PV} {ps acc : List PV} {st : Sto} {QL : KLs} {E : KX} (h : G st = true) : Z (lcG G g t e ρ0 (p :: ps) acc st) QL E = Z (g p ρ0 st) (fun ρ1 s => Z (t ρ1 s) (fun c s => if c = true then Z (e ρ1 s) (fun y s => if acc.length < 16777216 then Z (lcG G g t e ρ0 ps (acc ++ [y]) s) QL E else False) E0 else Z (lcG G g t e ρ0 ps acc s) QL E) E0) E0 := by
  rw [lcG]; dsimp only; rw [if_pos h, Z_bind, Z_calm]
  congr 1; funext ρ1 s
  rw [Z_bind, Z_calm]
  congr 1; funext c s
  cases c with
  | false => rfl
  | true =>
    rw [if_pos rfl, if_pos rfl, Z_bind, Z_calm]
    congr 1; funext y s
    rw [Z_ite]
    rfl
section
open PySem.NumText
end
section
variable {κ : Type} [DecidableEq κ]
end
section
variable {st : Sto} {ρ : Rho} {QP : KP} {E : KX} {QF : KF} {n : Nat} {c m f : String} {cs : List String} {fs : List (String × PV)} {v y : PV}
@[simp] theorem lookA_nil : lookA [] f = none := rfl
@[simp] theorem lookA_cons {g : String} {r : List (String × PV)} : lookA ((g, v) :: r) f = if g = f then some v else lookA r f := rfl
@[simp] theorem putA_nil : putA f v [] = [(f, v)] := rfl
@[simp] theorem putA_cons {g : String} {w : PV} {r : List (String × PV)} : putA f v ((g, w) :: r) = if g = f then (g, v) :: r else (g, w) :: putA f v r := rfl
@[simp ↓] theorem Z_attr (h : st[n]? = some (.ins c fs)) (hc : c ∈ cs) (hl : lookA fs f = some v) : Z (attrM cs f (.loc n) st) QP E = QP v st := by
  unfold attrM; dsimp only; rw [h]; dsimp only; rw [if_pos hc, hl]; rfl
noncomputable def kSA1 (cs : List String) (f : String) (mo : ME1) (ρ : Rho) (QF : KF) (E : KX) : PV → Sto → Prop := fun y s => Z (mo ρ s) (fun x s => Z (setA cs f y x s) (fun _ s => QF (.next ρ) s) (kX ρ QF)) (kX ρ QF)
@[simp ↓] theorem Z_sAttr {mo mv : ME1} : Z (sAttr cs f mo mv ρ st) QF E = Z (mv ρ st) (kSA1 cs f mo ρ QF E) (kX ρ QF) := by
  unfold sAttr kSA1; rw [Z_onErr]; congr 1; funext y s; rw [Z_onErr]; congr 1; funext x s; rw [Z_onErr]; rfl
noncomputable def kSA2 (cs : List String) (f : String) (y : PV) (ρ : Rho) (QF : KF) : PV → Sto → Prop := fun x s => Z (setA cs f y x s) (fun _ s => QF (.next ρ) s) (kX ρ QF)
@[simp ↓] theorem kSA1_at {mo : ME1} {s : Sto} : kSA1 cs f mo ρ QF E y s = Z (mo ρ s) (kSA2 cs f y ρ QF) (kX ρ QF) := propext Iff.rfl
@[simp ↓] theorem kSA2_at {s : Sto} (h : s[n]? = some (.ins c fs)) (hc : c ∈ cs) (hl : fs.length < 1000) : kSA2 cs f y ρ QF (.loc n) s = QF (.next ρ) (s.set n (.ins c (putA f y fs))) := by
  unfold kSA2 setA; dsimp only; rw [h]; dsimp only; rw [if_pos ⟨hc, hl⟩]; rfl
noncomputable def kMt3 (mf : List PV → M PV) (o : PV) (QP : KP) (E : KX) : List PV → Sto → Prop := fun xs s => Z (mf (o :: xs) s) QP E
@[simp ↓] theorem kMt3_at {mf : List PV → M PV} {o : PV} {xs : List PV} {s : Sto} : kMt3 mf o QP E xs s = Z (mf (o :: xs) s) QP E := propext Iff.rfl
noncomputable def kMt1 (c m : String) (mf : List PV → M PV) (ma : ML1) (ρ : Rho) (QP : KP) (E : KX) : PV → Sto → Prop := fun o s => Z (insC c m o s) (fun _ s => Z (ma ρ s) (kMt3 mf o QP E) E) E
@[simp ↓] theorem Z_eMth {mf : List PV → M PV} {mo : ME1} {ma : ML1} : Z (eMth c m mf mo ma ρ st) QP E = Z (mo ρ st) (kMt1 c m mf ma ρ QP E) E := by
  unfold eMth kMt1; rw [Z_bind]; congr 1; funext o s; rw [Z_bind]; congr 1; funext u s; rw [Z_bind]; rfl
@[simp ↓] theorem kMt1_at {mf : List PV → M PV} {ma : ML1} {s : Sto} (h : s[n]? = some (.ins c fs)) (hl : lookA fs m = none) : kMt1 c m mf ma ρ QP E (.loc n) s = Z (ma ρ s) (kMt3 mf (.loc n) QP E) E := by
  unfold kMt1 insC; dsimp only; rw [h]; dsimp only; rw [if_pos ⟨rfl, hl⟩]; rfl
noncomputable def kNew (QP : KP) (n : Nat) : PV → Sto → Prop := fun v s => v = .non ∧ QP (.loc n) s
@[simp ↓] theorem kNew_at {s : Sto} : kNew QP n .non s = QP (.loc n) s := by unfold kNew; simp
@[simp ↓] theorem Z_mkIns {mf : List PV → M PV} {xs : List PV} : Z (mkIns c mf xs st) QP E = Z (mf (.loc st.length :: xs) (st ++ [.ins c []])) (kNew QP st.length) E0 := by
  unfold mkIns kNew
  cases mf (.loc st.length :: xs) (st ++ [.ins c []]) with
  | ok v s => cases v <;> simp [Z]
  | err x s => rfl
  | bad => rfl
end
section
variable {st : Sto} {ρ : Rho} {QP : KP} {QL : List PV → Sto → Prop} {E : KX} {xs ys : List PV} {a : List Nat} {n j : Nat} {x y z : PV} {kvs : List (PV × PV)}
@[simp ↓] theorem Z_zipLT : Z (zipM [.lst xs, .tup ys] st) QL E = QL (zipP xs ys) st := propext Iff.rfl
@[simp ↓] theorem Z_zipTL : Z (zipM [.tup xs, .lst ys] st) QL E = QL (zipP xs ys) st := propext Iff.rfl
@[simp ↓] theorem Z_zipTS : Z (zipM [.tup xs, .str a] st) QL E = QL (zipP xs (a.map fun c => .str [c])) st := propext Iff.rfl
@[simp ↓] theorem Z_zipLS : Z (zipM [.lst xs, .str a] st) QL E = QL (zipP xs (a.map fun c => .str [c])) st := propext Iff.rfl
noncomputable def kGd (x z : PV) (QP : KP) (E : KX) : PV → Sto → Prop := fun y s => Z (dgetM x y z s) QP E
noncomputable def kGe1 (me : ME1) (ρ : Rho) (QP : KP) (E : KX) : PV → Sto → Prop := fun x s => Z (isDct x s) (fun _ s => Z (me ρ s) (kGd x .non QP E) E) E
@[simp ↓] theorem Z_eGet1 {mo me : ME1} : Z (eGet1 mo me ρ st) QP E = Z (mo ρ st) (kGe1 me ρ QP E) E := by
  unfold eGet1 kGe1; rw [Z_bind]; congr 1; funext o s; rw [Z_bind]; congr 1; funext u s; rw [Z_bind]; rfl
@[simp ↓] theorem kGe1_at {me : ME1} {s : Sto} (h : s[n]? = some (.dct kvs)) : kGe1 me ρ QP E (.loc n) s = Z (me ρ s) (kGd (.loc n) .non QP E) E := by
  unfold kGe1 isDct dctOf; dsimp only; rw [h]; rfl
@[simp ↓] theorem kGd_at {s : Sto} (h : s[n]? = some (.dct kvs)) (hk : (keyOf y).isSome = true) : kGd (.loc n) z QP E y s = QP ((lookP kvs y).getD z) s := by
  unfold kGd dgetM dctOf; dsimp only; rw [h]; dsimp only; rw [if_pos hk]; rfl
noncomputable def kGe3 (x y : PV) (QP : KP) (E : KX) : PV → Sto → Prop := fun z s => Z (dgetM x y z s) QP E
noncomputable def kGe2 (md : ME1) (x : PV) (ρ : Rho) (QP : KP) (E : KX) : PV → Sto → Prop := fun y s => Z (md ρ s) (kGe3 x y QP E) E
noncomputable def kGeA (me md : ME1) (ρ : Rho) (QP : KP) (E : KX) : PV → Sto → Prop := fun x s => Z (isDct x s) (fun _ s => Z (me ρ s) (kGe2 md x ρ QP E) E) E
@[simp ↓] theorem Z_eGet2 {mo me md : ME1} : Z (eGet2 mo me md ρ st) QP E = Z (mo ρ st) (kGeA me md ρ QP E) E := by
  unfold eGet2 kGeA; rw [Z_bind]; congr 1; funext o s; rw [Z_bind]; congr 1; funext u s; rw [Z_bind]; congr 1; funext w s; rw [Z_bind]; rfl
@[simp ↓] theorem kGeA_at {me md : ME1} {s : Sto} (h : s[n]? = some (.dct kvs)) : kGeA me md ρ QP E (.loc n) s = Z (me ρ s) (kGe2 md (.loc n) ρ QP E) E := by
  unfold kGeA isDct dctOf; dsimp only; rw [h]; rfl
@[simp ↓] theorem kGe2_at {md : ME1} {s : Sto} : kGe2 md x ρ QP E y s = Z (md ρ s) (kGe3 x y QP E) E := propext Iff.rfl
@[simp ↓] theorem kGe3_at {s : Sto} (h : s[n]? = some (.dct kvs)) (hk : (keyOf y).isSome = true) : kGe3 (.loc n) y QP E z s = QP ((lookP kvs y).getD z) s := by
  unfold kGe3 dgetM dctOf; dsimp only; rw [h]; dsimp only; rw [if_pos hk]; rfl
end
@[simp ↓] theorem Z_mulL {xs : List PV} {i : Int} {st : Sto} {Q : PV → Sto → Prop} {E : Exn → Sto → Prop} : Z (mulL (.lst xs) (.int i) st) Q E = if -1000000 ≤ i ∧ i ≤ 1000 ∧ xs.length ≤ 1000 then Q (.lst (List.replicate i.toNat xs).flatten) st else False := by unfold mulL; dsimp only; rw [Z_ite]; rfl
theorem Z_addN {x y : PV} {a b : List PV} {st : Sto} {Q : PV → Sto → Prop} {E : Exn → Sto → Prop} (h1 : listOf x st = some a) (h2 : listOf y st = some b) (hz : a.length + b.length ≤ 1000000) : Z (addN x y st) Q E = Q (.loc st.length) (st ++ [.lst (a ++ b)]) := by
  unfold addN; rw [h1, h2]; dsimp only; rw [if_pos (Nat.le_trans hz (by decide))]; rfl
theorem Z_dictD {m : Nat} {kvs : List (PV × PV)} {st : Sto} {Q : PV → Sto → Prop} {E : Exn → Sto → Prop} (h : st[m]? = some (.dct kvs)) : Z (dictM [.loc m] st) Q E = Q (.loc st.length) (st ++ [.dct kvs]) := by
  unfold dictM dctOf; dsimp only; rw [h]; rfl
theorem Z_dictP {x : PV} {ys : List PV} {ps : List (PV × PV)} {st : Sto} {Q : PV → Sto → Prop} {E : Exn → Sto → Prop} (h0 : dctOf x st = none) (h1 : listOf x st = some ys) (h2 : pairsOf ys = some ps) (h3 : keysOk ps = true) : Z (dictM [x] st) Q E = Q (.loc st.length) (st ++ [.dct (mergeP [] ps)]) := by
  unfold dictM; dsimp only; rw [h0]; dsimp only; rw [h1]; dsimp only; rw [h2]; dsimp only; rw [if_pos h3]; rfl
theorem Z_sortedD {m : Nat} {kvs : List (PV × PV)} {ss : List (List Nat)} {st : Sto} {Q : PV → Sto → Prop} {E : Exn → Sto → Prop} (h : st[m]? = some (.dct kvs)) (hs : strsOf (kvs.map Prod.fst) = some ss) (hz : ss.length < 64) : Z (sortedM [.loc m] st) Q E = Q (.lst ((sortS ss).map .str)) st := by
  unfold sortedM dctOf; dsimp only; rw [h]; dsimp only; rw [hs]; dsimp only; rw [if_pos hz]; rfl
section
variable {st : Sto} {ρ : Rho} {QP : KP} {QU : KU} {E : KX} {m : Nat} {x y v : PV} {kvs : List (PV × PV)} {b : Bool}
noncomputable def kGg (x : PV) (QP : KP) (E : KX) : PV → Sto → Prop := fun y s => Z (ggetM x y s) QP E
noncomputable def kGg1 (me : ME1) (ρ : Rho) (QP : KP) (E : KX) : PV → Sto → Prop := fun x s => Z (isGd x s) (fun _ s => Z (me ρ s) (kGg x QP E) E) E
@[simp ↓] theorem Z_eGetG {mo me : ME1} : Z (eGetG mo me ρ st) QP E = Z (mo ρ st) (kGg1 me ρ QP E) E := by
  unfold eGetG kGg1; rw [Z_bind]; congr 1; funext o s; rw [Z_bind]; congr 1; funext u s; rw [Z_bind]; rfl
@[simp ↓] theorem kGg1_at {me : ME1} {s : Sto} (h : s[m]? = some (.dcn kvs)) : kGg1 me ρ QP E (.loc m) s = Z (me ρ s) (kGg (.loc m) QP E) E := by
  unfold kGg1 isGd; dsimp only; rw [h]; rfl
@[simp ↓] theorem Z_eDcn0 : Z (eDcn0 ρ st) QP E = QP (.loc st.length) (st ++ [.dcn []]) := propext Iff.rfl
@[simp ↓] theorem Z_eDcl0 : Z (eDcl0 ρ st) QP E = QP (.loc st.length) (st ++ [.dcl []]) := propext Iff.rfl
end
@[simp ↓] theorem Z_enumGt {xs : List PV} {st : Sto} {QL : KLs} {E : KX} : Z (enumG [.tup xs] st) QL E = QL (enumP xs) st := propext Iff.rfl
@[simp ↓] theorem Z_enumGl {xs : List PV} {st : Sto} {QL : KLs} {E : KX} : Z (enumG [.lst xs] st) QL E = QL (enumP xs) st := propext Iff.rfl
@[simp ↓] theorem Z_enumGs {a : List Nat} {st : Sto} {QL : KLs} {E : KX} : Z (enumG [.str a] st) QL E = QL (enumP (a.map fun c => .str [c])) st := propext Iff.rfl
@[simp ↓] theorem Z_isB {a b : Bool} {st : Sto} {QP : KP} {E : KX} : Z (isN (.bl a) (.bl b) st) QP E = QP (.bl (decide (a = b))) st := propext Iff.rfl
@[simp ↓] theorem Z_notB {a b : Bool} {st : Sto} {QP : KP} {E : KX} : Z (notN (.bl a) (.bl b) st) QP E = QP (.bl (!decide (a = b))) st := propext Iff.rfl
@[simp ↓] theorem Z_mulS {a : List Nat} {i : Int} {st : Sto} {Q : PV → Sto → Prop} {E : Exn → Sto → Prop} : Z (mulS (.str a) (.int i) st) Q E = if -1000000 ≤ i ∧ i ≤ 1000 ∧ a.length ≤ 1000 then Q (.str (List.replicate i.toNat a).flatten) st else False := by unfold mulS; dsimp only; rw [Z_ite]; rfl
theorem Z_eqG {n : Bool} {a b : Nat} {kx ky : List (PV × PV)} {st : Sto} {Q : PV → Sto → Prop} {E : Exn → Sto → Prop} (ha : st[a]? = some (.dct kx)) (hb : st[b]? = some (.dct ky)) (hx : kx.all (fun p => flP p.2) = true) (hy : ky.all (fun p => flP p.2) = true) : Z (eqG n (.loc a) (.loc b) st) Q E = Q (.bl (ng n (dEqP kx ky))) st := by
  unfold eqG dctOf; dsimp only; rw [ha, hb]; dsimp only; rw [hx, hy]; rfl
section
variable {g : GM} {b : MS1} {ρ : Rho} {st : Sto} {QF : KF} {E : KX} {QP : KP} {xs ps : List PV} {n : Nat} {a : List Nat}
theorem forG_yes : ∀ (ps : List PV) (ρ : Rho), forG yesG g b ps ρ = forL g b ps ρ
  | [], ρ => by unfold forG forL; rfl
  | p :: ps, ρ => by
    unfold forG forL
    have e : forG yesG g b ps = forL g b ps := funext fun ρ => forG_yes ps ρ
    rw [e]; rfl
theorem lcG_yes {t : MT1} {e : ME1} {ρ0 : Rho} : ∀ (ps acc : List PV), lcG yesG g t e ρ0 ps acc = lcL g t e ρ0 ps acc
  | [], acc => by unfold lcG lcL; rfl
  | p :: ps, acc => by
    unfold lcG lcL
    have e2 : ∀ acc, lcG yesG g t e ρ0 ps acc = lcL g t e ρ0 ps acc := fun acc => lcG_yes ps acc
    simp only [e2]; rfl
noncomputable def kAny (Q : GI → Sto → Prop) (E : KX) : PV → Sto → Prop := fun v s => Z (anyM v s) Q E
noncomputable def kEnA (Q : GI → Sto → Prop) (E : KX) : PV → Sto → Prop := fun v s => Z (enumA v s) Q E
@[simp ↓] theorem Z_iAny {m : ME1} {Q : GI → Sto → Prop} : Z (iAny m ρ st) Q E = Z (m ρ st) (kAny Q E) E := by unfold iAny kAny; rw [Z_bind]
@[simp ↓] theorem Z_iEnumA {m : ME1} {Q : GI → Sto → Prop} : Z (iEnumA m ρ st) Q E = Z (m ρ st) (kEnA Q E) E := by unfold iEnumA kEnA; rw [Z_bind]
@[simp ↓] theorem kAny_t {Q : GI → Sto → Prop} : kAny Q E (.tup xs) st = Q (yesG, xs) st := propext Iff.rfl
@[simp ↓] theorem kAny_l {Q : GI → Sto → Prop} : kAny Q E (.lst xs) st = Q (yesG, xs) st := propext Iff.rfl
@[simp ↓] theorem kAny_f {Q : GI → Sto → Prop} : kAny Q E (.frz xs) st = Q (yesG, xs) st := propext Iff.rfl
@[simp ↓] theorem kAny_s {Q : GI → Sto → Prop} : kAny Q E (.str a) st = Q (yesG, a.map fun c => .str [c]) st := propext Iff.rfl
@[simp ↓] theorem kAny_c {Q : GI → Sto → Prop} (h : st[n]? = some (.lst xs)) : kAny Q E (.loc n) st = Q (gd n xs, xs) st := by unfold kAny anyM; dsimp only; rw [h]; rfl
@[simp ↓] theorem kEnA_t {Q : GI → Sto → Prop} : kEnA Q E (.tup xs) st = Q (yesG, enumP xs) st := propext Iff.rfl
@[simp ↓] theorem kEnA_l {Q : GI → Sto → Prop} : kEnA Q E (.lst xs) st = Q (yesG, enumP xs) st := propext Iff.rfl
@[simp ↓] theorem kEnA_s {Q : GI → Sto → Prop} : kEnA Q E (.str a) st = Q (yesG, enumP (a.map fun c => .str [c])) st := propext Iff.rfl
@[simp ↓] theorem kEnA_c {Q : GI → Sto → Prop} (h : st[n]? = some (.lst xs)) : kEnA Q E (.loc n) st = Q (gd n xs, enumP xs) st := by unfold kEnA enumA; dsimp only; rw [h]; rfl
noncomputable def kForA (g : GM) (b : MS1) (ρ : Rho) (QF : KF) (E : KX) : GI → Sto → Prop := fun gx s => Z (forG gx.1 g b gx.2 ρ s) QF E
@[simp ↓] theorem Z_sForA {mi : Rho → M GI} : Z (sForA mi g b ρ st) QF E = Z (mi ρ st) (kForA g b ρ QF E) (kX ρ QF) := by unfold sForA; rw [Z_onErr]; rfl
@[simp ↓] theorem kForA_y : kForA g b ρ QF E (yesG, ps) st = Z (forL g b ps ρ st) QF E := by unfold kForA; dsimp only; rw [forG_yes]
noncomputable def kLcA (k : List PV → M PV) (g : GM) (t : MT1) (e : ME1) (vs : List Nat) (ρ : Rho) (QP : KP) (E : KX) : GI → Sto → Prop := fun gx s => Z (lcG gx.1 g t e (wipeP ρ vs) gx.2 [] s) (kLE k QP E) E
@[simp ↓] theorem Z_eLcA {k : List PV → M PV} {mi : Rho → M GI} {t : MT1} {e : ME1} {vs : List Nat} : Z (eLcA k mi g t e vs ρ st) QP E = Z (mi ρ st) (kLcA k g t e vs ρ QP E) E := by
  unfold eLcA; rw [Z_bind]; simp only [Z_bind]; rfl
@[simp ↓] theorem kLcA_y {k : List PV → M PV} {t : MT1} {e : ME1} {vs : List Nat} : kLcA k g t e vs ρ QP E (yesG, ps) st = Z (lcL g t e (wipeP ρ vs) ps [] st) (kLE k QP E) E := by unfold kLcA; dsimp only; rw [lcG_yes]
end
theorem Z_listAN {x : PV} {ys : List PV} {st : Sto} {Q : PV → Sto → Prop} {E : Exn → Sto → Prop} (h : itemsA x st = some ys) : Z (listAN [x] st) Q E = Q (.loc st.length) (st ++ [.lst ys]) := by
  unfold listAN; dsimp only; rw [h]; rfl
section
variable {st : Sto} {a : List Nat} {xs : List PV} {m : Nat} {kvs : List (PV × PV)}
@[simp] theorem itemsA_tup : itemsA (.tup xs) st = some xs := rfl
@[simp] theorem itemsA_lst : itemsA (.lst xs) st = some xs := rfl
@[simp] theorem itemsA_frz : itemsA (.frz xs) st = some xs := rfl
end
noncomputable def kGA2 (cs : List String) (f : String) (p : PV) (ρ : Rho) (QR : KR) (E : KX) : PV → Sto → Prop := fun o s => Z (setA cs f p o s) (fun _ s => QR ρ s) E
@[simp ↓] theorem Z_gAttr {cs : List String} {f : String} {mo : ME1} {p : PV} {ρ : Rho} {st : Sto} {QR : KR} {E : KX} : Z (gAttr cs f mo p ρ st) QR E = Z (mo ρ st) (kGA2 cs f p ρ QR E) E := by
  unfold gAttr kGA2; rw [Z_bind]; congr 1; funext o s; rw [Z_bind]; rfl
@[simp ↓] theorem kGA2_at {cs : List String} {f c : String} {p : PV} {ρ : Rho} {QR : KR} {E : KX} {n : Nat} {fs : List (String × PV)} {s : Sto} (h : s[n]? = some (.ins c fs)) (hc : c ∈ cs) (hl : fs.length < 1000) : kGA2 cs f p ρ QR E (.loc n) s = QR ρ (s.set n (.ins c (putA f p fs))) := by
  unfold kGA2 setA; dsimp only; rw [h]; dsimp only; rw [if_pos ⟨hc, hl⟩]; rfl
@[simp ↓] theorem Z_extend {st : Sto} {m : Nat} {x : PV} {ys zs : List PV} {Q : PV → Sto → Prop} {E : Exn → Sto → Prop} (h : st[m]? = some (.lst ys)) (h2 : listOf x st = some zs) (hz : ys.length + zs.length ≤ 16777216) : Z (extendM (.loc m) [x] st) Q E = Q .non (st.set m (.lst (ys ++ zs))) := by
  unfold extendM lstCell; dsimp only; rw [h]; dsimp only; rw [h2]; dsimp only; rw [if_pos hz]; rfl
end MP

set_option maxRecDepth 100000
namespace MP
open PySem L2
section
variable {c : String} {i j : Nat} {names fs : List String} {ma : Rho → M (List PV)} {mb : Rho → M Fl} {ρ : Rho} {st : Sto} {QF : Fl → Sto → Prop} {E : Exn → Sto → Prop}
noncomputable def kRz (c : String) (names : List String) (ρ : Rho) (QF : Fl → Sto → Prop) : List PV → Sto → Prop := fun ps s => QF (.exc (exnR c names ps) ρ) s
@[simp ↓] theorem kRz_at {ps : List PV} {s : Sto} : kRz c names ρ QF ps s = QF (.exc (exnR c names ps) ρ) s := propext Iff.rfl
@[simp ↓] theorem Z_sRaise : Z (sRaise c names ma ρ st) QF E = Z (ma ρ st) (kRz c names ρ QF) (kX ρ QF) := by
  unfold sRaise; rw [Z_onErr]; rfl
noncomputable def tryQ (c : String) (i j : Nat) (fs : List String) (QF : Fl → Sto → Prop) : Fl → Sto → Prop
  | .exc x ρ', s => x.C = c ∧ i < ρ'.length ∧ ∃ ps, lookAll fs x.fs = some ps ∧ QF (.next ((ρ'.set j (some (.tup ps))).set i none)) s
  | fl, s => QF fl s
@[simp] theorem tryQ_next {ρ' : Rho} : tryQ c i j fs QF (.next ρ') st = QF (.next ρ') st := propext Iff.rfl
@[simp] theorem tryQ_ret {v : PV} : tryQ c i j fs QF (.ret v) st = QF (.ret v) st := propext Iff.rfl
@[simp] theorem tryQ_exc {x : Exn} {ρ' : Rho} : tryQ c i j fs QF (.exc x ρ') st = (x.C = c ∧ i < ρ'.length ∧ ∃ ps, lookAll fs x.fs = some ps ∧ QF (.next ((ρ'.set j (some (.tup ps))).set i none)) st) := propext Iff.rfl
@[simp ↓] theorem Z_sTryT : Z (sTryT c i j fs mb ρ st) QF E = Z (mb ρ st) (tryQ c i j fs QF) E := by
  unfold sTryT
  cases mb ρ st with
  | bad => rfl
  | err y s => rfl
  | ok fl s =>
    cases fl with
    | next ρ' => rfl
    | ret v => rfl
    | brk ρ' => rfl
    | cont ρ' => rfl
    | exc x ρ' =>
      refine propext ?_
      dsimp only
      show _ ↔ (x.C = c ∧ i < ρ'.length ∧ ∃ ps, lookAll fs x.fs = some ps ∧ QF (.next ((ρ'.set j (some (.tup ps))).set i none)) s)
      by_cases h : x.C = c ∧ i < ρ'.length
      · rw [if_pos h]
        cases q : lookAll fs x.fs with
        | none => exact ⟨fun z => z.elim, fun ⟨_, _, ps, e, _⟩ => nomatch e⟩
        | some ps => exact ⟨fun z => ⟨h.1, h.2, ps, rfl, z⟩, fun ⟨_, _, ps', e, z⟩ => by cases e; exact z⟩
      · rw [if_neg h]
        exact ⟨fun z => z.elim, fun ⟨h1, h2, _⟩ => absurd ⟨h1, h2⟩ h⟩
end
section
variable {m n : Nat} {kvs : List (PV × PV)} {me : Rho → M PV} {g : GM} {b : Rho → M Fl} {ρ : Rho} {st st' : Sto} {QF : Fl → Sto → Prop} {E : Exn → Sto → Prop}
end
section
variable {ρ : Rho} {st : Sto} {QR : Rho → Sto → Prop} {E : Exn → Sto → Prop}
theorem Z_gTAo {m : Nat} {r : GsM} {p : PV} {xs : List PV} (h : itA p st = some xs) : Z (gTA m r p ρ st) QR E = if xs.length = m then Z (r xs ρ st) QR E0 else False := by
  unfold gTA; rw [h]; dsimp only; by_cases h : xs.length = m
  · rw [if_pos h, if_pos h, Z_calm]
  · rw [if_neg h, if_neg h]; rfl
@[simp ↓] theorem Z_gTAt {m : Nat} {r : GsM} {xs : List PV} : Z (gTA m r (.tup xs) ρ st) QR E = if xs.length = m then Z (r xs ρ st) QR E0 else False := Z_gTAo rfl
@[simp ↓] theorem Z_gTAl {m : Nat} {r : GsM} {xs : List PV} : Z (gTA m r (.lst xs) ρ st) QR E = if xs.length = m then Z (r xs ρ st) QR E0 else False := Z_gTAo rfl
@[simp ↓] theorem Z_gTAc {m k : Nat} {r : GsM} {xs : List PV} (h : st[k]? = some (.lst xs)) : Z (gTA m r (.loc k) ρ st) QR E = if xs.length = m then Z (r xs ρ st) QR E0 else False := Z_gTAo (by unfold itA; dsimp only; rw [h])
end
section
variable {st : Sto} {Q : PV → Sto → Prop} {E : Exn → Sto → Prop}
@[simp ↓] theorem Z_rvsT {xs : List PV} : Z (rvsM (.tup xs) st) Q E = Q (.tup xs.reverse) st := rfl
@[simp ↓] theorem Z_rvsS {z : List Nat} : Z (rvsM (.str z) st) Q E = if z.length ≤ 16777216 then Q (.str z.reverse) st else False := by
  unfold rvsM; dsimp only
  by_cases h : z.length ≤ 16777216
  · rw [if_pos h, if_pos h]; rfl
  · rw [if_neg h, if_neg h]; rfl
@[simp ↓] theorem Z_notTb {a b : Bool} : Z (notT (.bl a) (.bl b) st) Q E = Q (.bl (!decide (a = b))) st := rfl
@[simp ↓] theorem Z_notTn {b : Bool} : Z (notT .non (.bl b) st) Q E = Q (.bl true) st := rfl
@[simp ↓] theorem Z_notTt {b : Bool} {xs : List PV} : Z (notT (.tup xs) (.bl b) st) Q E = Q (.bl true) st := rfl
end
@[simp ↓] theorem Z_isTb {a b : Bool} {st : Sto} {Q : PV → Sto → Prop} {E : Exn → Sto → Prop} : Z (isT (.bl a) (.bl b) st) Q E = Q (.bl (decide (a = b))) st := rfl
@[simp ↓] theorem Z_isTn {b : Bool} {st : Sto} {Q : PV → Sto → Prop} {E : Exn → Sto → Prop} : Z (isT .non (.bl b) st) Q E = Q (.bl false) st := rfl
@[simp ↓] theorem Z_isTt {b : Bool} {xs : List PV} {st : Sto} {Q : PV → Sto → Prop} {E : Exn → Sto → Prop} : Z (isT (.tup xs) (.bl b) st) Q E = Q (.bl false) st := rfl
noncomputable def tryN (QF : Fl → Sto → Prop) : Fl → Sto → Prop := fun f s => match f with
  | .exc _ _ => False
  | f => QF f s
@[simp] theorem tryN_next {QF : Fl → Sto → Prop} {ρ : Rho} {st : Sto} : tryN QF (.next ρ) st = QF (.next ρ) st := rfl
@[simp] theorem tryN_ret {QF : Fl → Sto → Prop} {v : PV} {st : Sto} : tryN QF (.ret v) st = QF (.ret v) st := rfl
@[simp ↓] theorem Z_sTryN {mb : Rho → M Fl} {ρ : Rho} {st : Sto} {QF : Fl → Sto → Prop} {E : Exn → Sto → Prop} : Z (sTryN mb ρ st) QF E = Z (mb ρ st) (tryN QF) E := by
  unfold sTryN
  cases mb ρ st with
  | bad => rfl
  | err x s => rfl
  | ok f s => cases f <;> rfl
@[simp ↓] theorem Z_minT {st : Sto} {a b : List Nat} {Q : PV → Sto → Prop} {E : Exn → Sto → Prop} : Z (minTM [.str a, .str b] st) Q E = Q (if ltD (.str b) (.str a) then .str b else .str a) st := rfl
@[simp ↓] theorem Z_ltXi {i j : Int} {st : Sto} {Q : PV → Sto → Prop} {E : Exn → Sto → Prop} : Z (ltX (.int i) (.int j) st) Q E = Q (.bl (decide (i < j))) st := propext Iff.rfl
@[simp ↓] theorem Z_ltXs {a b : List Nat} {st : Sto} {Q : PV → Sto → Prop} {E : Exn → Sto → Prop} : Z (ltX (.str a) (.str b) st) Q E = Q (.bl (decide (a < b))) st := propext Iff.rfl
noncomputable def kSel (fs : List (List PV → M PV)) (ma : Rho → M (List PV)) (ρ : Rho) (Q : PV → Sto → Prop) (E : Exn → Sto → Prop) : PV → Sto → Prop := fun i s => match pickF fs i with
  | some f => Z (eCall f ma ρ s) Q E
  | none => False
@[simp ↓] theorem Z_eSel {fs : List (List PV → M PV)} {mi : Rho → M PV} {ma : Rho → M (List PV)} {ρ : Rho} {st : Sto} {Q : PV → Sto → Prop} {E : Exn → Sto → Prop} : Z (eSel fs mi ma ρ st) Q E = Z (mi ρ st) (kSel fs ma ρ Q E) E := by
  unfold eSel
  rw [Z_bind]
  congr 1
  funext i s
  unfold kSel
  cases pickF fs i with
  | none => rfl
  | some f => rfl
section
variable {st : Sto} {ρ : Rho} {QP : KP} {E : KX} {m : Nat} {xs : List PV} {v : PV}
@[simp ↓] theorem Z_tupX (h : st[m]? = some (.lst xs)) : Z (tupX [.loc m] st) QP E = QP (.xt xs) st := by
  unfold tupX; dsimp only; rw [show listOf (.loc m) st = some xs by unfold listOf; dsimp only; rw [h]]; rfl
theorem Z_dictX {ps : List (PV × PV)} (h2 : pairsOf xs = some ps) (h3 : keysOk ps = true) : Z (dictX [.xt xs] st) QP E = QP (.loc st.length) (st ++ [.dct (mergeP [] ps)]) := by
  unfold dictX; dsimp only; rw [h2]; dsimp only; rw [if_pos h3]; rfl
noncomputable def kWk (QP : KP) : PV → Sto → Prop := fun v s => QP (wkP v) s
@[simp ↓] theorem kWk_at : kWk QP v st = QP (wkP v) st := propext Iff.rfl
@[simp ↓] theorem Z_wk {mo : ME1} : Z (eWk mo ρ st) QP E = Z (mo ρ st) (kWk QP) E := by
  unfold eWk; rw [Z_bind]; rfl
@[simp] theorem wkP_xt : wkP (.xt xs) = .tup xs := rfl
@[simp] theorem wkP_tup : wkP (.tup xs) = .tup xs := rfl
end
end MP

set_option maxRecDepth 100000
namespace K09
open PySem L2 MP
noncomputable def tab_KIND_OF : List (List Nat × PV) := [([110], .str [110, 117, 109]), ([114], .str [114, 111, 119])]
noncomputable def tab_OPERATIONS : List (List Nat × PV) := [([97, 100, 100], .tup [.str [110], .str [110, 110]]), ([115, 117, 98], .tup [.str [110], .str [110, 110]]), ([109, 117, 108], .tup [.str [110], .str [110, 110]]), ([100, 105, 118], .tup [.str [110], .str [110, 110]]), ([114, 101, 115, 116], .tup [.str [110], .str [110, 110]]), ([108, 101, 115, 115], .tup [.str [110], .str [110, 110]]), ([115, 97, 109, 101], .tup [.str [110], .str [110, 110]]), ([112, 105, 99, 107], .tup [.str [110], .str [110, 110, 110]]), ([99, 111, 112, 121], .tup [.str [110], .str [110]]), ([97, 116], .tup [.str [110], .str [114, 110]]), ([115, 105, 122, 101], .tup [.str [110], .str [114]]), ([112, 117, 116], .tup [.str [114], .str [114, 110, 110]]), ([109, 97, 110, 121], .tup [.str [114], .str [110, 110]]), ([109, 97, 107, 101], .tup [.str [114], .non]), ([107, 101, 101, 112], .tup [.str [114], .str [114]])]
noncomputable def tab_PART_OF : List (List Nat × PV) := [([110, 117, 109], .str [110]), ([114, 111, 119], .str [114])]
noncomputable def b_kinds_of (n : Nat) : Rho → M Fl :=
  (sRet (eUn (getTab tab_OPERATIONS) (eVar 0)))
@[irreducible] noncomputable def F_kinds_of (n : Nat) : List PV → M PV := runB (b_kinds_of n) 1
theorem z_kinds_of {n : Nat} {p0 : PV} {st : Sto} {Q : PV → Sto → Prop} {E : Exn → Sto → Prop} : Z (F_kinds_of n [p0] st) Q E = Z (b_kinds_of n [some p0] st) (runQ Q E) E0 := by unfold F_kinds_of; exact Z_run rfl
noncomputable def L0_found_in (n : Nat) : Rho → M Fl :=
  (sIf (eB (eBin eqM (eBin ixM (eVar 2) (eC (.int 0))) (eVar 1))) (sRet (eBin ixM (eVar 2) (eC (.int 1)))) sNext)
theorem zL0_found_in {n : Nat} {ρ : Rho} {st : Sto} {Q : Fl → Sto → Prop} {E : Exn → Sto → Prop} : Z (L0_found_in n ρ st) Q E = Z ((sIf (eB (eBin eqM (eBin ixM (eVar 2) (eC (.int 0))) (eVar 1))) (sRet (eBin ixM (eVar 2) (eC (.int 1)))) sNext) ρ st) Q E := by unfold L0_found_in; rfl
noncomputable def b_found_in (n : Nat) : Rho → M Fl :=
  (sSeq (sFor (iSeq (eVar 0)) (gN 2) (L0_found_in n))
  (sRet (eC .non)))
@[irreducible] noncomputable def F_found_in (n : Nat) : List PV → M PV := runB (b_found_in n) 3
theorem z_found_in {n : Nat} {p0 p1 : PV} {st : Sto} {Q : PV → Sto → Prop} {E : Exn → Sto → Prop} : Z (F_found_in n [p0, p1] st) Q E = Z (b_found_in n [some p0, some p1, none] st) (runQ Q E) E0 := by unfold F_found_in; exact Z_run rfl
noncomputable def b_parts_of (n : Nat) (fr_parts_of : List PV → M PV) : Rho → M Fl :=
  (sSeq (sIf (eB (eUn (inTab false (tab_PART_OF)) (eVar 1))) (sRet (eUn (ixTab tab_PART_OF) (eVar 1))) sNext)
  (sRet (eMeth "str" joinM (eC (.str [])) (aCons (eLc lcV (iSeq (eCall (F_found_in n) (aCons (eBin ixM (eVar 0) (eC (.int 0))) (aCons (eVar 1) aNil)))) (gN 2) tYesM (eCall fr_parts_of (aCons (eVar 0) (aCons (eBin ixM (eVar 2) (eC (.int 1))) aNil))) [2]) aNil))))
noncomputable def G_parts_of (n : Nat) : Nat → List PV → M PV
  | 0 => fun _ => M.fail
  | d + 1 => runB (b_parts_of n (G_parts_of n d)) 3
@[irreducible] noncomputable def F_parts_of (n d : Nat) : List PV → M PV := G_parts_of n d
theorem z_parts_of {n d : Nat} {p0 p1 : PV} {st : Sto} {Q : PV → Sto → Prop} {E : Exn → Sto → Prop} : Z (F_parts_of n (d + 1) [p0, p1] st) Q E = Z (b_parts_of n (F_parts_of n d) [some p0, some p1, none] st) (runQ Q E) E0 := by unfold F_parts_of; exact Z_run rfl
noncomputable def L0_path_kind (n : Nat) : Rho → M Fl :=
  (sSeq (sSet 5 (eCall (F_found_in n) (aCons (eBin ixM (eVar 0) (eC (.int 0))) (aCons (eVar 3) aNil))))
  (sSet 3 (eIf (eB (eBin isN (eVar 5) (eC .non))) (eC .non) (eCall (F_found_in n) (aCons (eVar 5) (aCons (eVar 4) aNil))))))
theorem zL0_path_kind {n : Nat} {ρ : Rho} {st : Sto} {Q : Fl → Sto → Prop} {E : Exn → Sto → Prop} : Z (L0_path_kind n ρ st) Q E = Z ((sSeq (sSet 5 (eCall (F_found_in n) (aCons (eBin ixM (eVar 0) (eC (.int 0))) (aCons (eVar 3) aNil))))   (sSet 3 (eIf (eB (eBin isN (eVar 5) (eC .non))) (eC .non) (eCall (F_found_in n) (aCons (eVar 5) (aCons (eVar 4) aNil)))))) ρ st) Q E := by unfold L0_path_kind; rfl
noncomputable def b_path_kind (n : Nat) : Rho → M Fl :=
  (sSeq (sSet 3 (eGet1 (eVar 1) (eBin ixM (eVar 2) (eC (.int 0)))))
  (sSeq (sFor (iSeq (eSl slM (eVar 2) (oSome (eC (.int 1))) oNone)) (gN 4) (L0_path_kind n))
  (sRet (eVar 3))))
@[irreducible] noncomputable def F_path_kind (n : Nat) : List PV → M PV := runB (b_path_kind n) 6
theorem z_path_kind {n : Nat} {p0 p1 p2 : PV} {st : Sto} {Q : PV → Sto → Prop} {E : Exn → Sto → Prop} : Z (F_path_kind n [p0, p1, p2] st) Q E = Z (b_path_kind n [some p0, some p1, some p2, none, none, none] st) (runQ Q E) E0 := by unfold F_path_kind; exact Z_run rfl
noncomputable def b_kind_of_expr (n : Nat) : Rho → M Fl :=
  (sSeq (sIf (eB (eCall isiM (aCons (eVar 2) (aCons (eC (.ty "int")) aNil)))) (sRet (eC (.str [110, 117, 109]))) sNext)
  (sSeq (sIf (eB (eBin eqM (eBin ixM (eVar 2) (eC (.int 0))) (eC (.str [111, 102])))) (sRet (eCall (F_path_kind n) (aCons (eVar 0) (aCons (eVar 1) (aCons (eBin ixM (eVar 2) (eC (.int 1))) aNil))))) sNext)
  (sSeq (sIf (eB (eBin eqM (eBin ixM (eVar 2) (eC (.int 0))) (eC (.str [99, 97, 108, 108])))) (sRet (eCall (F_found_in n) (aCons (eBin ixM (eVar 0) (eC (.int 1))) (aCons (eBin ixM (eVar 2) (eC (.int 1))) aNil)))) sNext)
  (sSeq (sIf (eB (eBin eqM (eBin ixM (eVar 2) (eC (.int 0))) (eC (.str [110, 101, 119])))) (sRet (eBin ixM (eVar 2) (eC (.int 1)))) sNext)
  (sSeq (sSet 3 (eCall (F_kinds_of n) (aCons (eBin ixM (eVar 2) (eC (.int 0))) aNil)))
  (sRet (eIf (eB (eBin isN (eVar 3) (eC .non))) (eC (.str [110, 117, 109])) (eUn (ixTab tab_KIND_OF) (eBin ixM (eVar 3) (eC (.int 0)))))))))))
@[irreducible] noncomputable def F_kind_of_expr (n : Nat) : List PV → M PV := runB (b_kind_of_expr n) 4
theorem z_kind_of_expr {n : Nat} {p0 p1 p2 : PV} {st : Sto} {Q : PV → Sto → Prop} {E : Exn → Sto → Prop} : Z (F_kind_of_expr n [p0, p1, p2] st) Q E = Z (b_kind_of_expr n [some p0, some p1, some p2, none] st) (runQ Q E) E0 := by unfold F_kind_of_expr; exact Z_run rfl
noncomputable def b__law_box (n : Nat) : Rho → M Fl :=
  (sSeq (sSet 1 (eCall listAN (aCons (eVar 0) aNil)))
  (sSeq (sIf (eB (eBin eqM (eCall lenM (aCons (eVar 1) aNil)) (eC (.int 0)))) (sSet 1 (eCall mkLstN (aCons (eC (.int 0)) aNil))) sNext)
  (sSeq (sSet 2 (eDct [((eC (.str [99, 101, 108, 108, 115])), (eVar 1)), ((eC (.str [99, 111, 117, 110, 116])), (eC (.int 0))), ((eC (.str [100, 105, 103, 105, 116, 115])), (eBin eqM (eBin modV (eBin ixM (eVar 1) (eC (.int 0))) (eC (.int 2))) (eC (.int 1))))]))
  (sSeq (sAsg (eBin fdivV (eBin ixM (eVar 1) (eC (.int 0))) (eC (.int 2))) (gSubM (eVar 1) (eC (.int 0))))
  (sRet (eVar 2))))))
@[irreducible] noncomputable def F__law_box (n : Nat) : List PV → M PV := runB (b__law_box n) 3
theorem z__law_box {n : Nat} {p0 : PV} {st : Sto} {Q : PV → Sto → Prop} {E : Exn → Sto → Prop} : Z (F__law_box n [p0] st) Q E = Z (b__law_box n [some p0, none, none] st) (runQ Q E) E0 := by unfold F__law_box; exact Z_run rfl
noncomputable def b__law_take (n : Nat) : Rho → M Fl :=
  (sSeq (sSet 2 (eBin ixM (eVar 0) (eC (.str [99, 101, 108, 108, 115]))))
  (sSeq (sSet 3 (eBin ixM (eVar 0) (eC (.str [99, 111, 117, 110, 116]))))
  (sSeq (sSet 4 (eBin modV (eVar 3) (eCall lenM (aCons (eVar 2) aNil))))
  (sSeq (sAsg (eBin addV (eVar 3) (eC (.int 1))) (gSubM (eVar 0) (eC (.str [99, 111, 117, 110, 116]))))
  (sSeq (sIf (tAndM (eB (eBin ixM (eVar 0) (eC (.str [100, 105, 103, 105, 116, 115])))) (tAndM (eB (eBin neM (eBin ixM (eVar 2) (eVar 4)) (eC (.int 0)))) (eB (eBin neM (eBin ixM (eVar 2) (eVar 4)) (eUn negV (eC (.int 1))))))) (sSeq (sSet 5 (eBin modV (eBin ixM (eVar 2) (eVar 4)) (eVar 1)))
  (sSeq (sAsg (eBin fdivV (eBin ixM (eVar 2) (eVar 4)) (eVar 1)) (gSubM (eVar 2) (eVar 4)))
  (sRet (eVar 5)))) sNext)
  (sSeq (sSet 6 (eBin modV (eBin addV (eBin addV (eBin mulV (eBin ixM (eVar 2) (eVar 4)) (eC (.int 48271))) (eBin mulV (eBin mulV (eC (.int 7919)) (eVar 3)) (eVar 3))) (eC (.int 11))) (eC (.int 99991))))
  (sRet (eBin modV (eBin modV (eBin mulV (eVar 6) (eC (.int 742938285))) (eC (.int 2147483629))) (eVar 1)))))))))
@[irreducible] noncomputable def F__law_take (n : Nat) : List PV → M PV := runB (b__law_take n) 7
theorem z__law_take {n : Nat} {p0 p1 : PV} {st : Sto} {Q : PV → Sto → Prop} {E : Exn → Sto → Prop} : Z (F__law_take n [p0, p1] st) Q E = Z (b__law_take n [some p0, some p1, none, none, none, none, none] st) (runQ Q E) E0 := by unfold F__law_take; exact Z_run rfl
noncomputable def b__law_number (n : Nat) : Rho → M Fl :=
  (sSeq (sSet 1 (eCall (F__law_take n) (aCons (eVar 0) (aCons (eC (.int 4)) aNil))))
  (sSeq (sIf (eB (eBin eqM (eVar 1) (eC (.int 0)))) (sRet (eBin subV (eCall (F__law_take n) (aCons (eVar 0) (aCons (eC (.int 65536)) aNil))) (eC (.int 32768)))) sNext)
  (sSeq (sIf (eB (eBin eqM (eVar 1) (eC (.int 1)))) (sRet (eBin ixM (eCall mkLst (aCons (eUn negV (eC (.int 32768))) (aCons (eC (.int 32767)) (aCons (eC (.int 255)) (aCons (eUn negV (eC (.int 256))) (aCons (eC (.int 181)) (aCons (eC (.int 182)) (aCons (eC (.int 40)) (aCons (eC (.int 41)) aNil))))))))) (eCall (F__law_take n) (aCons (eVar 0) (aCons (eC (.int 8)) aNil))))) sNext)
  (sRet (eBin subV (eCall (F__law_take n) (aCons (eVar 0) (aCons (eC (.int 9)) aNil))) (eC (.int 4)))))))
@[irreducible] noncomputable def F__law_number (n : Nat) : List PV → M PV := runB (b__law_number n) 2
theorem z__law_number {n : Nat} {p0 : PV} {st : Sto} {Q : PV → Sto → Prop} {E : Exn → Sto → Prop} : Z (F__law_number n [p0] st) Q E = Z (b__law_number n [some p0, none] st) (runQ Q E) E0 := by unfold F__law_number; exact Z_run rfl
noncomputable def L0__law_words_of (n : Nat) (fr__law_words_of : List PV → M PV) : Rho → M Fl :=
  (sSet 1 (eBin addN (eVar 1) (eCall fr__law_words_of (aCons (eVar 3) aNil))))
theorem zL0__law_words_of {n : Nat} {fr__law_words_of : List PV → M PV} {ρ : Rho} {st : Sto} {Q : Fl → Sto → Prop} {E : Exn → Sto → Prop} : Z (L0__law_words_of n fr__law_words_of ρ st) Q E = Z ((sSet 1 (eBin addN (eVar 1) (eCall fr__law_words_of (aCons (eVar 3) aNil)))) ρ st) Q E := by unfold L0__law_words_of; rfl
noncomputable def b__law_words_of (n : Nat) (fr__law_words_of : List PV → M PV) : Rho → M Fl :=
  (sSeq (sIf (eB (eCall isiM (aCons (eVar 0) (aCons (eC (.ty "int")) aNil)))) (sRet (eCall mkLst (aCons (eCall strM (aCons (eVar 0) aNil)) aNil))) sNext)
  (sSeq (sIf (eB (eBin eqM (eBin ixM (eVar 0) (eC (.int 0))) (eC (.str [111, 102])))) (sRet (eCall mkLst (aCons (eMeth "str" joinM (eC (.str [46])) (aCons (eBin ixM (eVar 0) (eC (.int 1))) aNil)) aNil))) sNext)
  (sSeq (sSet 1 (eCall mkLstN (aCons (eBin ixM (eVar 0) (eC (.int 0))) aNil)))
  (sSeq (sSet 2 (eSl slM (eVar 0) (oSome (eC (.int 1))) oNone))
  (sSeq (sIf (tOrM (eB (eBin eqM (eBin ixM (eVar 0) (eC (.int 0))) (eC (.str [99, 97, 108, 108])))) (eB (eBin eqM (eBin ixM (eVar 0) (eC (.int 0))) (eC (.str [110, 101, 119]))))) (sSeq (sDrop (eMeth "list" appendM (eVar 1) (aCons (eBin ixM (eVar 0) (eC (.int 1))) aNil)))
  (sSet 2 (eSl slM (eVar 0) (oSome (eC (.int 2))) oNone))) sNext)
  (sSeq (sIf (eB (eBin (inM false) (eBin ixM (eVar 0) (eC (.int 0))) (eCall mkTup (aCons (eC (.str [109, 97, 107, 101])) (aCons (eC (.str [99, 97, 108, 108])) (aCons (eC (.str [110, 101, 119])) aNil)))))) (sDrop (eMeth "list" appendM (eVar 1) (aCons (eCall strM (aCons (eCall lenM (aCons (eVar 2) aNil)) aNil)) aNil))) sNext)
  (sSeq (sFor (iSeq (eVar 2)) (gN 3) (L0__law_words_of n fr__law_words_of))
  (sRet (eVar 1)))))))))
noncomputable def G__law_words_of (n : Nat) : Nat → List PV → M PV
  | 0 => fun _ => M.fail
  | d + 1 => runB (b__law_words_of n (G__law_words_of n d)) 4
@[irreducible] noncomputable def F__law_words_of (n d : Nat) : List PV → M PV := G__law_words_of n d
theorem z__law_words_of {n d : Nat} {p0 : PV} {st : Sto} {Q : PV → Sto → Prop} {E : Exn → Sto → Prop} : Z (F__law_words_of n (d + 1) [p0] st) Q E = Z (b__law_words_of n (F__law_words_of n d) [some p0, none, none, none] st) (runQ Q E) E0 := by unfold F__law_words_of; exact Z_run rfl
noncomputable def b__law_parts (n : Nat) (fr__law_parts : List PV → M PV) : Rho → M Fl :=
  (sSeq (sIf (eB (eBin eqM (eVar 1) (eC (.str [110, 117, 109])))) (sRet (eC (.str [110]))) sNext)
  (sSeq (sIf (eB (eBin eqM (eVar 1) (eC (.str [114, 111, 119])))) (sRet (eC (.str [114]))) sNext)
  (sRet (eMeth "str" joinM (eC (.str [])) (aCons (eLc lcV (iSeq (eBin ixM (eCall dictM (aCons (eVar 0) aNil)) (eVar 1))) (gN 2) tYesM (eCall fr__law_parts (aCons (eVar 0) (aCons (eBin ixM (eVar 2) (eC (.int 1))) aNil))) [2]) aNil)))))
noncomputable def G__law_parts (n : Nat) : Nat → List PV → M PV
  | 0 => fun _ => M.fail
  | d + 1 => runB (b__law_parts n (G__law_parts n d)) 3
@[irreducible] noncomputable def F__law_parts (n d : Nat) : List PV → M PV := G__law_parts n d
theorem z__law_parts {n d : Nat} {p0 p1 : PV} {st : Sto} {Q : PV → Sto → Prop} {E : Exn → Sto → Prop} : Z (F__law_parts n (d + 1) [p0, p1] st) Q E = Z (b__law_parts n (F__law_parts n d) [some p0, some p1, none] st) (runQ Q E) E0 := by unfold F__law_parts; exact Z_run rfl
noncomputable def b__law_least (n : Nat) (fr__law_least : List PV → M PV) : Rho → M Fl :=
  (sSeq (sIf (eB (eBin eqM (eVar 1) (eC (.str [110, 117, 109])))) (sRet (eC (.int 1))) sNext)
  (sSeq (sIf (eB (eBin eqM (eVar 1) (eC (.str [114, 111, 119])))) (sRet (eC (.int 2))) sNext)
  (sRet (eBin addV (eC (.int 3)) (eCall sumM (aCons (eLc lcV (iSeq (eBin ixM (eCall dictM (aCons (eVar 0) aNil)) (eVar 1))) (gN 2) tYesM (eCall fr__law_least (aCons (eVar 0) (aCons (eBin ixM (eVar 2) (eC (.int 1))) aNil))) [2]) aNil))))))
noncomputable def G__law_least (n : Nat) : Nat → List PV → M PV
  | 0 => fun _ => M.fail
  | d + 1 => runB (b__law_least n (G__law_least n d)) 3
@[irreducible] noncomputable def F__law_least (n d : Nat) : List PV → M PV := G__law_least n d
theorem z__law_least {n d : Nat} {p0 p1 : PV} {st : Sto} {Q : PV → Sto → Prop} {E : Exn → Sto → Prop} : Z (F__law_least n (d + 1) [p0, p1] st) Q E = Z (b__law_least n (F__law_least n d) [some p0, some p1, none] st) (runQ Q E) E0 := by unfold F__law_least; exact Z_run rfl
noncomputable def b__law_kind (n : Nat) : Rho → M Fl :=
  (sSeq (sSet 2 (eBin addV (eCall mkLst (aCons (eC (.str [110, 117, 109])) (aCons (eC (.str [110, 117, 109])) (aCons (eC (.str [114, 111, 119])) aNil)))) (eLcC id lcV (iCell (eVar 1)) (gN 3) (eB (eBin ltI (eCall (F__law_least n 20) (aCons (eVar 1) (aCons (eBin ixM (eVar 3) (eC (.int 0))) aNil))) (eC (.int 8)))) (eBin ixM (eVar 3) (eC (.int 0))) [3])))
  (sRet (eBin ixM (eVar 2) (eCall (F__law_take n) (aCons (eVar 0) (aCons (eCall lenM (aCons (eVar 2) aNil)) aNil))))))
@[irreducible] noncomputable def F__law_kind (n : Nat) : List PV → M PV := runB (b__law_kind n) 4
theorem z__law_kind {n : Nat} {p0 p1 : PV} {st : Sto} {Q : PV → Sto → Prop} {E : Exn → Sto → Prop} : Z (F__law_kind n [p0, p1] st) Q E = Z (b__law_kind n [some p0, some p1, none, none] st) (runQ Q E) E0 := by unfold F__law_kind; exact Z_run rfl
noncomputable def L1__law_records (n : Nat) : Rho → M Fl :=
  (sSeq (sSet 5 (eCall (F__law_kind n) (aCons (eVar 0) (aCons (eVar 1) aNil))))
  (sSeq (sSet 6 (eBin addV (eVar 1) (eCall mkLst (aCons (eCall mkTup (aCons (eC (.str [120])) (aCons (eCall tupleM (aCons (eBin addV (eVar 3) (eCall mkLst (aCons (eCall mkTup (aCons (eC (.str [120])) (aCons (eVar 5) aNil))) aNil))) aNil)) aNil))) aNil))))
  (sIf (eB (eBin ltI (eCall lenM (aCons (eCall (F__law_parts n 20) (aCons (eVar 6) (aCons (eC (.str [120])) aNil))) aNil)) (eC (.int 5)))) (sDrop (eMeth "list" appendM (eVar 3) (aCons (eCall mkTup (aCons (eBin ixM (eCall mkLst (aCons (eC (.str [120])) (aCons (eC (.str [121])) (aCons (eC (.str [97, 98])) (aCons (eC (.str [110])) aNil))))) (eVar 4)) (aCons (eVar 5) aNil))) aNil))) sNext)))
noncomputable def L0__law_records (n : Nat) : Rho → M Fl :=
  (sSeq (sSet 3 (eCall mkLstN aNil))
  (sSeq (sFor (iCall range1 (aCons (eBin addV (eC (.int 1)) (eCall (F__law_take n) (aCons (eVar 0) (aCons (eC (.int 4)) aNil)))) aNil)) (gN 4) (L1__law_records n))
  (sDrop (eMeth "list" appendM (eVar 1) (aCons (eCall mkTup (aCons (eBin ixM (eCall mkLst (aCons (eC (.str [112, 97, 105, 114])) (aCons (eC (.str [112])) (aCons (eC (.str [110, 117, 109, 98, 101, 114, 115])) (aCons (eC (.str [120, 121])) aNil))))) (eVar 2)) (aCons (eCall tupleM (aCons (eVar 3) aNil)) aNil))) aNil)))))
theorem zL0__law_records {n : Nat} {ρ : Rho} {st : Sto} {Q : Fl → Sto → Prop} {E : Exn → Sto → Prop} : Z (L0__law_records n ρ st) Q E = Z ((sSeq (sSet 3 (eCall mkLstN aNil))   (sSeq (sFor (iCall range1 (aCons (eBin addV (eC (.int 1)) (eCall (F__law_take n) (aCons (eVar 0) (aCons (eC (.int 4)) aNil)))) aNil)) (gN 4) (L1__law_records n))   (sDrop (eMeth "list" appendM (eVar 1) (aCons (eCall mkTup (aCons (eBin ixM (eCall mkLst (aCons (eC (.str [112, 97, 105, 114])) (aCons (eC (.str [112])) (aCons (eC (.str [110, 117, 109, 98, 101, 114, 115])) (aCons (eC (.str [120, 121])) aNil))))) (eVar 2)) (aCons (eCall tupleM (aCons (eVar 3) aNil)) aNil))) aNil))))) ρ st) Q E := by unfold L0__law_records; rfl
theorem zL1__law_records {n : Nat} {ρ : Rho} {st : Sto} {Q : Fl → Sto → Prop} {E : Exn → Sto → Prop} : Z (L1__law_records n ρ st) Q E = Z ((sSeq (sSet 5 (eCall (F__law_kind n) (aCons (eVar 0) (aCons (eVar 1) aNil))))   (sSeq (sSet 6 (eBin addV (eVar 1) (eCall mkLst (aCons (eCall mkTup (aCons (eC (.str [120])) (aCons (eCall tupleM (aCons (eBin addV (eVar 3) (eCall mkLst (aCons (eCall mkTup (aCons (eC (.str [120])) (aCons (eVar 5) aNil))) aNil))) aNil)) aNil))) aNil))))   (sIf (eB (eBin ltI (eCall lenM (aCons (eCall (F__law_parts n 20) (aCons (eVar 6) (aCons (eC (.str [120])) aNil))) aNil)) (eC (.int 5)))) (sDrop (eMeth "list" appendM (eVar 3) (aCons (eCall mkTup (aCons (eBin ixM (eCall mkLst (aCons (eC (.str [120])) (aCons (eC (.str [121])) (aCons (eC (.str [97, 98])) (aCons (eC (.str [110])) aNil))))) (eVar 4)) (aCons (eVar 5) aNil))) aNil))) sNext))) ρ st) Q E := by unfold L1__law_records; rfl
noncomputable def b__law_records (n : Nat) : Rho → M Fl :=
  (sSeq (sSet 1 (eCall mkLstN aNil))
  (sSeq (sFor (iCall range1 (aCons (eCall (F__law_take n) (aCons (eVar 0) (aCons (eC (.int 4)) aNil))) aNil)) (gN 2) (L0__law_records n))
  (sRet (eVar 1))))
@[irreducible] noncomputable def F__law_records (n : Nat) : List PV → M PV := runB (b__law_records n) 7
theorem z__law_records {n : Nat} {p0 : PV} {st : Sto} {Q : PV → Sto → Prop} {E : Exn → Sto → Prop} : Z (F__law_records n [p0] st) Q E = Z (b__law_records n [some p0, none, none, none, none, none, none] st) (runQ Q E) E0 := by unfold F__law_records; exact Z_run rfl
noncomputable def L1__law_heads (n : Nat) : Rho → M Fl :=
  (sDrop (eMeth "list" appendM (eVar 4) (aCons (eCall mkTup (aCons (eBin ixM (eCall mkLst (aCons (eC (.str [97])) (aCons (eC (.str [97, 98])) (aCons (eC (.str [120])) (aCons (eC (.str [112, 97, 105, 114])) aNil))))) (eVar 5)) (aCons (eCall (F__law_kind n) (aCons (eVar 0) (aCons (eVar 1) aNil))) aNil))) aNil)))
noncomputable def L0__law_heads (n : Nat) : Rho → M Fl :=
  (sSeq (sSet 4 (eCall mkLstN aNil))
  (sSeq (sFor (iCall range1 (aCons (eCall (F__law_take n) (aCons (eVar 0) (aCons (eC (.int 5)) aNil))) aNil)) (gN 5) (L1__law_heads n))
  (sDrop (eMeth "list" appendM (eVar 2) (aCons (eCall mkTup (aCons (eBin ixM (eCall mkLst (aCons (eC (.str [109, 97, 105, 110])) (aCons (eC (.str [102])) (aCons (eC (.str [112, 97, 105, 114])) aNil)))) (eVar 3)) (aCons (eCall (F__law_kind n) (aCons (eVar 0) (aCons (eVar 1) aNil))) (aCons (eCall tupX (aCons (eVar 4) aNil)) aNil)))) aNil)))))
theorem zL0__law_heads {n : Nat} {ρ : Rho} {st : Sto} {Q : Fl → Sto → Prop} {E : Exn → Sto → Prop} : Z (L0__law_heads n ρ st) Q E = Z ((sSeq (sSet 4 (eCall mkLstN aNil))   (sSeq (sFor (iCall range1 (aCons (eCall (F__law_take n) (aCons (eVar 0) (aCons (eC (.int 5)) aNil))) aNil)) (gN 5) (L1__law_heads n))   (sDrop (eMeth "list" appendM (eVar 2) (aCons (eCall mkTup (aCons (eBin ixM (eCall mkLst (aCons (eC (.str [109, 97, 105, 110])) (aCons (eC (.str [102])) (aCons (eC (.str [112, 97, 105, 114])) aNil)))) (eVar 3)) (aCons (eCall (F__law_kind n) (aCons (eVar 0) (aCons (eVar 1) aNil))) (aCons (eCall tupX (aCons (eVar 4) aNil)) aNil)))) aNil))))) ρ st) Q E := by unfold L0__law_heads; rfl
theorem zL1__law_heads {n : Nat} {ρ : Rho} {st : Sto} {Q : Fl → Sto → Prop} {E : Exn → Sto → Prop} : Z (L1__law_heads n ρ st) Q E = Z ((sDrop (eMeth "list" appendM (eVar 4) (aCons (eCall mkTup (aCons (eBin ixM (eCall mkLst (aCons (eC (.str [97])) (aCons (eC (.str [97, 98])) (aCons (eC (.str [120])) (aCons (eC (.str [112, 97, 105, 114])) aNil))))) (eVar 5)) (aCons (eCall (F__law_kind n) (aCons (eVar 0) (aCons (eVar 1) aNil))) aNil))) aNil))) ρ st) Q E := by unfold L1__law_heads; rfl
noncomputable def b__law_heads (n : Nat) : Rho → M Fl :=
  (sSeq (sSet 2 (eCall mkLstN aNil))
  (sSeq (sFor (iCall range1 (aCons (eBin addV (eC (.int 1)) (eCall (F__law_take n) (aCons (eVar 0) (aCons (eC (.int 3)) aNil)))) aNil)) (gN 3) (L0__law_heads n))
  (sRet (eVar 2))))
@[irreducible] noncomputable def F__law_heads (n : Nat) : List PV → M PV := runB (b__law_heads n) 6
theorem z__law_heads {n : Nat} {p0 p1 : PV} {st : Sto} {Q : PV → Sto → Prop} {E : Exn → Sto → Prop} : Z (F__law_heads n [p0, p1] st) Q E = Z (b__law_heads n [some p0, some p1, none, none, none, none] st) (runQ Q E) E0 := by unfold F__law_heads; exact Z_run rfl
noncomputable def L1__law_ways (n : Nat) : Rho → M Fl :=
  (sIf (tAndM (eB (eBin eqM (eCall lenM (aCons (eVar 5) aNil)) (eBin addV (eVar 3) (eC (.int 1))))) (eB (eBin (inM true) (eVar 6) (eCall mkTup (aCons (eC (.str [110, 117, 109])) (aCons (eC (.str [114, 111, 119])) aNil)))))) (sSet 4 (eBin addV (eVar 4) (eLc lcV (iSeq (eBin ixM (eCall dictM (aCons (eVar 0) aNil)) (eVar 6))) (gN 8) tYesM (eCall mkTup (aCons (eBin addV (eVar 5) (eCall mkTup (aCons (eBin ixM (eVar 8) (eC (.int 0))) aNil))) (aCons (eBin ixM (eVar 8) (eC (.int 1))) aNil))) [8]))) sNext)
noncomputable def L0__law_ways (n : Nat) : Rho → M Fl :=
  (sSeq (sSet 4 (eCall mkLst aNil))
  (sSeq (sFor (iSeq (eVar 2)) (gT 2 (gsCons (gN 5) (gsCons (gN 6) gsNil))) (L1__law_ways n))
  (sSet 2 (eBin addV (eVar 2) (eVar 4)))))
theorem zL0__law_ways {n : Nat} {ρ : Rho} {st : Sto} {Q : Fl → Sto → Prop} {E : Exn → Sto → Prop} : Z (L0__law_ways n ρ st) Q E = Z ((sSeq (sSet 4 (eCall mkLst aNil))   (sSeq (sFor (iSeq (eVar 2)) (gT 2 (gsCons (gN 5) (gsCons (gN 6) gsNil))) (L1__law_ways n))   (sSet 2 (eBin addV (eVar 2) (eVar 4))))) ρ st) Q E := by unfold L0__law_ways; rfl
theorem zL1__law_ways {n : Nat} {ρ : Rho} {st : Sto} {Q : Fl → Sto → Prop} {E : Exn → Sto → Prop} : Z (L1__law_ways n ρ st) Q E = Z ((sIf (tAndM (eB (eBin eqM (eCall lenM (aCons (eVar 5) aNil)) (eBin addV (eVar 3) (eC (.int 1))))) (eB (eBin (inM true) (eVar 6) (eCall mkTup (aCons (eC (.str [110, 117, 109])) (aCons (eC (.str [114, 111, 119])) aNil)))))) (sSet 4 (eBin addV (eVar 4) (eLc lcV (iSeq (eBin ixM (eCall dictM (aCons (eVar 0) aNil)) (eVar 6))) (gN 8) tYesM (eCall mkTup (aCons (eBin addV (eVar 5) (eCall mkTup (aCons (eBin ixM (eVar 8) (eC (.int 0))) aNil))) (aCons (eBin ixM (eVar 8) (eC (.int 1))) aNil))) [8]))) sNext) ρ st) Q E := by unfold L1__law_ways; rfl
noncomputable def b__law_ways (n : Nat) : Rho → M Fl :=
  (sSeq (sSet 2 (eLc lcV (iSeq (eCall sortedM (aCons (eVar 1) aNil))) (gN 7) tYesM (eCall mkTup (aCons (eCall mkTup (aCons (eVar 7) aNil)) (aCons (eBin ixM (eVar 1) (eVar 7)) aNil))) [7]))
  (sSeq (sFor (iCall range1 (aCons (eC (.int 2)) aNil)) (gN 3) (L0__law_ways n))
  (sRet (eVar 2))))
@[irreducible] noncomputable def F__law_ways (n : Nat) : List PV → M PV := runB (b__law_ways n) 9
theorem z__law_ways {n : Nat} {p0 p1 : PV} {st : Sto} {Q : PV → Sto → Prop} {E : Exn → Sto → Prop} : Z (F__law_ways n [p0, p1] st) Q E = Z (b__law_ways n [some p0, some p1, none, none, none, none, none, none, none] st) (runQ Q E) E0 := by unfold F__law_ways; exact Z_run rfl
noncomputable def L1__law_forms (n : Nat) : Rho → M Fl :=
  (sIf (tAndM (eB (eBin eqM (eVar 5) (eVar 1))) (eB (eBin gtI (eBin ixM (eVar 0) (eC (.str [119, 97, 121, 115]))) (eC (.int 0))))) (sDrop (eMeth "list" appendM (eVar 2) (aCons (eCall mkTup (aCons (eC (.str [99, 97, 108, 108])) (aCons (eVar 3) (aCons (eLc lcV (iSeq (eWk (eVar 6))) (gN 8) tYesM (eBin ixM (eVar 8) (eC (.int 1))) [8]) aNil)))) aNil))) sNext)
noncomputable def L0__law_forms (n : Nat) : Rho → M Fl :=
  (sIf (eB (eBin eqM (eVar 3) (eVar 1))) (sDrop (eMeth "list" appendM (eVar 2) (aCons (eCall mkTup (aCons (eC (.str [110, 101, 119])) (aCons (eVar 3) (aCons (eLc lcV (iSeq (eVar 4)) (gN 8) tYesM (eBin ixM (eVar 8) (eC (.int 1))) [8]) aNil)))) aNil))) sNext)
theorem zL0__law_forms {n : Nat} {ρ : Rho} {st : Sto} {Q : Fl → Sto → Prop} {E : Exn → Sto → Prop} : Z (L0__law_forms n ρ st) Q E = Z ((sIf (eB (eBin eqM (eVar 3) (eVar 1))) (sDrop (eMeth "list" appendM (eVar 2) (aCons (eCall mkTup (aCons (eC (.str [110, 101, 119])) (aCons (eVar 3) (aCons (eLc lcV (iSeq (eVar 4)) (gN 8) tYesM (eBin ixM (eVar 8) (eC (.int 1))) [8]) aNil)))) aNil))) sNext) ρ st) Q E := by unfold L0__law_forms; rfl
theorem zL1__law_forms {n : Nat} {ρ : Rho} {st : Sto} {Q : Fl → Sto → Prop} {E : Exn → Sto → Prop} : Z (L1__law_forms n ρ st) Q E = Z ((sIf (tAndM (eB (eBin eqM (eVar 5) (eVar 1))) (eB (eBin gtI (eBin ixM (eVar 0) (eC (.str [119, 97, 121, 115]))) (eC (.int 0))))) (sDrop (eMeth "list" appendM (eVar 2) (aCons (eCall mkTup (aCons (eC (.str [99, 97, 108, 108])) (aCons (eVar 3) (aCons (eLc lcV (iSeq (eWk (eVar 6))) (gN 8) tYesM (eBin ixM (eVar 8) (eC (.int 1))) [8]) aNil)))) aNil))) sNext) ρ st) Q E := by unfold L1__law_forms; rfl
noncomputable def b__law_forms (n : Nat) : Rho → M Fl :=
  (sSeq (sSet 2 (eCall mkLstN aNil))
  (sSeq (sIf (eB (eBin eqM (eVar 1) (eC (.str [110, 117, 109])))) (sSeq (sSet 2 (eLc lcN (iSeq (eCall mkLst (aCons (eC (.str [97, 100, 100])) (aCons (eC (.str [115, 117, 98])) (aCons (eC (.str [109, 117, 108])) (aCons (eC (.str [100, 105, 118])) (aCons (eC (.str [114, 101, 115, 116])) (aCons (eC (.str [108, 101, 115, 115])) (aCons (eC (.str [115, 97, 109, 101])) aNil))))))))) (gN 7) tYesM (eCall mkTup (aCons (eVar 7) (aCons (eCall mkLst (aCons (eC (.str [110, 117, 109])) (aCons (eC (.str [110, 117, 109])) aNil))) aNil))) [7]))
  (sSeq (sSet 2 (eBin addN (eVar 2) (eCall mkLst (aCons (eCall mkTup (aCons (eC (.str [112, 105, 99, 107])) (aCons (eCall mkLst (aCons (eC (.str [110, 117, 109])) (aCons (eC (.str [110, 117, 109])) (aCons (eC (.str [110, 117, 109])) aNil)))) aNil))) (aCons (eCall mkTup (aCons (eC (.str [97, 116])) (aCons (eCall mkLst (aCons (eC (.str [114, 111, 119])) (aCons (eC (.str [110, 117, 109])) aNil))) aNil))) (aCons (eCall mkTup (aCons (eC (.str [115, 105, 122, 101])) (aCons (eCall mkLst (aCons (eC (.str [114, 111, 119])) aNil)) aNil))) aNil))))))
  (sSeq (sDrop (eMeth "list" appendM (eVar 2) (aCons (eCall mkTup (aCons (eC (.str [110, 111, 116])) (aCons (eCall mkLst (aCons (eC (.str [110, 117, 109])) aNil)) aNil))) aNil)))
  (sIf (eB (eBin gtI (eBin ixM (eVar 0) (eC (.str [119, 97, 121, 115]))) (eC (.int 0)))) (sSet 2 (eBin addN (eVar 2) (eCall mkLst (aCons (eCall mkTup (aCons (eC (.str [97, 110, 100])) (aCons (eCall mkLst (aCons (eC (.str [110, 117, 109])) (aCons (eC (.str [110, 117, 109])) aNil))) aNil))) (aCons (eCall mkTup (aCons (eC (.str [111, 114])) (aCons (eCall mkLst (aCons (eC (.str [110, 117, 109])) (aCons (eC (.str [110, 117, 109])) aNil))) aNil))) aNil))))) sNext)))) sNext)
  (sSeq (sIf (eB (eBin eqM (eVar 1) (eC (.str [114, 111, 119])))) (sSet 2 (eCall mkLstN (aCons (eCall mkTup (aCons (eC (.str [112, 117, 116])) (aCons (eCall mkLst (aCons (eC (.str [114, 111, 119])) (aCons (eC (.str [110, 117, 109])) (aCons (eC (.str [110, 117, 109])) aNil)))) aNil))) (aCons (eCall mkTup (aCons (eC (.str [109, 97, 110, 121])) (aCons (eCall mkLst (aCons (eC (.str [110, 117, 109])) (aCons (eC (.str [110, 117, 109])) aNil))) aNil))) (aCons (eCall mkTup (aCons (eC (.str [109, 97, 107, 101])) (aCons (eCall mkLst (aCons (eC (.str [110, 117, 109])) aNil)) aNil))) (aCons (eCall mkTup (aCons (eC (.str [109, 97, 107, 101])) (aCons (eBin mulL (eCall mkLst (aCons (eC (.str [110, 117, 109])) aNil)) (eC (.int 8))) aNil))) aNil)))))) sNext)
  (sSeq (sForC id (iCell (eBin ixM (eVar 0) (eC (.str [114, 101, 99, 111, 114, 100, 115])))) (gT 2 (gsCons (gN 3) (gsCons (gN 4) gsNil))) (L0__law_forms n))
  (sSeq (sForC id (iCell (eBin ixM (eVar 0) (eC (.str [104, 101, 97, 100, 115])))) (gT 3 (gsCons (gN 3) (gsCons (gN 5) (gsCons (gN 6) gsNil)))) (L1__law_forms n))
  (sRet (eVar 2)))))))
@[irreducible] noncomputable def F__law_forms (n : Nat) : List PV → M PV := runB (b__law_forms n) 9
theorem z__law_forms {n : Nat} {p0 p1 : PV} {st : Sto} {Q : PV → Sto → Prop} {E : Exn → Sto → Prop} : Z (F__law_forms n [p0, p1] st) Q E = Z (b__law_forms n [some p0, some p1, none, none, none, none, none, none, none] st) (runQ Q E) E0 := by unfold F__law_forms; exact Z_run rfl
noncomputable def b__law_plain (n : Nat) (fr__law_plain : List PV → M PV) : Rho → M Fl :=
  (sSeq (sSet 3 (eLc lcV (iSeq (eCall (F__law_ways n) (aCons (eBin ixM (eVar 0) (eC (.str [114, 101, 99, 111, 114, 100, 115]))) (aCons (eVar 1) aNil)))) (gT 2 (gsCons (gN 5) (gsCons (gN 6) gsNil))) (eB (eBin eqM (eVar 6) (eVar 2))) (eVar 5) [5, 6]))
  (sSeq (sIf (tAndM (eB (eBin gtI (eCall lenM (aCons (eVar 3) aNil)) (eC (.int 0)))) (eB (eBin gtI (eCall (F__law_take n) (aCons (eBin ixM (eVar 0) (eC (.str [98, 111, 120]))) (aCons (eC (.int 4)) aNil))) (eC (.int 0))))) (sRet (eCall mkTup (aCons (eC (.str [111, 102])) (aCons (eBin ixM (eVar 3) (eCall (F__law_take n) (aCons (eBin ixM (eVar 0) (eC (.str [98, 111, 120]))) (aCons (eCall lenM (aCons (eVar 3) aNil)) aNil)))) aNil)))) sNext)
  (sSeq (sIf (eB (eBin eqM (eVar 2) (eC (.str [110, 117, 109])))) (sRet (eCall (F__law_number n) (aCons (eBin ixM (eVar 0) (eC (.str [98, 111, 120]))) aNil))) sNext)
  (sSeq (sIf (eB (eBin eqM (eVar 2) (eC (.str [114, 111, 119])))) (sRet (eCall mkTup (aCons (eC (.str [109, 97, 107, 101])) aNil))) sNext)
  (sSeq (sSet 4 (eBin ixM (eCall dictM (aCons (eBin ixM (eVar 0) (eC (.str [114, 101, 99, 111, 114, 100, 115]))) aNil)) (eVar 2)))
  (sRet (eBin addV (eCall mkTup (aCons (eC (.str [110, 101, 119])) (aCons (eVar 2) aNil))) (eCall tupleM (aCons (eLc lcV (iSeq (eVar 4)) (gN 6) tYesM (eCall fr__law_plain (aCons (eVar 0) (aCons (eVar 1) (aCons (eBin ixM (eVar 6) (eC (.int 1))) aNil)))) [6]) aNil)))))))))
noncomputable def G__law_plain (n : Nat) : Nat → List PV → M PV
  | 0 => fun _ => M.fail
  | d + 1 => runB (b__law_plain n (G__law_plain n d)) 7
@[irreducible] noncomputable def F__law_plain (n d : Nat) : List PV → M PV := G__law_plain n d
theorem z__law_plain {n d : Nat} {p0 p1 p2 : PV} {st : Sto} {Q : PV → Sto → Prop} {E : Exn → Sto → Prop} : Z (F__law_plain n (d + 1) [p0, p1, p2] st) Q E = Z (b__law_plain n (F__law_plain n d) [some p0, some p1, some p2, none, none, none, none] st) (runQ Q E) E0 := by unfold F__law_plain; exact Z_run rfl
noncomputable def L1__law_expr (n : Nat) (fr__law_expr : List PV → M PV) : Rho → M Fl :=
  (sSeq (sSet 6 (eBin subV (eVar 6) (eCall (F__law_least n 20) (aCons (eBin ixM (eVar 0) (eC (.str [114, 101, 99, 111, 114, 100, 115]))) (aCons (eVar 8) aNil)))))
  (sSeq (sSet 9 (eCall fr__law_expr (aCons (eVar 0) (aCons (eVar 1) (aCons (eVar 8) (aCons (eBin subV (eVar 3) (eVar 6)) aNil))))))
  (sSeq (sDrop (eMeth "list" appendM (eVar 7) (aCons (eVar 9) aNil)))
  (sSet 6 (eBin addV (eVar 6) (eCall lenM (aCons (eCall (F__law_words_of n 20) (aCons (eVar 9) aNil)) aNil)))))))
noncomputable def L0__law_expr (n : Nat) (fr__law_expr : List PV → M PV) : Rho → M Fl :=
  (sSeq (sSet 6 (eBin addV (eBin subV (eCall lenM (aCons (eVar 5) aNil)) (eC (.int 1))) (eCall sumM (aCons (eLc lcV (iSeq (eBin ixM (eVar 5) (eUn negV (eC (.int 1))))) (gN 8) tYesM (eCall (F__law_least n 20) (aCons (eBin ixM (eVar 0) (eC (.str [114, 101, 99, 111, 114, 100, 115]))) (aCons (eVar 8) aNil))) [8]) aNil))))
  (sSeq (sSet 6 (eBin addV (eVar 6) (eCall intM (aCons (eBin (inM false) (eBin ixM (eVar 5) (eC (.int 0))) (eCall mkTup (aCons (eC (.str [109, 97, 107, 101])) (aCons (eC (.str [99, 97, 108, 108])) (aCons (eC (.str [110, 101, 119])) aNil))))) aNil))))
  (sIf (eB (eBin leI (eVar 6) (eVar 3))) (sDrop (eMeth "list" appendM (eVar 4) (aCons (eCall mkTup (aCons (eVar 5) (aCons (eVar 6) aNil))) aNil))) sNext)))
theorem zL0__law_expr {n : Nat} {fr__law_expr : List PV → M PV} {ρ : Rho} {st : Sto} {Q : Fl → Sto → Prop} {E : Exn → Sto → Prop} : Z (L0__law_expr n fr__law_expr ρ st) Q E = Z ((sSeq (sSet 6 (eBin addV (eBin subV (eCall lenM (aCons (eVar 5) aNil)) (eC (.int 1))) (eCall sumM (aCons (eLc lcV (iSeq (eBin ixM (eVar 5) (eUn negV (eC (.int 1))))) (gN 8) tYesM (eCall (F__law_least n 20) (aCons (eBin ixM (eVar 0) (eC (.str [114, 101, 99, 111, 114, 100, 115]))) (aCons (eVar 8) aNil))) [8]) aNil))))   (sSeq (sSet 6 (eBin addV (eVar 6) (eCall intM (aCons (eBin (inM false) (eBin ixM (eVar 5) (eC (.int 0))) (eCall mkTup (aCons (eC (.str [109, 97, 107, 101])) (aCons (eC (.str [99, 97, 108, 108])) (aCons (eC (.str [110, 101, 119])) aNil))))) aNil))))   (sIf (eB (eBin leI (eVar 6) (eVar 3))) (sDrop (eMeth "list" appendM (eVar 4) (aCons (eCall mkTup (aCons (eVar 5) (aCons (eVar 6) aNil))) aNil))) sNext))) ρ st) Q E := by unfold L0__law_expr; rfl
theorem zL1__law_expr {n : Nat} {fr__law_expr : List PV → M PV} {ρ : Rho} {st : Sto} {Q : Fl → Sto → Prop} {E : Exn → Sto → Prop} : Z (L1__law_expr n fr__law_expr ρ st) Q E = Z ((sSeq (sSet 6 (eBin subV (eVar 6) (eCall (F__law_least n 20) (aCons (eBin ixM (eVar 0) (eC (.str [114, 101, 99, 111, 114, 100, 115]))) (aCons (eVar 8) aNil)))))   (sSeq (sSet 9 (eCall fr__law_expr (aCons (eVar 0) (aCons (eVar 1) (aCons (eVar 8) (aCons (eBin subV (eVar 3) (eVar 6)) aNil))))))   (sSeq (sDrop (eMeth "list" appendM (eVar 7) (aCons (eVar 9) aNil)))   (sSet 6 (eBin addV (eVar 6) (eCall lenM (aCons (eCall (F__law_words_of n 20) (aCons (eVar 9) aNil)) aNil))))))) ρ st) Q E := by unfold L1__law_expr; rfl
noncomputable def b__law_expr (n : Nat) (fr__law_expr : List PV → M PV) : Rho → M Fl :=
  (sSeq (sSet 4 (eCall mkLstN aNil))
  (sSeq (sForC id (iCell (eCall (F__law_forms n) (aCons (eVar 0) (aCons (eVar 2) aNil)))) (gN 5) (L0__law_expr n fr__law_expr))
  (sSeq (sIf (tOrM (eB (eBin eqM (eVar 4) (eCall mkLst aNil))) (eB (eBin eqM (eCall (F__law_take n) (aCons (eBin ixM (eVar 0) (eC (.str [98, 111, 120]))) (aCons (eC (.int 3)) aNil))) (eC (.int 0))))) (sRet (eCall (F__law_plain n 20) (aCons (eVar 0) (aCons (eVar 1) (aCons (eVar 2) aNil))))) sNext)
  (sSeq (sAsg (eBin ixM (eVar 4) (eCall (F__law_take n) (aCons (eBin ixM (eVar 0) (eC (.str [98, 111, 120]))) (aCons (eCall lenM (aCons (eVar 4) aNil)) aNil)))) (gT 2 (gsCons (gN 5) (gsCons (gN 6) gsNil))))
  (sSeq (sIf (eB (eBin (inM false) (eBin ixM (eVar 5) (eC (.int 0))) (eCall mkTup (aCons (eC (.str [97, 110, 100])) (aCons (eC (.str [111, 114])) (aCons (eC (.str [99, 97, 108, 108])) aNil)))))) (sAsg (eBin subV (eBin ixM (eVar 0) (eC (.str [119, 97, 121, 115]))) (eC (.int 1))) (gSubM (eVar 0) (eC (.str [119, 97, 121, 115])))) sNext)
  (sSeq (sSet 7 (eCall mkLstN aNil))
  (sSeq (sFor (iSeq (eBin ixM (eVar 5) (eUn negV (eC (.int 1))))) (gN 8) (L1__law_expr n fr__law_expr))
  (sRet (eBin addV (eSl slM (eVar 5) oNone (oSome (eUn negV (eC (.int 1))))) (eCall tupleM (aCons (eVar 7) aNil)))))))))))
noncomputable def G__law_expr (n : Nat) : Nat → List PV → M PV
  | 0 => fun _ => M.fail
  | d + 1 => runB (b__law_expr n (G__law_expr n d)) 10
@[irreducible] noncomputable def F__law_expr (n d : Nat) : List PV → M PV := G__law_expr n d
theorem z__law_expr {n d : Nat} {p0 p1 p2 p3 : PV} {st : Sto} {Q : PV → Sto → Prop} {E : Exn → Sto → Prop} : Z (F__law_expr n (d + 1) [p0, p1, p2, p3] st) Q E = Z (b__law_expr n (F__law_expr n d) [some p0, some p1, some p2, some p3, none, none, none, none, none, none] st) (runQ Q E) E0 := by unfold F__law_expr; exact Z_run rfl
noncomputable def b__law_let (n : Nat) : Rho → M Fl :=
  (sSeq (sAsg (eBin subV (eBin ixM (eVar 0) (eC (.str [115, 116, 97, 116, 101, 109, 101, 110, 116, 115]))) (eC (.int 1))) (gSubM (eVar 0) (eC (.str [115, 116, 97, 116, 101, 109, 101, 110, 116, 115]))))
  (sSeq (sAsg (eBin subV (eBin ixM (eVar 0) (eC (.str [108, 101, 116, 115]))) (eC (.int 1))) (gSubM (eVar 0) (eC (.str [108, 101, 116, 115]))))
  (sSeq (sSet 2 (eBin ixM (eCall mkLst (aCons (eC (.str [98])) (aCons (eC (.str [108, 101, 116, 116, 101, 114])) (aCons (eC (.str [99])) (aCons (eC (.str [114, 111, 119, 115])) (aCons (eC (.str [113])) aNil)))))) (eBin ixM (eVar 0) (eC (.str [108, 101, 116, 115])))))
  (sSeq (sSet 3 (eCall (F__law_kind n) (aCons (eBin ixM (eVar 0) (eC (.str [98, 111, 120]))) (aCons (eBin ixM (eVar 0) (eC (.str [114, 101, 99, 111, 114, 100, 115]))) aNil))))
  (sSeq (sSet 4 (eCall (F__law_expr n 20) (aCons (eVar 0) (aCons (eVar 1) (aCons (eVar 3) (aCons (eC (.int 12)) aNil))))))
  (sSeq (sAsg (eVar 3) (gSubM (eVar 1) (eVar 2)))
  (sRet (eCall mkTup (aCons (eC (.str [108, 101, 116])) (aCons (eVar 2) (aCons (eVar 4) aNil)))))))))))
@[irreducible] noncomputable def F__law_let (n : Nat) : List PV → M PV := runB (b__law_let n) 5
theorem z__law_let {n : Nat} {p0 p1 : PV} {st : Sto} {Q : PV → Sto → Prop} {E : Exn → Sto → Prop} : Z (F__law_let n [p0, p1] st) Q E = Z (b__law_let n [some p0, some p1, none, none, none] st) (runQ Q E) E0 := by unfold F__law_let; exact Z_run rfl
noncomputable def b__law_within (n : Nat) (fr__law_within : List PV → M PV) (fr__law_statement : List PV → M PV) (fr__law_both : List PV → M PV) (fr__law_body : List PV → M PV) : Rho → M Fl :=
  (sSeq (sAsg (eBin subV (eBin ixM (eVar 0) (eC (.str [119, 97, 121, 115]))) (eC (.int 1))) (gSubM (eVar 0) (eC (.str [119, 97, 121, 115]))))
  (sSeq (sSet 5 (eCall (F__law_expr n 20) (aCons (eVar 0) (aCons (eVar 1) (aCons (eC (.str [110, 117, 109])) (aCons (eC (.int 12)) aNil))))))
  (sSeq (sSet 6 (eBin eqM (eCall (F__law_take n) (aCons (eBin ixM (eVar 0) (eC (.str [98, 111, 120]))) (aCons (eC (.int 4)) aNil))) (eC (.int 0))))
  (sSeq (sSet 7 (eCall fr__law_body (aCons (eVar 0) (aCons (eCall dictM (aCons (eVar 1) aNil)) (aCons (eVar 2) (aCons (eBin addV (eVar 3) (eC (.int 1))) (aCons (eVar 6) aNil)))))))
  (sSeq (sIf (eB (eBin eqM (eVar 4) (eC (.str [119, 104, 105, 108, 101])))) (sRet (eCall mkTup (aCons (eC (.str [119, 104, 105, 108, 101])) (aCons (eVar 5) (aCons (eVar 7) aNil))))) sNext)
  (sSeq (sSet 8 (eCall mkTup aNil))
  (sSeq (sIf (eB (eBin eqM (eCall (F__law_take n) (aCons (eBin ixM (eVar 0) (eC (.str [98, 111, 120]))) (aCons (eC (.int 2)) aNil))) (eC (.int 0)))) (sSet 8 (eCall fr__law_body (aCons (eVar 0) (aCons (eCall dictM (aCons (eVar 1) aNil)) (aCons (eVar 2) (aCons (eBin addV (eVar 3) (eC (.int 1))) (aCons (eAndV (eNotV (eVar 6)) (eBin eqM (eCall (F__law_take n) (aCons (eBin ixM (eVar 0) (eC (.str [98, 111, 120]))) (aCons (eC (.int 4)) aNil))) (eC (.int 0)))) aNil))))))) sNext)
  (sRet (eCall mkTup (aCons (eC (.str [105, 102])) (aCons (eVar 5) (aCons (eVar 7) (aCons (eVar 8) aNil)))))))))))))
noncomputable def b__law_statement (n : Nat) (fr__law_within : List PV → M PV) (fr__law_statement : List PV → M PV) (fr__law_both : List PV → M PV) (fr__law_body : List PV → M PV) : Rho → M Fl :=
  (sSeq (sSet 4 (eCall (F__law_take n) (aCons (eBin ixM (eVar 0) (eC (.str [98, 111, 120]))) (aCons (eC (.int 6)) aNil))))
  (sSeq (sIf (tAndM (eB (eBin eqM (eVar 4) (eC (.int 0)))) (eB (eBin gtI (eBin ixM (eVar 0) (eC (.str [108, 101, 116, 115]))) (eC (.int 0))))) (sRet (eCall (F__law_let n) (aCons (eVar 0) (aCons (eVar 1) aNil)))) sNext)
  (sSeq (sAsg (eBin subV (eBin ixM (eVar 0) (eC (.str [115, 116, 97, 116, 101, 109, 101, 110, 116, 115]))) (eC (.int 1))) (gSubM (eVar 0) (eC (.str [115, 116, 97, 116, 101, 109, 101, 110, 116, 115]))))
  (sSeq (sIf (tAndM (eB (eBin (inM false) (eVar 4) (eCall mkTup (aCons (eC (.int 1)) (aCons (eC (.int 2)) aNil))))) (tAndM (eB (eBin gtI (eBin ixM (eVar 0) (eC (.str [119, 97, 121, 115]))) (eC (.int 0)))) (tAndM (eB (eBin ltI (eVar 3) (eC (.int 2)))) (eB (eBin gtI (eBin ixM (eVar 0) (eC (.str [115, 116, 97, 116, 101, 109, 101, 110, 116, 115]))) (eC (.int 7))))))) (sRet (eCall fr__law_within (aCons (eVar 0) (aCons (eVar 1) (aCons (eVar 2) (aCons (eVar 3) (aCons (eBin ixM (eCall mkLst (aCons (eC (.str [105, 102])) (aCons (eC (.str [119, 104, 105, 108, 101])) aNil))) (eBin subV (eVar 4) (eC (.int 1)))) aNil))))))) sNext)
  (sSeq (sSet 5 (eCall (F__law_ways n) (aCons (eBin ixM (eVar 0) (eC (.str [114, 101, 99, 111, 114, 100, 115]))) (aCons (eVar 1) aNil))))
  (sSeq (sAsg (eBin ixM (eVar 5) (eCall (F__law_take n) (aCons (eBin ixM (eVar 0) (eC (.str [98, 111, 120]))) (aCons (eCall lenM (aCons (eVar 5) aNil)) aNil)))) (gT 2 (gsCons (gN 6) (gsCons (gN 7) gsNil))))
  (sSeq (sIf (tAndM (eB (eBin eqM (eVar 7) (eC (.str [114, 111, 119])))) (eB (eBin gtI (eVar 4) (eC (.int 2))))) (sSeq (sSet 8 (eCall (F__law_expr n 20) (aCons (eVar 0) (aCons (eVar 1) (aCons (eC (.str [110, 117, 109])) (aCons (eC (.int 6)) aNil))))))
  (sRet (eCall mkTup (aCons (eC (.str [112, 117, 116])) (aCons (eVar 6) (aCons (eVar 8) (aCons (eCall (F__law_expr n 20) (aCons (eVar 0) (aCons (eVar 1) (aCons (eC (.str [110, 117, 109])) (aCons (eC (.int 6)) aNil))))) aNil))))))) sNext)
  (sRet (eCall mkTup (aCons (eC (.str [115, 101, 116])) (aCons (eVar 6) (aCons (eCall (F__law_expr n 20) (aCons (eVar 0) (aCons (eVar 1) (aCons (eVar 7) (aCons (eC (.int 12)) aNil))))) aNil))))))))))))
noncomputable def b__law_both (n : Nat) (fr__law_within : List PV → M PV) (fr__law_statement : List PV → M PV) (fr__law_both : List PV → M PV) (fr__law_body : List PV → M PV) : Rho → M Fl :=
  (sSeq (sAsg (eBin subV (eBin ixM (eVar 0) (eC (.str [119, 97, 121, 115]))) (eC (.int 1))) (gSubM (eVar 0) (eC (.str [119, 97, 121, 115]))))
  (sSeq (sAsg (eBin subV (eBin ixM (eVar 0) (eC (.str [115, 116, 97, 116, 101, 109, 101, 110, 116, 115]))) (eC (.int 1))) (gSubM (eVar 0) (eC (.str [115, 116, 97, 116, 101, 109, 101, 110, 116, 115]))))
  (sSeq (sSet 4 (eCall (F__law_expr n 20) (aCons (eVar 0) (aCons (eVar 1) (aCons (eC (.str [110, 117, 109])) (aCons (eC (.int 12)) aNil))))))
  (sSeq (sSet 5 (eCall fr__law_body (aCons (eVar 0) (aCons (eCall dictM (aCons (eVar 1) aNil)) (aCons (eVar 2) (aCons (eBin addV (eVar 3) (eC (.int 1))) (aCons (eC (.bl true)) aNil)))))))
  (sRet (eCall mkTup (aCons (eC (.str [105, 102])) (aCons (eVar 4) (aCons (eVar 5) (aCons (eCall fr__law_body (aCons (eVar 0) (aCons (eCall dictM (aCons (eVar 1) aNil)) (aCons (eVar 2) (aCons (eBin addV (eVar 3) (eC (.int 1))) (aCons (eC (.bl true)) aNil)))))) aNil))))))))))
noncomputable def L0__law_body (n : Nat) (fr__law_within : List PV → M PV) (fr__law_statement : List PV → M PV) (fr__law_both : List PV → M PV) (fr__law_body : List PV → M PV) : Rho → M Fl :=
  (sIf (eB (eBin gtI (eBin ixM (eVar 0) (eC (.str [115, 116, 97, 116, 101, 109, 101, 110, 116, 115]))) (eC (.int 6)))) (sDrop (eMeth "list" appendM (eVar 5) (aCons (eCall fr__law_statement (aCons (eVar 0) (aCons (eVar 1) (aCons (eVar 2) (aCons (eVar 3) aNil))))) aNil))) sNext)
theorem zL0__law_body {n : Nat} {fr__law_within : List PV → M PV} {fr__law_statement : List PV → M PV} {fr__law_both : List PV → M PV} {fr__law_body : List PV → M PV} {ρ : Rho} {st : Sto} {Q : Fl → Sto → Prop} {E : Exn → Sto → Prop} : Z (L0__law_body n fr__law_within fr__law_statement fr__law_both fr__law_body ρ st) Q E = Z ((sIf (eB (eBin gtI (eBin ixM (eVar 0) (eC (.str [115, 116, 97, 116, 101, 109, 101, 110, 116, 115]))) (eC (.int 6)))) (sDrop (eMeth "list" appendM (eVar 5) (aCons (eCall fr__law_statement (aCons (eVar 0) (aCons (eVar 1) (aCons (eVar 2) (aCons (eVar 3) aNil))))) aNil))) sNext) ρ st) Q E := by unfold L0__law_body; rfl
noncomputable def b__law_body (n : Nat) (fr__law_within : List PV → M PV) (fr__law_statement : List PV → M PV) (fr__law_both : List PV → M PV) (fr__law_body : List PV → M PV) : Rho → M Fl :=
  (sSeq (sSet 5 (eCall mkLstN aNil))
  (sSeq (sFor (iCall range1 (aCons (eCall (F__law_take n) (aCons (eBin ixM (eVar 0) (eC (.str [98, 111, 120]))) (aCons (eC (.int 4)) aNil))) aNil)) (gN 6) (L0__law_body n fr__law_within fr__law_statement fr__law_both fr__law_body))
  (sSeq (sIf (tAndM (eB (eVar 4)) (tAndM (eB (eBin ltI (eVar 3) (eC (.int 2)))) (tAndM (eB (eBin gtI (eBin ixM (eVar 0) (eC (.str [119, 97, 121, 115]))) (eC (.int 0)))) (tAndM (eB (eBin gtI (eBin ixM (eVar 0) (eC (.str [115, 116, 97, 116, 101, 109, 101, 110, 116, 115]))) (eC (.int 8)))) (eB (eBin eqM (eCall (F__law_take n) (aCons (eBin ixM (eVar 0) (eC (.str [98, 111, 120]))) (aCons (eC (.int 3)) aNil))) (eC (.int 0)))))))) (sDrop (eMeth "list" appendM (eVar 5) (aCons (eCall fr__law_both (aCons (eVar 0) (aCons (eVar 1) (aCons (eVar 2) (aCons (eVar 3) aNil))))) aNil))) (sIf (eB (eVar 4)) (sSeq (sAsg (eBin subV (eBin ixM (eVar 0) (eC (.str [115, 116, 97, 116, 101, 109, 101, 110, 116, 115]))) (eC (.int 1))) (gSubM (eVar 0) (eC (.str [115, 116, 97, 116, 101, 109, 101, 110, 116, 115]))))
  (sDrop (eMeth "list" appendM (eVar 5) (aCons (eCall mkTup (aCons (eC (.str [103, 105, 118, 101])) (aCons (eCall (F__law_expr n 20) (aCons (eVar 0) (aCons (eVar 1) (aCons (eVar 2) (aCons (eC (.int 12)) aNil))))) aNil))) aNil)))) sNext))
  (sSeq (sIf (eB (eBin eqM (eVar 5) (eCall mkLst aNil))) (sSeq (sAsg (eBin subV (eBin ixM (eVar 0) (eC (.str [115, 116, 97, 116, 101, 109, 101, 110, 116, 115]))) (eC (.int 1))) (gSubM (eVar 0) (eC (.str [115, 116, 97, 116, 101, 109, 101, 110, 116, 115]))))
  (sSeq (sAsg (eBin ixM (eCall (F__law_ways n) (aCons (eBin ixM (eVar 0) (eC (.str [114, 101, 99, 111, 114, 100, 115]))) (aCons (eVar 1) aNil))) (eC (.int 0))) (gT 2 (gsCons (gN 7) (gsCons (gN 8) gsNil))))
  (sDrop (eMeth "list" appendM (eVar 5) (aCons (eCall mkTup (aCons (eC (.str [115, 101, 116])) (aCons (eVar 7) (aCons (eCall (F__law_plain n 20) (aCons (eVar 0) (aCons (eVar 1) (aCons (eVar 8) aNil)))) aNil)))) aNil))))) sNext)
  (sRet (eCall tupleM (aCons (eVar 5) aNil)))))))
mutual
noncomputable def G__law_within (n : Nat) : Nat → List PV → M PV
  | 0 => fun _ => M.fail
  | d + 1 => runB (b__law_within n (G__law_within n d) (G__law_statement n d) (G__law_both n d) (G__law_body n d)) 9
noncomputable def G__law_statement (n : Nat) : Nat → List PV → M PV
  | 0 => fun _ => M.fail
  | d + 1 => runB (b__law_statement n (G__law_within n d) (G__law_statement n d) (G__law_both n d) (G__law_body n d)) 9
noncomputable def G__law_both (n : Nat) : Nat → List PV → M PV
  | 0 => fun _ => M.fail
  | d + 1 => runB (b__law_both n (G__law_within n d) (G__law_statement n d) (G__law_both n d) (G__law_body n d)) 6
noncomputable def G__law_body (n : Nat) : Nat → List PV → M PV
  | 0 => fun _ => M.fail
  | d + 1 => runB (b__law_body n (G__law_within n d) (G__law_statement n d) (G__law_both n d) (G__law_body n d)) 9
end
@[irreducible] noncomputable def F__law_within (n d : Nat) : List PV → M PV := G__law_within n d
@[irreducible] noncomputable def F__law_statement (n d : Nat) : List PV → M PV := G__law_statement n d
@[irreducible] noncomputable def F__law_both (n d : Nat) : List PV → M PV := G__law_both n d
@[irreducible] noncomputable def F__law_body (n d : Nat) : List PV → M PV := G__law_body n d
theorem z__law_within {n d : Nat} {p0 p1 p2 p3 p4 : PV} {st : Sto} {Q : PV → Sto → Prop} {E : Exn → Sto → Prop} : Z (F__law_within n (d + 1) [p0, p1, p2, p3, p4] st) Q E = Z (b__law_within n (F__law_within n d) (F__law_statement n d) (F__law_both n d) (F__law_body n d) [some p0, some p1, some p2, some p3, some p4, none, none, none, none] st) (runQ Q E) E0 := by unfold F__law_within F__law_statement F__law_both F__law_body; rw [G__law_within]; exact Z_run rfl
theorem z__law_statement {n d : Nat} {p0 p1 p2 p3 : PV} {st : Sto} {Q : PV → Sto → Prop} {E : Exn → Sto → Prop} : Z (F__law_statement n (d + 1) [p0, p1, p2, p3] st) Q E = Z (b__law_statement n (F__law_within n d) (F__law_statement n d) (F__law_both n d) (F__law_body n d) [some p0, some p1, some p2, some p3, none, none, none, none, none] st) (runQ Q E) E0 := by unfold F__law_within F__law_statement F__law_both F__law_body; rw [G__law_statement]; exact Z_run rfl
theorem z__law_both {n d : Nat} {p0 p1 p2 p3 : PV} {st : Sto} {Q : PV → Sto → Prop} {E : Exn → Sto → Prop} : Z (F__law_both n (d + 1) [p0, p1, p2, p3] st) Q E = Z (b__law_both n (F__law_within n d) (F__law_statement n d) (F__law_both n d) (F__law_body n d) [some p0, some p1, some p2, some p3, none, none] st) (runQ Q E) E0 := by unfold F__law_within F__law_statement F__law_both F__law_body; rw [G__law_both]; exact Z_run rfl
theorem z__law_body {n d : Nat} {p0 p1 p2 p3 p4 : PV} {st : Sto} {Q : PV → Sto → Prop} {E : Exn → Sto → Prop} : Z (F__law_body n (d + 1) [p0, p1, p2, p3, p4] st) Q E = Z (b__law_body n (F__law_within n d) (F__law_statement n d) (F__law_both n d) (F__law_body n d) [some p0, some p1, some p2, some p3, some p4, none, none, none, none] st) (runQ Q E) E0 := by unfold F__law_within F__law_statement F__law_both F__law_body; rw [G__law_body]; exact Z_run rfl
noncomputable def L0__law_tree (n : Nat) : Rho → M Fl :=
  (sSeq (sSet 7 (eDct [((eC (.str [98, 111, 120])), (eVar 0)), ((eC (.str [114, 101, 99, 111, 114, 100, 115])), (eVar 1)), ((eC (.str [104, 101, 97, 100, 115])), (eVar 2)), ((eC (.str [119, 97, 121, 115])), (eC (.int 8))), ((eC (.str [108, 101, 116, 115])), (eC (.int 5))), ((eC (.str [115, 116, 97, 116, 101, 109, 101, 110, 116, 115])), (eC (.int 16)))]))
  (sSeq (sSet 8 (eCall dictX (aCons (eVar 6) aNil)))
  (sSeq (sSet 9 (eCall mkTup aNil))
  (sSeq (sIf (eB (eBin (eqG false) (eVar 8) eDct0)) (sSet 9 (eCall mkTup (aCons (eCall (F__law_let n) (aCons (eVar 7) (aCons (eVar 8) aNil))) aNil))) sNext)
  (sDrop (eMeth "list" appendM (eVar 3) (aCons (eCall mkTup (aCons (eVar 4) (aCons (eVar 5) (aCons (eWk (eVar 6)) (aCons (eBin addV (eVar 9) (eCall (F__law_body n 20) (aCons (eVar 7) (aCons (eVar 8) (aCons (eVar 5) (aCons (eC (.int 0)) (aCons (eC (.bl true)) aNil))))))) aNil))))) aNil)))))))
theorem zL0__law_tree {n : Nat} {ρ : Rho} {st : Sto} {Q : Fl → Sto → Prop} {E : Exn → Sto → Prop} : Z (L0__law_tree n ρ st) Q E = Z ((sSeq (sSet 7 (eDct [((eC (.str [98, 111, 120])), (eVar 0)), ((eC (.str [114, 101, 99, 111, 114, 100, 115])), (eVar 1)), ((eC (.str [104, 101, 97, 100, 115])), (eVar 2)), ((eC (.str [119, 97, 121, 115])), (eC (.int 8))), ((eC (.str [108, 101, 116, 115])), (eC (.int 5))), ((eC (.str [115, 116, 97, 116, 101, 109, 101, 110, 116, 115])), (eC (.int 16)))]))   (sSeq (sSet 8 (eCall dictX (aCons (eVar 6) aNil)))   (sSeq (sSet 9 (eCall mkTup aNil))   (sSeq (sIf (eB (eBin (eqG false) (eVar 8) eDct0)) (sSet 9 (eCall mkTup (aCons (eCall (F__law_let n) (aCons (eVar 7) (aCons (eVar 8) aNil))) aNil))) sNext)   (sDrop (eMeth "list" appendM (eVar 3) (aCons (eCall mkTup (aCons (eVar 4) (aCons (eVar 5) (aCons (eWk (eVar 6)) (aCons (eBin addV (eVar 9) (eCall (F__law_body n 20) (aCons (eVar 7) (aCons (eVar 8) (aCons (eVar 5) (aCons (eC (.int 0)) (aCons (eC (.bl true)) aNil))))))) aNil))))) aNil))))))) ρ st) Q E := by unfold L0__law_tree; rfl
noncomputable def b__law_tree (n : Nat) : Rho → M Fl :=
  (sSeq (sSet 1 (eCall (F__law_records n) (aCons (eVar 0) aNil)))
  (sSeq (sSet 2 (eCall (F__law_heads n) (aCons (eVar 0) (aCons (eVar 1) aNil))))
  (sSeq (sSet 3 (eCall mkLstN aNil))
  (sSeq (sForC id (iCell (eVar 2)) (gT 3 (gsCons (gN 4) (gsCons (gN 5) (gsCons (gN 6) gsNil)))) (L0__law_tree n))
  (sRet (eCall mkTup (aCons (eCall tupleM (aCons (eVar 1) aNil)) (aCons (eCall tupleM (aCons (eVar 3) aNil)) aNil))))))))
@[irreducible] noncomputable def F__law_tree (n : Nat) : List PV → M PV := runB (b__law_tree n) 10
theorem z__law_tree {n : Nat} {p0 : PV} {st : Sto} {Q : PV → Sto → Prop} {E : Exn → Sto → Prop} : Z (F__law_tree n [p0] st) Q E = Z (b__law_tree n [some p0, none, none, none, none, none, none, none, none, none] st) (runQ Q E) E0 := by unfold F__law_tree; exact Z_run rfl
noncomputable def L1_law (n : Nat) : Rho → M Fl :=
  (sSeq (sIf (eB (eBin neM (eCall (F_parts_of n 20) (aCons (eVar 2) (aCons (eVar 10) aNil))) (eCall (F__law_parts n 20) (aCons (eVar 3) (aCons (eVar 10) aNil))))) (sRet (eC (.bl false))) sNext)
  (sSeq (sIf (eB (eBin ltI (eCall (F__law_least n 20) (aCons (eVar 3) (aCons (eVar 10) aNil))) (eC (.int 13)))) (sSeq (sSet 11 (eCall (F__law_plain n 20) (aCons (eVar 9) (aCons (eVar 4) (aCons (eVar 10) aNil)))))
  (sIf (tOrM (eB (eBin neM (eCall (F_kind_of_expr n) (aCons (eVar 2) (aCons (eVar 6) (aCons (eVar 11) aNil)))) (eVar 10))) (eB (eBin (eqG true) (eVar 6) (eVar 4)))) (sRet (eC (.bl false))) sNext)) sNext)
  (sIf (eB (eBin ltI (eCall (F__law_least n 20) (aCons (eVar 3) (aCons (eVar 10) aNil))) (eC (.int 8)))) (sSeq (sSet 11 (eCall (F__law_expr n 20) (aCons (eVar 9) (aCons (eVar 4) (aCons (eVar 10) (aCons (eC (.int 12)) aNil))))))
  (sIf (tOrM (eB (eBin neM (eCall (F_kind_of_expr n) (aCons (eVar 2) (aCons (eVar 6) (aCons (eVar 11) aNil)))) (eVar 10))) (eB (eBin (eqG true) (eVar 6) (eVar 4)))) (sRet (eC (.bl false))) sNext)) sNext)))
noncomputable def L0_law (n : Nat) : Rho → M Fl :=
  (sAsg (eCall (F__law_kind n) (aCons (eVar 1) (aCons (eVar 3) aNil))) (gSubM (eVar 4) (eVar 5)))
theorem zL0_law {n : Nat} {ρ : Rho} {st : Sto} {Q : Fl → Sto → Prop} {E : Exn → Sto → Prop} : Z (L0_law n ρ st) Q E = Z ((sAsg (eCall (F__law_kind n) (aCons (eVar 1) (aCons (eVar 3) aNil))) (gSubM (eVar 4) (eVar 5))) ρ st) Q E := by unfold L0_law; rfl
theorem zL1_law {n : Nat} {ρ : Rho} {st : Sto} {Q : Fl → Sto → Prop} {E : Exn → Sto → Prop} : Z (L1_law n ρ st) Q E = Z ((sSeq (sIf (eB (eBin neM (eCall (F_parts_of n 20) (aCons (eVar 2) (aCons (eVar 10) aNil))) (eCall (F__law_parts n 20) (aCons (eVar 3) (aCons (eVar 10) aNil))))) (sRet (eC (.bl false))) sNext)   (sSeq (sIf (eB (eBin ltI (eCall (F__law_least n 20) (aCons (eVar 3) (aCons (eVar 10) aNil))) (eC (.int 13)))) (sSeq (sSet 11 (eCall (F__law_plain n 20) (aCons (eVar 9) (aCons (eVar 4) (aCons (eVar 10) aNil)))))   (sIf (tOrM (eB (eBin neM (eCall (F_kind_of_expr n) (aCons (eVar 2) (aCons (eVar 6) (aCons (eVar 11) aNil)))) (eVar 10))) (eB (eBin (eqG true) (eVar 6) (eVar 4)))) (sRet (eC (.bl false))) sNext)) sNext)   (sIf (eB (eBin ltI (eCall (F__law_least n 20) (aCons (eVar 3) (aCons (eVar 10) aNil))) (eC (.int 8)))) (sSeq (sSet 11 (eCall (F__law_expr n 20) (aCons (eVar 9) (aCons (eVar 4) (aCons (eVar 10) (aCons (eC (.int 12)) aNil))))))   (sIf (tOrM (eB (eBin neM (eCall (F_kind_of_expr n) (aCons (eVar 2) (aCons (eVar 6) (aCons (eVar 11) aNil)))) (eVar 10))) (eB (eBin (eqG true) (eVar 6) (eVar 4)))) (sRet (eC (.bl false))) sNext)) sNext))) ρ st) Q E := by unfold L1_law; rfl
noncomputable def b_law (n : Nat) : Rho → M Fl :=
  (sSeq (sSet 1 (eCall (F__law_box n) (aCons (eVar 0) aNil)))
  (sSeq (sSet 2 (eCall (F__law_tree n) (aCons (eVar 1) aNil)))
  (sSeq (sSet 3 (eCall listAN (aCons (eBin ixM (eVar 2) (eC (.int 0))) aNil)))
  (sSeq (sSet 4 eDct0)
  (sSeq (sFor (iSeq (eSl slM (eCall mkLst (aCons (eC (.str [98])) (aCons (eC (.str [108, 101, 116, 116, 101, 114])) (aCons (eC (.str [113])) (aCons (eC (.str [112, 97, 105, 114])) (aCons (eC (.str [120])) aNil)))))) oNone (oSome (eCall (F__law_take n) (aCons (eVar 1) (aCons (eC (.int 6)) aNil)))))) (gN 5) (L0_law n))
  (sSeq (sSet 6 (eCall dictM (aCons (eVar 4) aNil)))
  (sSeq (sSet 7 (eBin addV (eCall mkLst (aCons (eC (.str [110, 117, 109])) (aCons (eC (.str [114, 111, 119])) aNil))) (eLcC id lcV (iCell (eVar 3)) (gN 12) tYesM (eBin ixM (eVar 12) (eC (.int 0))) [12])))
  (sSeq (sSet 8 (eLc lcN (iSeq (eBin ixM (eVar 2) (eC (.int 1)))) (gN 12) tYesM (eSl slM (eVar 12) oNone (oSome (eC (.int 3)))) [12]))
  (sSeq (sSet 9 (eDct [((eC (.str [98, 111, 120])), (eVar 1)), ((eC (.str [114, 101, 99, 111, 114, 100, 115])), (eVar 3)), ((eC (.str [104, 101, 97, 100, 115])), (eVar 8)), ((eC (.str [119, 97, 121, 115])), (eC (.int 8)))]))
  (sSeq (sFor (iSeq (eVar 7)) (gN 10) (L1_law n))
  (sRet (eC (.bl true)))))))))))))
@[irreducible] noncomputable def F_law (n : Nat) : List PV → M PV := runB (b_law n) 13
theorem z_law {n : Nat} {p0 : PV} {st : Sto} {Q : PV → Sto → Prop} {E : Exn → Sto → Prop} : Z (F_law n [p0] st) Q E = Z (b_law n [some p0, none, none, none, none, none, none, none, none, none, none, none, none] st) (runQ Q E) E0 := by unfold F_law; exact Z_run rfl
end K09

set_option maxRecDepth 100000
namespace K09
open PySem L2 MP
noncomputable def topS (i : Nat) : Stmt := PySem.Challenge.pw_samepaper_k09_kinds_of_expressions.main.body.getD i (.Pass ⟨0, 0, 0, 0⟩)
noncomputable abbrev s_kinds_of : Stmt := topS 2
noncomputable abbrev s_found_in : Stmt := topS 6
noncomputable abbrev s_parts_of : Stmt := topS 7
noncomputable abbrev s_path_kind : Stmt := topS 8
noncomputable abbrev s_kind_of_expr : Stmt := topS 9
noncomputable abbrev s__law_box : Stmt := topS 11
noncomputable abbrev s__law_take : Stmt := topS 12
noncomputable abbrev s__law_number : Stmt := topS 13
noncomputable abbrev s__law_words_of : Stmt := topS 14
noncomputable abbrev s__law_parts : Stmt := topS 15
noncomputable abbrev s__law_least : Stmt := topS 16
noncomputable abbrev s__law_kind : Stmt := topS 17
noncomputable abbrev s__law_records : Stmt := topS 18
noncomputable abbrev s__law_heads : Stmt := topS 19
noncomputable abbrev s__law_ways : Stmt := topS 20
noncomputable abbrev s__law_forms : Stmt := topS 21
noncomputable abbrev s__law_plain : Stmt := topS 22
noncomputable abbrev s__law_expr : Stmt := topS 23
noncomputable abbrev s__law_let : Stmt := topS 25
noncomputable abbrev s__law_within : Stmt := topS 24
noncomputable abbrev s__law_statement : Stmt := topS 26
noncomputable abbrev s__law_both : Stmt := topS 27
noncomputable abbrev s__law_body : Stmt := topS 28
noncomputable abbrev s__law_tree : Stmt := topS 29
noncomputable abbrev s_law : Stmt := topS 30
set_option genInjectivity false in
structure Adr where
  a_kinds_of : Addr
  d_kinds_of : FuncData
  a_found_in : Addr
  d_found_in : FuncData
  a_parts_of : Addr
  d_parts_of : FuncData
  a_path_kind : Addr
  d_path_kind : FuncData
  a_kind_of_expr : Addr
  d_kind_of_expr : FuncData
  a__law_box : Addr
  d__law_box : FuncData
  a__law_take : Addr
  d__law_take : FuncData
  a__law_number : Addr
  d__law_number : FuncData
  a__law_words_of : Addr
  d__law_words_of : FuncData
  a__law_parts : Addr
  d__law_parts : FuncData
  a__law_least : Addr
  d__law_least : FuncData
  a__law_kind : Addr
  d__law_kind : FuncData
  a__law_records : Addr
  d__law_records : FuncData
  a__law_heads : Addr
  d__law_heads : FuncData
  a__law_ways : Addr
  d__law_ways : FuncData
  a__law_forms : Addr
  d__law_forms : FuncData
  a__law_plain : Addr
  d__law_plain : FuncData
  a__law_expr : Addr
  d__law_expr : FuncData
  a__law_let : Addr
  d__law_let : FuncData
  a__law_within : Addr
  d__law_within : FuncData
  a__law_statement : Addr
  d__law_statement : FuncData
  a__law_both : Addr
  d__law_both : FuncData
  a__law_body : Addr
  d__law_body : FuncData
  a__law_tree : Addr
  d__law_tree : FuncData
  a_law : Addr
  d_law : FuncData
structure Txt (w : World) (K : PySem.W.Frag) (mg : Str → Option Value) (A : Adr) : Prop where
  f_kinds_of : Fun K "kinds_of" "kinds_of" s_kinds_of A.a_kinds_of A.d_kinds_of
  m_kinds_of : mg "kinds_of" = some (.ref A.a_kinds_of)
  b_kinds_of : Binds K A.d_kinds_of ["op"] []
  f_found_in : Fun K "found_in" "found_in" s_found_in A.a_found_in A.d_found_in
  m_found_in : mg "found_in" = some (.ref A.a_found_in)
  b_found_in : Binds K A.d_found_in ["pairs", "name"] []
  f_parts_of : Fun K "parts_of" "parts_of" s_parts_of A.a_parts_of A.d_parts_of
  m_parts_of : mg "parts_of" = some (.ref A.a_parts_of)
  b_parts_of : Binds K A.d_parts_of ["tree", "kind"] []
  f_path_kind : Fun K "path_kind" "path_kind" s_path_kind A.a_path_kind A.d_path_kind
  m_path_kind : mg "path_kind" = some (.ref A.a_path_kind)
  b_path_kind : Binds K A.d_path_kind ["tree", "known", "path"] []
  f_kind_of_expr : Fun K "kind_of_expr" "kind_of_expr" s_kind_of_expr A.a_kind_of_expr A.d_kind_of_expr
  m_kind_of_expr : mg "kind_of_expr" = some (.ref A.a_kind_of_expr)
  b_kind_of_expr : Binds K A.d_kind_of_expr ["tree", "known", "e"] []
  f__law_box : Fun K "_law_box" "_law_box" s__law_box A.a__law_box A.d__law_box
  m__law_box : mg "_law_box" = some (.ref A.a__law_box)
  b__law_box : Binds K A.d__law_box ["_law_script"] []
  f__law_take : Fun K "_law_take" "_law_take" s__law_take A.a__law_take A.d__law_take
  m__law_take : mg "_law_take" = some (.ref A.a__law_take)
  b__law_take : Binds K A.d__law_take ["_law_box_here", "_law_many"] []
  f__law_number : Fun K "_law_number" "_law_number" s__law_number A.a__law_number A.d__law_number
  m__law_number : mg "_law_number" = some (.ref A.a__law_number)
  b__law_number : Binds K A.d__law_number ["_law_box_here"] []
  f__law_words_of : Fun K "_law_words_of" "_law_words_of" s__law_words_of A.a__law_words_of A.d__law_words_of
  m__law_words_of : mg "_law_words_of" = some (.ref A.a__law_words_of)
  b__law_words_of : Binds K A.d__law_words_of ["_law_e"] []
  f__law_parts : Fun K "_law_parts" "_law_parts" s__law_parts A.a__law_parts A.d__law_parts
  m__law_parts : mg "_law_parts" = some (.ref A.a__law_parts)
  b__law_parts : Binds K A.d__law_parts ["_law_records_here", "_law_kind_here"] []
  f__law_least : Fun K "_law_least" "_law_least" s__law_least A.a__law_least A.d__law_least
  m__law_least : mg "_law_least" = some (.ref A.a__law_least)
  b__law_least : Binds K A.d__law_least ["_law_records_here", "_law_kind_here"] []
  f__law_kind : Fun K "_law_kind" "_law_kind" s__law_kind A.a__law_kind A.d__law_kind
  m__law_kind : mg "_law_kind" = some (.ref A.a__law_kind)
  b__law_kind : Binds K A.d__law_kind ["_law_box_here", "_law_records_here"] []
  f__law_records : Fun K "_law_records" "_law_records" s__law_records A.a__law_records A.d__law_records
  m__law_records : mg "_law_records" = some (.ref A.a__law_records)
  b__law_records : Binds K A.d__law_records ["_law_box_here"] []
  f__law_heads : Fun K "_law_heads" "_law_heads" s__law_heads A.a__law_heads A.d__law_heads
  m__law_heads : mg "_law_heads" = some (.ref A.a__law_heads)
  b__law_heads : Binds K A.d__law_heads ["_law_box_here", "_law_records_here"] []
  f__law_ways : Fun K "_law_ways" "_law_ways" s__law_ways A.a__law_ways A.d__law_ways
  m__law_ways : mg "_law_ways" = some (.ref A.a__law_ways)
  b__law_ways : Binds K A.d__law_ways ["_law_records_here", "_law_known"] []
  f__law_forms : Fun K "_law_forms" "_law_forms" s__law_forms A.a__law_forms A.d__law_forms
  m__law_forms : mg "_law_forms" = some (.ref A.a__law_forms)
  b__law_forms : Binds K A.d__law_forms ["_law_game", "_law_kind_here"] []
  f__law_plain : Fun K "_law_plain" "_law_plain" s__law_plain A.a__law_plain A.d__law_plain
  m__law_plain : mg "_law_plain" = some (.ref A.a__law_plain)
  b__law_plain : Binds K A.d__law_plain ["_law_game", "_law_known", "_law_kind_here"] []
  f__law_expr : Fun K "_law_expr" "_law_expr" s__law_expr A.a__law_expr A.d__law_expr
  m__law_expr : mg "_law_expr" = some (.ref A.a__law_expr)
  b__law_expr : Binds K A.d__law_expr ["_law_game", "_law_known", "_law_kind_here", "_law_room"] []
  f__law_let : Fun K "_law_let" "_law_let" s__law_let A.a__law_let A.d__law_let
  m__law_let : mg "_law_let" = some (.ref A.a__law_let)
  b__law_let : Binds K A.d__law_let ["_law_game", "_law_known"] []
  f__law_within : Fun K "_law_within" "_law_within" s__law_within A.a__law_within A.d__law_within
  m__law_within : mg "_law_within" = some (.ref A.a__law_within)
  b__law_within : Binds K A.d__law_within ["_law_game", "_law_known", "_law_due", "_law_deep", "_law_way"] []
  f__law_statement : Fun K "_law_statement" "_law_statement" s__law_statement A.a__law_statement A.d__law_statement
  m__law_statement : mg "_law_statement" = some (.ref A.a__law_statement)
  b__law_statement : Binds K A.d__law_statement ["_law_game", "_law_known", "_law_due", "_law_deep"] []
  f__law_both : Fun K "_law_both" "_law_both" s__law_both A.a__law_both A.d__law_both
  m__law_both : mg "_law_both" = some (.ref A.a__law_both)
  b__law_both : Binds K A.d__law_both ["_law_game", "_law_known", "_law_due", "_law_deep"] []
  f__law_body : Fun K "_law_body" "_law_body" s__law_body A.a__law_body A.d__law_body
  m__law_body : mg "_law_body" = some (.ref A.a__law_body)
  b__law_body : Binds K A.d__law_body ["_law_game", "_law_known", "_law_due", "_law_deep", "_law_ends"] []
  f__law_tree : Fun K "_law_tree" "_law_tree" s__law_tree A.a__law_tree A.d__law_tree
  m__law_tree : mg "_law_tree" = some (.ref A.a__law_tree)
  b__law_tree : Binds K A.d__law_tree ["_law_box_here"] []
  f_law : Fun K "law" "law" s_law A.a_law A.d_law
  m_law : mg "law" = some (.ref A.a_law)
  b_law : Binds K A.d_law ["_law_script"] []
  c_KIND_OF : TabAt w K mg "KIND_OF" tab_KIND_OF
  c_OPERATIONS : TabAt w K mg "OPERATIONS" tab_OPERATIONS
  c_PART_OF : TabAt w K mg "PART_OF" tab_PART_OF
  z_isinstance : mg "isinstance" = none
  z_int : mg "int" = none
  z_list : mg "list" = none
  z_len : mg "len" = none
  z_str : mg "str" = none
  z_dict : mg "dict" = none
  z_sum : mg "sum" = none
  z_range : mg "range" = none
  z_tuple : mg "tuple" = none
  z_sorted : mg "sorted" = none
section
variable {P : Program} {w : World} {K : PySem.W.Frag} {mg : Str → Option Value} {base : Heap} {A : Adr}
theorem sc_kinds_of : FnScope ["op"] ["op"] (defScope s_kinds_of) := ⟨by kernel_rfl, by kernel_rfl, by kernel_rfl, by decide +kernel, by kernel_rfl, by decide +kernel, by decide +kernel⟩
set_option maxHeartbeats 4000000 in
theorem ok_kinds_of (T : Txt w K mg A) (n : Nat) : FnOk P w K mg base (L2.CX P w) 1 A.a_kinds_of A.d_kinds_of ["op"] (spM ⟨w, K⟩ (F_kinds_of n) 1) :=
  def_okF ["op"] ["op"] (b_kinds_of n) (k := 0) (kk := 1) (nn := 1) (g := F_kinds_of n) (by kernel_rfl) (by kernel_rfl) (by kernel_rfl) T.f_kinds_of sc_kinds_of fun cdv Ar outer s H E hr => by
  have hu := hr.units
  have tk : Takes (cxOf (L2.CX P w) P w K mg base ["op"] "kinds_of" (defScope s_kinds_of) A.a_kinds_of cdv Ar outer s H E) (fun c d _ H => E c d H) := takes_of rfl rfl rfl rfl
  exact (mss_one (ms_ret (me_getTab T.c_OPERATIONS (me_var 0 (hv := Or.inl (by kernel_rfl))))))
theorem sc_found_in : FnScope ["pairs", "name", "one"] ["pairs", "name"] (defScope s_found_in) := ⟨by kernel_rfl, by kernel_rfl, by kernel_rfl, by decide +kernel, by kernel_rfl, by decide +kernel, by decide +kernel⟩
set_option maxHeartbeats 4000000 in
theorem ok_found_in (T : Txt w K mg A) (n : Nat) : FnOk P w K mg base (L2.CX P w) 1 A.a_found_in A.d_found_in ["pairs", "name"] (spM ⟨w, K⟩ (F_found_in n) 2) :=
  def_okF ["pairs", "name", "one"] ["pairs", "name"] (b_found_in n) (k := 0) (kk := 3) (nn := 2) (g := F_found_in n) (by kernel_rfl) (by kernel_rfl) (by kernel_rfl) T.f_found_in sc_found_in fun cdv Ar outer s H E hr => by
  have hu := hr.units
  have tk : Takes (cxOf (L2.CX P w) P w K mg base ["pairs", "name", "one"] "found_in" (defScope s_found_in) A.a_found_in cdv Ar outer s H E) (fun c d _ H => E c d H) := takes_of rfl rfl rfl rfl
  exact (mss_cons (ms_for (passes_of rfl) rfl (mi_seq (me_var 0 (hv := Or.inl (by kernel_rfl)))) (mg_n (i := 2) (hx := Or.inl (by kernel_rfl)) (hf := Or.inr (by kernel_rfl)) sc_found_in.nd) (mss_one (ms_if (mt_eq hr.units (me_sub_ix hu (me_var 2 (hv := Or.inl (by kernel_rfl))) me_int (fun _ _ => by kernel_rfl)) (me_var 1 (hv := Or.inl (by kernel_rfl)))) (mss_one (ms_ret (me_sub_ix hu (me_var 2 (hv := Or.inl (by kernel_rfl))) me_int (fun _ _ => by kernel_rfl)))) mss_nil)))
  (mss_one (ms_ret me_non)))
theorem sc_parts_of : FnScope ["tree", "kind", "field"] ["tree", "kind"] (defScope s_parts_of) := ⟨by kernel_rfl, by kernel_rfl, by kernel_rfl, by decide +kernel, by kernel_rfl, by decide +kernel, by decide +kernel⟩
set_option maxHeartbeats 4000000 in
theorem st_parts_of (T : Txt w K mg A) (n d : Nat) (rc_parts_of : FnOk P w K mg base (L2.CX P w) (1 + d) A.a_parts_of A.d_parts_of ["tree", "kind"] (spM ⟨w, K⟩ (F_parts_of n d) 2)) : FnOk P w K mg base (L2.CX P w) (1 + (d + 1)) A.a_parts_of A.d_parts_of ["tree", "kind"] (spM ⟨w, K⟩ (F_parts_of n (d + 1)) 2) :=
  def_okF ["tree", "kind", "field"] ["tree", "kind"] (b_parts_of n (F_parts_of n d)) (k := 1 + d) (kk := 3) (nn := 2) (g := F_parts_of n (d + 1)) (by unfold F_parts_of; first | rfl | rw [G_parts_of]) (by kernel_rfl) (by kernel_rfl) T.f_parts_of sc_parts_of fun cdv Ar outer s H E hr => by
  have hu := hr.units
  have tk : Takes (cxOf (L2.CX P w) P w K mg base ["tree", "kind", "field"] "parts_of" (defScope s_parts_of) A.a_parts_of cdv Ar outer s H E) (fun c d _ H => E c d H) := takes_of rfl rfl rfl rfl
  exact (mss_cons (ms_if (mt_inTab T.c_PART_OF (me_var 1 (hv := Or.inl (by kernel_rfl)))) (mss_one (ms_ret (me_ixTab T.c_PART_OF (me_var 1 (hv := Or.inl (by kernel_rfl))) (fun _ _ => by kernel_rfl)))) mss_nil)
  (mss_one (ms_ret (me_join (me_str [] (by decide +kernel)) (ma_cons (me_lc (own := [("field", 2)]) rfl sc_parts_of.nd (mi_seq (me_call (ok_found_in T n) (hr.mono (by omega)) (gl_of (by kernel_rfl)) T.m_found_in T.f_found_in.kp T.b_found_in tk (ma_cons (me_sub_ix hu (me_var 0 (hv := Or.inr (Or.inl (by kernel_rfl)))) me_int (fun _ _ => by kernel_rfl)) (ma_cons (me_var 1 (hv := Or.inl (by kernel_rfl))) ma_nil)) (aLen_cons (aLen_cons aLen_nil)))) (blkOk_by (by kernel_rfl)) (tgo_name (by decide)) lcV_end (fun _ _ _ _ _ => (pg_n (i := 2) (hx := Or.inl (by kernel_rfl)) (hf := Or.inr (by kernel_rfl)) sc_parts_of.nd)) (fun _ _ _ _ _ => mts_nil) (fun _ _ _ _ _ => (me_call (rc_parts_of) (hr.mono (by omega)) (gl_of (by kernel_rfl)) T.m_parts_of T.f_parts_of.kp T.b_parts_of takes0 (ma_cons (me_var 0 (hv := Or.inr (Or.inl (by kernel_rfl)))) (ma_cons (me_sub_ix hu (me_var 2 (hv := Or.inl (by kernel_rfl))) me_int (fun _ _ => by kernel_rfl)) ma_nil)) (aLen_cons (aLen_cons aLen_nil))))) ma_nil)))))
theorem all_parts_of (T : Txt w K mg A) (n : Nat) : ∀ d : Nat, FnOk P w K mg base (L2.CX P w) (1 + d) A.a_parts_of A.d_parts_of ["tree", "kind"] (spM ⟨w, K⟩ (F_parts_of n d) 2)
  | 0 => (by unfold F_parts_of; first | exact fnOk_no | (rw [G_parts_of]; exact fnOk_no))
  | d + 1 => st_parts_of T n d (all_parts_of T n d)
theorem ok_parts_of (T : Txt w K mg A) (n d : Nat) : FnOk P w K mg base (L2.CX P w) (1 + d) A.a_parts_of A.d_parts_of ["tree", "kind"] (spM ⟨w, K⟩ (F_parts_of n d) 2) := (all_parts_of T n d)
theorem sc_path_kind : FnScope ["tree", "known", "path", "kind", "name", "fields"] ["tree", "known", "path"] (defScope s_path_kind) := ⟨by kernel_rfl, by kernel_rfl, by kernel_rfl, by decide +kernel, by kernel_rfl, by decide +kernel, by decide +kernel⟩
set_option maxHeartbeats 4000000 in
theorem ok_path_kind (T : Txt w K mg A) (n : Nat) : FnOk P w K mg base (L2.CX P w) 2 A.a_path_kind A.d_path_kind ["tree", "known", "path"] (spM ⟨w, K⟩ (F_path_kind n) 3) :=
  def_okF ["tree", "known", "path", "kind", "name", "fields"] ["tree", "known", "path"] (b_path_kind n) (k := 1) (kk := 6) (nn := 3) (g := F_path_kind n) (by kernel_rfl) (by kernel_rfl) (by kernel_rfl) T.f_path_kind sc_path_kind fun cdv Ar outer s H E hr => by
  have hu := hr.units
  have tk : Takes (cxOf (L2.CX P w) P w K mg base ["tree", "known", "path", "kind", "name", "fields"] "path_kind" (defScope s_path_kind) A.a_path_kind cdv Ar outer s H E) (fun c d _ H => E c d H) := takes_of rfl rfl rfl rfl
  exact (mss_cons (ms_s (i := 3) (hx := Or.inl (by kernel_rfl)) (hf := Or.inr (by kernel_rfl)) sc_path_kind.nd (me_get1 hu (me_var 1 (hv := Or.inl (by kernel_rfl))) (me_sub_ix hu (me_var 2 (hv := Or.inl (by kernel_rfl))) me_int (fun _ _ => by kernel_rfl))))
  (mss_cons (ms_for (passes_of rfl) rfl (mi_seq (me_slice (me_var 2 (hv := Or.inl (by kernel_rfl))) (mo_some me_int) mo_none)) (mg_n (i := 4) (hx := Or.inl (by kernel_rfl)) (hf := Or.inr (by kernel_rfl)) sc_path_kind.nd) (mss_cons (ms_s (i := 5) (hx := Or.inl (by kernel_rfl)) (hf := Or.inr (by kernel_rfl)) sc_path_kind.nd (me_call (ok_found_in T n) (hr.mono (by decide)) (gl_of (by kernel_rfl)) T.m_found_in T.f_found_in.kp T.b_found_in tk (ma_cons (me_sub_ix hu (me_var 0 (hv := Or.inl (by kernel_rfl))) me_int (fun _ _ => by kernel_rfl)) (ma_cons (me_var 3 (hv := Or.inl (by kernel_rfl))) ma_nil)) (aLen_cons (aLen_cons aLen_nil))))
  (mss_one (ms_s (i := 3) (hx := Or.inl (by kernel_rfl)) (hf := Or.inr (by kernel_rfl)) sc_path_kind.nd (me_ifExp (mt_is (me_var 5 (hv := Or.inl (by kernel_rfl))) me_non) me_non (me_call (ok_found_in T n) (hr.mono (by decide)) (gl_of (by kernel_rfl)) T.m_found_in T.f_found_in.kp T.b_found_in tk (ma_cons (me_var 5 (hv := Or.inl (by kernel_rfl))) (ma_cons (me_var 4 (hv := Or.inl (by kernel_rfl))) ma_nil)) (aLen_cons (aLen_cons aLen_nil))))))))
  (mss_one (ms_ret (me_var 3 (hv := Or.inl (by kernel_rfl)))))))
theorem sc_kind_of_expr : FnScope ["tree", "known", "e", "kinds"] ["tree", "known", "e"] (defScope s_kind_of_expr) := ⟨by kernel_rfl, by kernel_rfl, by kernel_rfl, by decide +kernel, by kernel_rfl, by decide +kernel, by decide +kernel⟩
set_option maxHeartbeats 4000000 in
theorem ok_kind_of_expr (T : Txt w K mg A) (n : Nat) : FnOk P w K mg base (L2.CX P w) 3 A.a_kind_of_expr A.d_kind_of_expr ["tree", "known", "e"] (spM ⟨w, K⟩ (F_kind_of_expr n) 3) :=
  def_okF ["tree", "known", "e", "kinds"] ["tree", "known", "e"] (b_kind_of_expr n) (k := 2) (kk := 4) (nn := 3) (g := F_kind_of_expr n) (by kernel_rfl) (by kernel_rfl) (by kernel_rfl) T.f_kind_of_expr sc_kind_of_expr fun cdv Ar outer s H E hr => by
  have hu := hr.units
  have tk : Takes (cxOf (L2.CX P w) P w K mg base ["tree", "known", "e", "kinds"] "kind_of_expr" (defScope s_kind_of_expr) A.a_kind_of_expr cdv Ar outer s H E) (fun c d _ H => E c d H) := takes_of rfl rfl rfl rfl
  exact (mss_cons (ms_if (mt_val (me_isinst (gl_of (by kernel_rfl)) T.z_isinstance (ma_cons (me_var 2 (hv := Or.inl (by kernel_rfl))) (ma_cons (me_ty (gl_of (by kernel_rfl)) T.z_int (by decide +kernel)) ma_nil)))) (mss_one (ms_ret (me_str [110, 117, 109] (by decide +kernel)))) mss_nil)
  (mss_cons (ms_if (mt_eq hr.units (me_sub_ix hu (me_var 2 (hv := Or.inl (by kernel_rfl))) me_int (fun _ _ => by kernel_rfl)) (me_str [111, 102] (by decide +kernel))) (mss_one (ms_ret (me_call (ok_path_kind T n) (hr.mono (by decide)) (gl_of (by kernel_rfl)) T.m_path_kind T.f_path_kind.kp T.b_path_kind tk (ma_cons (me_var 0 (hv := Or.inl (by kernel_rfl))) (ma_cons (me_var 1 (hv := Or.inl (by kernel_rfl))) (ma_cons (me_sub_ix hu (me_var 2 (hv := Or.inl (by kernel_rfl))) me_int (fun _ _ => by kernel_rfl)) ma_nil))) (aLen_cons (aLen_cons (aLen_cons aLen_nil)))))) mss_nil)
  (mss_cons (ms_if (mt_eq hr.units (me_sub_ix hu (me_var 2 (hv := Or.inl (by kernel_rfl))) me_int (fun _ _ => by kernel_rfl)) (me_str [99, 97, 108, 108] (by decide +kernel))) (mss_one (ms_ret (me_call (ok_found_in T n) (hr.mono (by decide)) (gl_of (by kernel_rfl)) T.m_found_in T.f_found_in.kp T.b_found_in tk (ma_cons (me_sub_ix hu (me_var 0 (hv := Or.inl (by kernel_rfl))) me_int (fun _ _ => by kernel_rfl)) (ma_cons (me_sub_ix hu (me_var 2 (hv := Or.inl (by kernel_rfl))) me_int (fun _ _ => by kernel_rfl)) ma_nil)) (aLen_cons (aLen_cons aLen_nil))))) mss_nil)
  (mss_cons (ms_if (mt_eq hr.units (me_sub_ix hu (me_var 2 (hv := Or.inl (by kernel_rfl))) me_int (fun _ _ => by kernel_rfl)) (me_str [110, 101, 119] (by decide +kernel))) (mss_one (ms_ret (me_sub_ix hu (me_var 2 (hv := Or.inl (by kernel_rfl))) me_int (fun _ _ => by kernel_rfl)))) mss_nil)
  (mss_cons (ms_s (i := 3) (hx := Or.inl (by kernel_rfl)) (hf := Or.inr (by kernel_rfl)) sc_kind_of_expr.nd (me_call (ok_kinds_of T n) (hr.mono (by decide)) (gl_of (by kernel_rfl)) T.m_kinds_of T.f_kinds_of.kp T.b_kinds_of tk (ma_cons (me_sub_ix hu (me_var 2 (hv := Or.inl (by kernel_rfl))) me_int (fun _ _ => by kernel_rfl)) ma_nil) (aLen_cons aLen_nil)))
  (mss_one (ms_ret (me_ifExp (mt_is (me_var 3 (hv := Or.inl (by kernel_rfl))) me_non) (me_str [110, 117, 109] (by decide +kernel)) (me_ixTab T.c_KIND_OF (me_sub_ix hu (me_var 3 (hv := Or.inl (by kernel_rfl))) me_int (fun _ _ => by kernel_rfl)) (fun _ _ => by kernel_rfl))))))))))
theorem sc__law_box : FnScope ["_law_script", "_law_cells", "_law_box_here"] ["_law_script"] (defScope s__law_box) := ⟨by kernel_rfl, by kernel_rfl, by kernel_rfl, by decide +kernel, by kernel_rfl, by decide +kernel, by decide +kernel⟩
set_option maxHeartbeats 4000000 in
theorem ok__law_box (T : Txt w K mg A) (n : Nat) : FnOk P w K mg base (L2.CX P w) 1 A.a__law_box A.d__law_box ["_law_script"] (spM ⟨w, K⟩ (F__law_box n) 1) :=
  def_okF ["_law_script", "_law_cells", "_law_box_here"] ["_law_script"] (b__law_box n) (k := 0) (kk := 3) (nn := 1) (g := F__law_box n) (by kernel_rfl) (by kernel_rfl) (by kernel_rfl) T.f__law_box sc__law_box fun cdv Ar outer s H E hr => by
  have hu := hr.units
  have tk : Takes (cxOf (L2.CX P w) P w K mg base ["_law_script", "_law_cells", "_law_box_here"] "_law_box" (defScope s__law_box) A.a__law_box cdv Ar outer s H E) (fun c d _ H => E c d H) := takes_of rfl rfl rfl rfl
  exact (mss_cons (ms_s (i := 1) (hx := Or.inl (by kernel_rfl)) (hf := Or.inr (by kernel_rfl)) sc__law_box.nd (me_listAN rfl (gl_of (by kernel_rfl)) T.z_list (ma_cons (me_var 0 (hv := Or.inl (by kernel_rfl))) ma_nil)))
  (mss_cons (ms_if (mt_eq hr.units (me_len (gl_of (by kernel_rfl)) T.z_len (ma_cons (me_var 1 (hv := Or.inl (by kernel_rfl))) ma_nil)) me_int) (mss_one (ms_s (i := 1) (hx := Or.inl (by kernel_rfl)) (hf := Or.inr (by kernel_rfl)) sc__law_box.nd (me_lstN (ma_cons me_int ma_nil)))) mss_nil)
  (mss_cons (ms_s (i := 2) (hx := Or.inl (by kernel_rfl)) (hf := Or.inr (by kernel_rfl)) sc__law_box.nd (me_dict (mps_cons (me_str [99, 101, 108, 108, 115] (by decide +kernel)) (me_var 1 (hv := Or.inl (by kernel_rfl))) (mps_cons (me_str [99, 111, 117, 110, 116] (by decide +kernel)) me_int (mps_cons (me_str [100, 105, 103, 105, 116, 115] (by decide +kernel)) (me_eq hr.units (me_mod (me_sub_ix hu (me_var 1 (hv := Or.inl (by kernel_rfl))) me_int (fun _ _ => by kernel_rfl)) me_int) me_int) mps_nil)))))
  (mss_cons (ms_asg (me_fdiv (me_sub_ix hu (me_var 1 (hv := Or.inl (by kernel_rfl))) me_int (fun _ _ => by kernel_rfl)) me_int) (mg_sub hu (me_var 1 (hv := Or.inl (by kernel_rfl))) me_int))
  (mss_one (ms_ret (me_var 2 (hv := Or.inl (by kernel_rfl)))))))))
theorem sc__law_take : FnScope ["_law_box_here", "_law_many", "_law_cells", "_law_k", "_law_at", "_law_rest", "_law_mixed"] ["_law_box_here", "_law_many"] (defScope s__law_take) := ⟨by kernel_rfl, by kernel_rfl, by kernel_rfl, by decide +kernel, by kernel_rfl, by decide +kernel, by decide +kernel⟩
set_option maxHeartbeats 4000000 in
theorem ok__law_take (T : Txt w K mg A) (n : Nat) : FnOk P w K mg base (L2.CX P w) 1 A.a__law_take A.d__law_take ["_law_box_here", "_law_many"] (spM ⟨w, K⟩ (F__law_take n) 2) :=
  def_okF ["_law_box_here", "_law_many", "_law_cells", "_law_k", "_law_at", "_law_rest", "_law_mixed"] ["_law_box_here", "_law_many"] (b__law_take n) (k := 0) (kk := 7) (nn := 2) (g := F__law_take n) (by kernel_rfl) (by kernel_rfl) (by kernel_rfl) T.f__law_take sc__law_take fun cdv Ar outer s H E hr => by
  have hu := hr.units
  have tk : Takes (cxOf (L2.CX P w) P w K mg base ["_law_box_here", "_law_many", "_law_cells", "_law_k", "_law_at", "_law_rest", "_law_mixed"] "_law_take" (defScope s__law_take) A.a__law_take cdv Ar outer s H E) (fun c d _ H => E c d H) := takes_of rfl rfl rfl rfl
  exact (mss_cons (ms_s (i := 2) (hx := Or.inl (by kernel_rfl)) (hf := Or.inr (by kernel_rfl)) sc__law_take.nd (me_sub_ix hu (me_var 0 (hv := Or.inl (by kernel_rfl))) (me_str [99, 101, 108, 108, 115] (by decide +kernel)) (fun _ _ => by kernel_rfl)))
  (mss_cons (ms_s (i := 3) (hx := Or.inl (by kernel_rfl)) (hf := Or.inr (by kernel_rfl)) sc__law_take.nd (me_sub_ix hu (me_var 0 (hv := Or.inl (by kernel_rfl))) (me_str [99, 111, 117, 110, 116] (by decide +kernel)) (fun _ _ => by kernel_rfl)))
  (mss_cons (ms_s (i := 4) (hx := Or.inl (by kernel_rfl)) (hf := Or.inr (by kernel_rfl)) sc__law_take.nd (me_mod (me_var 3 (hv := Or.inl (by kernel_rfl))) (me_len (gl_of (by kernel_rfl)) T.z_len (ma_cons (me_var 2 (hv := Or.inl (by kernel_rfl))) ma_nil))))
  (mss_cons (ms_asg (me_add (me_var 3 (hv := Or.inl (by kernel_rfl))) me_int) (mg_sub hu (me_var 0 (hv := Or.inl (by kernel_rfl))) (me_str [99, 111, 117, 110, 116] (by decide +kernel))))
  (mss_cons (ms_if (mt_of (mw_and (mt_val (me_sub_ix hu (me_var 0 (hv := Or.inl (by kernel_rfl))) (me_str [100, 105, 103, 105, 116, 115] (by decide +kernel)) (fun _ _ => by kernel_rfl))) (mw_and (mt_ne hr.units (me_sub_ix hu (me_var 2 (hv := Or.inl (by kernel_rfl))) (me_var 4 (hv := Or.inl (by kernel_rfl))) (fun _ _ => by kernel_rfl)) me_int) (mw_and1 (mt_ne hr.units (me_sub_ix hu (me_var 2 (hv := Or.inl (by kernel_rfl))) (me_var 4 (hv := Or.inl (by kernel_rfl))) (fun _ _ => by kernel_rfl)) (me_neg me_int)))))) (mss_cons (ms_s (i := 5) (hx := Or.inl (by kernel_rfl)) (hf := Or.inr (by kernel_rfl)) sc__law_take.nd (me_mod (me_sub_ix hu (me_var 2 (hv := Or.inl (by kernel_rfl))) (me_var 4 (hv := Or.inl (by kernel_rfl))) (fun _ _ => by kernel_rfl)) (me_var 1 (hv := Or.inl (by kernel_rfl)))))
  (mss_cons (ms_asg (me_fdiv (me_sub_ix hu (me_var 2 (hv := Or.inl (by kernel_rfl))) (me_var 4 (hv := Or.inl (by kernel_rfl))) (fun _ _ => by kernel_rfl)) (me_var 1 (hv := Or.inl (by kernel_rfl)))) (mg_sub hu (me_var 2 (hv := Or.inl (by kernel_rfl))) (me_var 4 (hv := Or.inl (by kernel_rfl)))))
  (mss_one (ms_ret (me_var 5 (hv := Or.inl (by kernel_rfl))))))) mss_nil)
  (mss_cons (ms_s (i := 6) (hx := Or.inl (by kernel_rfl)) (hf := Or.inr (by kernel_rfl)) sc__law_take.nd (me_mod (me_add (me_add (me_mul (me_sub_ix hu (me_var 2 (hv := Or.inl (by kernel_rfl))) (me_var 4 (hv := Or.inl (by kernel_rfl))) (fun _ _ => by kernel_rfl)) me_int) (me_mul (me_mul me_int (me_var 3 (hv := Or.inl (by kernel_rfl)))) (me_var 3 (hv := Or.inl (by kernel_rfl))))) me_int) me_int))
  (mss_one (ms_ret (me_mod (me_mod (me_mul (me_var 6 (hv := Or.inl (by kernel_rfl))) me_int) me_int) (me_var 1 (hv := Or.inl (by kernel_rfl))))))))))))
theorem sc__law_number : FnScope ["_law_box_here", "_law_way"] ["_law_box_here"] (defScope s__law_number) := ⟨by kernel_rfl, by kernel_rfl, by kernel_rfl, by decide +kernel, by kernel_rfl, by decide +kernel, by decide +kernel⟩
set_option maxHeartbeats 4000000 in
theorem ok__law_number (T : Txt w K mg A) (n : Nat) : FnOk P w K mg base (L2.CX P w) 2 A.a__law_number A.d__law_number ["_law_box_here"] (spM ⟨w, K⟩ (F__law_number n) 1) :=
  def_okF ["_law_box_here", "_law_way"] ["_law_box_here"] (b__law_number n) (k := 1) (kk := 2) (nn := 1) (g := F__law_number n) (by kernel_rfl) (by kernel_rfl) (by kernel_rfl) T.f__law_number sc__law_number fun cdv Ar outer s H E hr => by
  have hu := hr.units
  have tk : Takes (cxOf (L2.CX P w) P w K mg base ["_law_box_here", "_law_way"] "_law_number" (defScope s__law_number) A.a__law_number cdv Ar outer s H E) (fun c d _ H => E c d H) := takes_of rfl rfl rfl rfl
  exact (mss_cons (ms_s (i := 1) (hx := Or.inl (by kernel_rfl)) (hf := Or.inr (by kernel_rfl)) sc__law_number.nd (me_call (ok__law_take T n) (hr.mono (by decide)) (gl_of (by kernel_rfl)) T.m__law_take T.f__law_take.kp T.b__law_take tk (ma_cons (me_var 0 (hv := Or.inl (by kernel_rfl))) (ma_cons me_int ma_nil)) (aLen_cons (aLen_cons aLen_nil))))
  (mss_cons (ms_if (mt_eq hr.units (me_var 1 (hv := Or.inl (by kernel_rfl))) me_int) (mss_one (ms_ret (me_sub (me_call (ok__law_take T n) (hr.mono (by decide)) (gl_of (by kernel_rfl)) T.m__law_take T.f__law_take.kp T.b__law_take tk (ma_cons (me_var 0 (hv := Or.inl (by kernel_rfl))) (ma_cons me_int ma_nil)) (aLen_cons (aLen_cons aLen_nil))) me_int))) mss_nil)
  (mss_cons (ms_if (mt_eq hr.units (me_var 1 (hv := Or.inl (by kernel_rfl))) me_int) (mss_one (ms_ret (me_sub_ix hu (me_lst (ma_cons (me_neg me_int) (ma_cons me_int (ma_cons me_int (ma_cons (me_neg me_int) (ma_cons me_int (ma_cons me_int (ma_cons me_int (ma_cons me_int ma_nil))))))))) (me_call (ok__law_take T n) (hr.mono (by decide)) (gl_of (by kernel_rfl)) T.m__law_take T.f__law_take.kp T.b__law_take tk (ma_cons (me_var 0 (hv := Or.inl (by kernel_rfl))) (ma_cons me_int ma_nil)) (aLen_cons (aLen_cons aLen_nil))) (fun _ _ => by kernel_rfl)))) mss_nil)
  (mss_one (ms_ret (me_sub (me_call (ok__law_take T n) (hr.mono (by decide)) (gl_of (by kernel_rfl)) T.m__law_take T.f__law_take.kp T.b__law_take tk (ma_cons (me_var 0 (hv := Or.inl (by kernel_rfl))) (ma_cons me_int ma_nil)) (aLen_cons (aLen_cons aLen_nil))) me_int))))))
theorem sc__law_words_of : FnScope ["_law_e", "_law_words", "_law_within_here", "_law_one"] ["_law_e"] (defScope s__law_words_of) := ⟨by kernel_rfl, by kernel_rfl, by kernel_rfl, by decide +kernel, by kernel_rfl, by decide +kernel, by decide +kernel⟩
set_option maxHeartbeats 4000000 in
theorem st__law_words_of (T : Txt w K mg A) (n d : Nat) (rc__law_words_of : FnOk P w K mg base (L2.CX P w) (0 + d) A.a__law_words_of A.d__law_words_of ["_law_e"] (spM ⟨w, K⟩ (F__law_words_of n d) 1)) : FnOk P w K mg base (L2.CX P w) (0 + (d + 1)) A.a__law_words_of A.d__law_words_of ["_law_e"] (spM ⟨w, K⟩ (F__law_words_of n (d + 1)) 1) :=
  def_okF ["_law_e", "_law_words", "_law_within_here", "_law_one"] ["_law_e"] (b__law_words_of n (F__law_words_of n d)) (k := 0 + d) (kk := 4) (nn := 1) (g := F__law_words_of n (d + 1)) (by unfold F__law_words_of; first | rfl | rw [G__law_words_of]) (by kernel_rfl) (by kernel_rfl) T.f__law_words_of sc__law_words_of fun cdv Ar outer s H E hr => by
  have hu := hr.units
  have tk : Takes (cxOf (L2.CX P w) P w K mg base ["_law_e", "_law_words", "_law_within_here", "_law_one"] "_law_words_of" (defScope s__law_words_of) A.a__law_words_of cdv Ar outer s H E) (fun c d _ H => E c d H) := takes_of rfl rfl rfl rfl
  exact (mss_cons (ms_if (mt_val (me_isinst (gl_of (by kernel_rfl)) T.z_isinstance (ma_cons (me_var 0 (hv := Or.inl (by kernel_rfl))) (ma_cons (me_ty (gl_of (by kernel_rfl)) T.z_int (by decide +kernel)) ma_nil)))) (mss_one (ms_ret (me_lst (ma_cons (me_strOf (gl_of (by kernel_rfl)) T.z_str (ma_cons (me_var 0 (hv := Or.inl (by kernel_rfl))) ma_nil)) ma_nil)))) mss_nil)
  (mss_cons (ms_if (mt_eq hr.units (me_sub_ix hu (me_var 0 (hv := Or.inl (by kernel_rfl))) me_int (fun _ _ => by kernel_rfl)) (me_str [111, 102] (by decide +kernel))) (mss_one (ms_ret (me_lst (ma_cons (me_join (me_str [46] (by decide +kernel)) (ma_cons (me_sub_ix hu (me_var 0 (hv := Or.inl (by kernel_rfl))) me_int (fun _ _ => by kernel_rfl)) ma_nil)) ma_nil)))) mss_nil)
  (mss_cons (ms_s (i := 1) (hx := Or.inl (by kernel_rfl)) (hf := Or.inr (by kernel_rfl)) sc__law_words_of.nd (me_lstN (ma_cons (me_sub_ix hu (me_var 0 (hv := Or.inl (by kernel_rfl))) me_int (fun _ _ => by kernel_rfl)) ma_nil)))
  (mss_cons (ms_s (i := 2) (hx := Or.inl (by kernel_rfl)) (hf := Or.inr (by kernel_rfl)) sc__law_words_of.nd (me_slice (me_var 0 (hv := Or.inl (by kernel_rfl))) (mo_some me_int) mo_none))
  (mss_cons (ms_if (mt_of (mw_or (mt_eq hr.units (me_sub_ix hu (me_var 0 (hv := Or.inl (by kernel_rfl))) me_int (fun _ _ => by kernel_rfl)) (me_str [99, 97, 108, 108] (by decide +kernel))) (mw_or1 (mt_eq hr.units (me_sub_ix hu (me_var 0 (hv := Or.inl (by kernel_rfl))) me_int (fun _ _ => by kernel_rfl)) (me_str [110, 101, 119] (by decide +kernel)))))) (mss_cons (ms_expr (me_append (me_var 1 (hv := Or.inl (by kernel_rfl))) (ma_cons (me_sub_ix hu (me_var 0 (hv := Or.inl (by kernel_rfl))) me_int (fun _ _ => by kernel_rfl)) ma_nil)))
  (mss_one (ms_s (i := 2) (hx := Or.inl (by kernel_rfl)) (hf := Or.inr (by kernel_rfl)) sc__law_words_of.nd (me_slice (me_var 0 (hv := Or.inl (by kernel_rfl))) (mo_some me_int) mo_none)))) mss_nil)
  (mss_cons (ms_if (mt_in hu (me_sub_ix hu (me_var 0 (hv := Or.inl (by kernel_rfl))) me_int (fun _ _ => by kernel_rfl)) (me_tup (ma_cons (me_str [109, 97, 107, 101] (by decide +kernel)) (ma_cons (me_str [99, 97, 108, 108] (by decide +kernel)) (ma_cons (me_str [110, 101, 119] (by decide +kernel)) ma_nil)))) (by kernel_rfl)) (mss_one (ms_expr (me_append (me_var 1 (hv := Or.inl (by kernel_rfl))) (ma_cons (me_strOf (gl_of (by kernel_rfl)) T.z_str (ma_cons (me_len (gl_of (by kernel_rfl)) T.z_len (ma_cons (me_var 2 (hv := Or.inl (by kernel_rfl))) ma_nil)) ma_nil)) ma_nil)))) mss_nil)
  (mss_cons (ms_for (passes_of rfl) rfl (mi_seq (me_var 2 (hv := Or.inl (by kernel_rfl)))) (mg_n (i := 3) (hx := Or.inl (by kernel_rfl)) (hf := Or.inr (by kernel_rfl)) sc__law_words_of.nd) (mss_one (ms_s (i := 1) (hx := Or.inl (by kernel_rfl)) (hf := Or.inr (by kernel_rfl)) sc__law_words_of.nd (me_addN (me_var 1 (hv := Or.inl (by kernel_rfl))) (me_call (rc__law_words_of) (hr.mono (by omega)) (gl_of (by kernel_rfl)) T.m__law_words_of T.f__law_words_of.kp T.b__law_words_of tk (ma_cons (me_var 3 (hv := Or.inl (by kernel_rfl))) ma_nil) (aLen_cons aLen_nil))))))
  (mss_one (ms_ret (me_var 1 (hv := Or.inl (by kernel_rfl))))))))))))
theorem all__law_words_of (T : Txt w K mg A) (n : Nat) : ∀ d : Nat, FnOk P w K mg base (L2.CX P w) (0 + d) A.a__law_words_of A.d__law_words_of ["_law_e"] (spM ⟨w, K⟩ (F__law_words_of n d) 1)
  | 0 => (by unfold F__law_words_of; first | exact fnOk_no | (rw [G__law_words_of]; exact fnOk_no))
  | d + 1 => st__law_words_of T n d (all__law_words_of T n d)
theorem ok__law_words_of (T : Txt w K mg A) (n d : Nat) : FnOk P w K mg base (L2.CX P w) (0 + d) A.a__law_words_of A.d__law_words_of ["_law_e"] (spM ⟨w, K⟩ (F__law_words_of n d) 1) := (all__law_words_of T n d)
theorem sc__law_parts : FnScope ["_law_records_here", "_law_kind_here", "_law_field"] ["_law_records_here", "_law_kind_here"] (defScope s__law_parts) := ⟨by kernel_rfl, by kernel_rfl, by kernel_rfl, by decide +kernel, by kernel_rfl, by decide +kernel, by decide +kernel⟩
set_option maxHeartbeats 4000000 in
theorem st__law_parts (T : Txt w K mg A) (n d : Nat) (rc__law_parts : FnOk P w K mg base (L2.CX P w) (0 + d) A.a__law_parts A.d__law_parts ["_law_records_here", "_law_kind_here"] (spM ⟨w, K⟩ (F__law_parts n d) 2)) : FnOk P w K mg base (L2.CX P w) (0 + (d + 1)) A.a__law_parts A.d__law_parts ["_law_records_here", "_law_kind_here"] (spM ⟨w, K⟩ (F__law_parts n (d + 1)) 2) :=
  def_okF ["_law_records_here", "_law_kind_here", "_law_field"] ["_law_records_here", "_law_kind_here"] (b__law_parts n (F__law_parts n d)) (k := 0 + d) (kk := 3) (nn := 2) (g := F__law_parts n (d + 1)) (by unfold F__law_parts; first | rfl | rw [G__law_parts]) (by kernel_rfl) (by kernel_rfl) T.f__law_parts sc__law_parts fun cdv Ar outer s H E hr => by
  have hu := hr.units
  have tk : Takes (cxOf (L2.CX P w) P w K mg base ["_law_records_here", "_law_kind_here", "_law_field"] "_law_parts" (defScope s__law_parts) A.a__law_parts cdv Ar outer s H E) (fun c d _ H => E c d H) := takes_of rfl rfl rfl rfl
  exact (mss_cons (ms_if (mt_eq hr.units (me_var 1 (hv := Or.inl (by kernel_rfl))) (me_str [110, 117, 109] (by decide +kernel))) (mss_one (ms_ret (me_str [110] (by decide +kernel)))) mss_nil)
  (mss_cons (ms_if (mt_eq hr.units (me_var 1 (hv := Or.inl (by kernel_rfl))) (me_str [114, 111, 119] (by decide +kernel))) (mss_one (ms_ret (me_str [114] (by decide +kernel)))) mss_nil)
  (mss_one (ms_ret (me_join (me_str [] (by decide +kernel)) (ma_cons (me_lc (own := [("_law_field", 2)]) rfl sc__law_parts.nd (mi_seq (me_sub_ix hu (me_dictOf rfl (gl_of (by kernel_rfl)) T.z_dict (ma_cons (me_var 0 (hv := Or.inr (Or.inl (by kernel_rfl)))) ma_nil)) (me_var 1 (hv := Or.inl (by kernel_rfl))) (fun _ _ => by kernel_rfl))) (blkOk_by (by kernel_rfl)) (tgo_name (by decide)) lcV_end (fun _ _ _ _ _ => (pg_n (i := 2) (hx := Or.inl (by kernel_rfl)) (hf := Or.inr (by kernel_rfl)) sc__law_parts.nd)) (fun _ _ _ _ _ => mts_nil) (fun _ _ _ _ _ => (me_call (rc__law_parts) (hr.mono (by omega)) (gl_of (by kernel_rfl)) T.m__law_parts T.f__law_parts.kp T.b__law_parts takes0 (ma_cons (me_var 0 (hv := Or.inr (Or.inl (by kernel_rfl)))) (ma_cons (me_sub_ix hu (me_var 2 (hv := Or.inl (by kernel_rfl))) me_int (fun _ _ => by kernel_rfl)) ma_nil)) (aLen_cons (aLen_cons aLen_nil))))) ma_nil))))))
theorem all__law_parts (T : Txt w K mg A) (n : Nat) : ∀ d : Nat, FnOk P w K mg base (L2.CX P w) (0 + d) A.a__law_parts A.d__law_parts ["_law_records_here", "_law_kind_here"] (spM ⟨w, K⟩ (F__law_parts n d) 2)
  | 0 => (by unfold F__law_parts; first | exact fnOk_no | (rw [G__law_parts]; exact fnOk_no))
  | d + 1 => st__law_parts T n d (all__law_parts T n d)
theorem ok__law_parts (T : Txt w K mg A) (n d : Nat) : FnOk P w K mg base (L2.CX P w) (0 + d) A.a__law_parts A.d__law_parts ["_law_records_here", "_law_kind_here"] (spM ⟨w, K⟩ (F__law_parts n d) 2) := (all__law_parts T n d)
theorem sc__law_least : FnScope ["_law_records_here", "_law_kind_here", "_law_field"] ["_law_records_here", "_law_kind_here"] (defScope s__law_least) := ⟨by kernel_rfl, by kernel_rfl, by kernel_rfl, by decide +kernel, by kernel_rfl, by decide +kernel, by decide +kernel⟩
set_option maxHeartbeats 4000000 in
theorem st__law_least (T : Txt w K mg A) (n d : Nat) (rc__law_least : FnOk P w K mg base (L2.CX P w) (0 + d) A.a__law_least A.d__law_least ["_law_records_here", "_law_kind_here"] (spM ⟨w, K⟩ (F__law_least n d) 2)) : FnOk P w K mg base (L2.CX P w) (0 + (d + 1)) A.a__law_least A.d__law_least ["_law_records_here", "_law_kind_here"] (spM ⟨w, K⟩ (F__law_least n (d + 1)) 2) :=
  def_okF ["_law_records_here", "_law_kind_here", "_law_field"] ["_law_records_here", "_law_kind_here"] (b__law_least n (F__law_least n d)) (k := 0 + d) (kk := 3) (nn := 2) (g := F__law_least n (d + 1)) (by unfold F__law_least; first | rfl | rw [G__law_least]) (by kernel_rfl) (by kernel_rfl) T.f__law_least sc__law_least fun cdv Ar outer s H E hr => by
  have hu := hr.units
  have tk : Takes (cxOf (L2.CX P w) P w K mg base ["_law_records_here", "_law_kind_here", "_law_field"] "_law_least" (defScope s__law_least) A.a__law_least cdv Ar outer s H E) (fun c d _ H => E c d H) := takes_of rfl rfl rfl rfl
  exact (mss_cons (ms_if (mt_eq hr.units (me_var 1 (hv := Or.inl (by kernel_rfl))) (me_str [110, 117, 109] (by decide +kernel))) (mss_one (ms_ret me_int)) mss_nil)
  (mss_cons (ms_if (mt_eq hr.units (me_var 1 (hv := Or.inl (by kernel_rfl))) (me_str [114, 111, 119] (by decide +kernel))) (mss_one (ms_ret me_int)) mss_nil)
  (mss_one (ms_ret (me_add me_int (me_sum rfl (gl_of (by kernel_rfl)) T.z_sum (ma_cons (me_lc (own := [("_law_field", 2)]) rfl sc__law_least.nd (mi_seq (me_sub_ix hu (me_dictOf rfl (gl_of (by kernel_rfl)) T.z_dict (ma_cons (me_var 0 (hv := Or.inr (Or.inl (by kernel_rfl)))) ma_nil)) (me_var 1 (hv := Or.inl (by kernel_rfl))) (fun _ _ => by kernel_rfl))) (blkOk_by (by kernel_rfl)) (tgo_name (by decide)) lcV_end (fun _ _ _ _ _ => (pg_n (i := 2) (hx := Or.inl (by kernel_rfl)) (hf := Or.inr (by kernel_rfl)) sc__law_least.nd)) (fun _ _ _ _ _ => mts_nil) (fun _ _ _ _ _ => (me_call (rc__law_least) (hr.mono (by omega)) (gl_of (by kernel_rfl)) T.m__law_least T.f__law_least.kp T.b__law_least takes0 (ma_cons (me_var 0 (hv := Or.inr (Or.inl (by kernel_rfl)))) (ma_cons (me_sub_ix hu (me_var 2 (hv := Or.inl (by kernel_rfl))) me_int (fun _ _ => by kernel_rfl)) ma_nil)) (aLen_cons (aLen_cons aLen_nil))))) ma_nil)))))))
theorem all__law_least (T : Txt w K mg A) (n : Nat) : ∀ d : Nat, FnOk P w K mg base (L2.CX P w) (0 + d) A.a__law_least A.d__law_least ["_law_records_here", "_law_kind_here"] (spM ⟨w, K⟩ (F__law_least n d) 2)
  | 0 => (by unfold F__law_least; first | exact fnOk_no | (rw [G__law_least]; exact fnOk_no))
  | d + 1 => st__law_least T n d (all__law_least T n d)
theorem ok__law_least (T : Txt w K mg A) (n d : Nat) : FnOk P w K mg base (L2.CX P w) (0 + d) A.a__law_least A.d__law_least ["_law_records_here", "_law_kind_here"] (spM ⟨w, K⟩ (F__law_least n d) 2) := (all__law_least T n d)
theorem sc__law_kind : FnScope ["_law_box_here", "_law_records_here", "_law_kinds", "_law_one"] ["_law_box_here", "_law_records_here"] (defScope s__law_kind) := ⟨by kernel_rfl, by kernel_rfl, by kernel_rfl, by decide +kernel, by kernel_rfl, by decide +kernel, by decide +kernel⟩
set_option maxHeartbeats 4000000 in
theorem ok__law_kind (T : Txt w K mg A) (n : Nat) : FnOk P w K mg base (L2.CX P w) 21 A.a__law_kind A.d__law_kind ["_law_box_here", "_law_records_here"] (spM ⟨w, K⟩ (F__law_kind n) 2) :=
  def_okF ["_law_box_here", "_law_records_here", "_law_kinds", "_law_one"] ["_law_box_here", "_law_records_here"] (b__law_kind n) (k := 20) (kk := 4) (nn := 2) (g := F__law_kind n) (by kernel_rfl) (by kernel_rfl) (by kernel_rfl) T.f__law_kind sc__law_kind fun cdv Ar outer s H E hr => by
  have hu := hr.units
  have tk : Takes (cxOf (L2.CX P w) P w K mg base ["_law_box_here", "_law_records_here", "_law_kinds", "_law_one"] "_law_kind" (defScope s__law_kind) A.a__law_kind cdv Ar outer s H E) (fun c d _ H => E c d H) := takes_of rfl rfl rfl rfl
  exact (mss_cons (ms_s (i := 2) (hx := Or.inl (by kernel_rfl)) (hf := Or.inr (by kernel_rfl)) sc__law_kind.nd (me_add (me_lst (ma_cons (me_str [110, 117, 109] (by decide +kernel)) (ma_cons (me_str [110, 117, 109] (by decide +kernel)) (ma_cons (me_str [114, 111, 119] (by decide +kernel)) ma_nil)))) (me_lcC (own := [("_law_one", 3)]) rfl sc__law_kind.nd (mic_cell (me_var 1 (hv := Or.inr (Or.inl (by kernel_rfl))))) (blkOk_by (by kernel_rfl)) (tgo_name (by decide)) lcV_end (fun _ _ _ _ _ => (pg_n (i := 3) (hx := Or.inl (by kernel_rfl)) (hf := Or.inr (by kernel_rfl)) sc__law_kind.nd)) (fun _ _ _ _ _ => (mts_one (mt_lt (me_call (ok__law_least T n 20) (hr.mono (by decide)) (gl_of (by kernel_rfl)) T.m__law_least T.f__law_least.kp T.b__law_least takes0 (ma_cons (me_var 1 (hv := Or.inr (Or.inl (by kernel_rfl)))) (ma_cons (me_sub_ix hu (me_var 3 (hv := Or.inl (by kernel_rfl))) me_int (fun _ _ => by kernel_rfl)) ma_nil)) (aLen_cons (aLen_cons aLen_nil))) me_int))) (fun _ _ _ _ _ => (me_sub_ix hu (me_var 3 (hv := Or.inl (by kernel_rfl))) me_int (fun _ _ => by kernel_rfl))))))
  (mss_one (ms_ret (me_sub_ix hu (me_var 2 (hv := Or.inl (by kernel_rfl))) (me_call (ok__law_take T n) (hr.mono (by decide)) (gl_of (by kernel_rfl)) T.m__law_take T.f__law_take.kp T.b__law_take tk (ma_cons (me_var 0 (hv := Or.inl (by kernel_rfl))) (ma_cons (me_len (gl_of (by kernel_rfl)) T.z_len (ma_cons (me_var 2 (hv := Or.inl (by kernel_rfl))) ma_nil)) ma_nil)) (aLen_cons (aLen_cons aLen_nil))) (fun _ _ => by kernel_rfl)))))
theorem sc__law_records : FnScope ["_law_box_here", "_law_records_here", "_law_k", "_law_fields", "_law_n", "_law_kind_here", "_law_made"] ["_law_box_here"] (defScope s__law_records) := ⟨by kernel_rfl, by kernel_rfl, by kernel_rfl, by decide +kernel, by kernel_rfl, by decide +kernel, by decide +kernel⟩
set_option maxHeartbeats 4000000 in
theorem ok__law_records (T : Txt w K mg A) (n : Nat) : FnOk P w K mg base (L2.CX P w) 22 A.a__law_records A.d__law_records ["_law_box_here"] (spM ⟨w, K⟩ (F__law_records n) 1) :=
  def_okF ["_law_box_here", "_law_records_here", "_law_k", "_law_fields", "_law_n", "_law_kind_here", "_law_made"] ["_law_box_here"] (b__law_records n) (k := 21) (kk := 7) (nn := 1) (g := F__law_records n) (by kernel_rfl) (by kernel_rfl) (by kernel_rfl) T.f__law_records sc__law_records fun cdv Ar outer s H E hr => by
  have hu := hr.units
  have tk : Takes (cxOf (L2.CX P w) P w K mg base ["_law_box_here", "_law_records_here", "_law_k", "_law_fields", "_law_n", "_law_kind_here", "_law_made"] "_law_records" (defScope s__law_records) A.a__law_records cdv Ar outer s H E) (fun c d _ H => E c d H) := takes_of rfl rfl rfl rfl
  exact (mss_cons (ms_s (i := 1) (hx := Or.inl (by kernel_rfl)) (hf := Or.inr (by kernel_rfl)) sc__law_records.nd (me_lstN ma_nil))
  (mss_cons (ms_for (passes_of rfl) rfl (mi_range1 (gl_of (by kernel_rfl)) T.z_range (ma_cons (me_call (ok__law_take T n) (hr.mono (by decide)) (gl_of (by kernel_rfl)) T.m__law_take T.f__law_take.kp T.b__law_take tk (ma_cons (me_var 0 (hv := Or.inl (by kernel_rfl))) (ma_cons me_int ma_nil)) (aLen_cons (aLen_cons aLen_nil))) ma_nil)) (mg_n (i := 2) (hx := Or.inl (by kernel_rfl)) (hf := Or.inr (by kernel_rfl)) sc__law_records.nd) (mss_cons (ms_s (i := 3) (hx := Or.inl (by kernel_rfl)) (hf := Or.inr (by kernel_rfl)) sc__law_records.nd (me_lstN ma_nil))
  (mss_cons (ms_for (passes_of rfl) rfl (mi_range1 (gl_of (by kernel_rfl)) T.z_range (ma_cons (me_add me_int (me_call (ok__law_take T n) (hr.mono (by decide)) (gl_of (by kernel_rfl)) T.m__law_take T.f__law_take.kp T.b__law_take tk (ma_cons (me_var 0 (hv := Or.inl (by kernel_rfl))) (ma_cons me_int ma_nil)) (aLen_cons (aLen_cons aLen_nil)))) ma_nil)) (mg_n (i := 4) (hx := Or.inl (by kernel_rfl)) (hf := Or.inr (by kernel_rfl)) sc__law_records.nd) (mss_cons (ms_s (i := 5) (hx := Or.inl (by kernel_rfl)) (hf := Or.inr (by kernel_rfl)) sc__law_records.nd (me_call (ok__law_kind T n) (hr.mono (by decide)) (gl_of (by kernel_rfl)) T.m__law_kind T.f__law_kind.kp T.b__law_kind tk (ma_cons (me_var 0 (hv := Or.inl (by kernel_rfl))) (ma_cons (me_var 1 (hv := Or.inl (by kernel_rfl))) ma_nil)) (aLen_cons (aLen_cons aLen_nil))))
  (mss_cons (ms_s (i := 6) (hx := Or.inl (by kernel_rfl)) (hf := Or.inr (by kernel_rfl)) sc__law_records.nd (me_add (me_var 1 (hv := Or.inl (by kernel_rfl))) (me_lst (ma_cons (me_tup (ma_cons (me_str [120] (by decide +kernel)) (ma_cons (me_tupleOf (gl_of (by kernel_rfl)) T.z_tuple (ma_cons (me_add (me_var 3 (hv := Or.inl (by kernel_rfl))) (me_lst (ma_cons (me_tup (ma_cons (me_str [120] (by decide +kernel)) (ma_cons (me_var 5 (hv := Or.inl (by kernel_rfl))) ma_nil))) ma_nil))) ma_nil)) ma_nil))) ma_nil))))
  (mss_one (ms_if (mt_lt (me_len (gl_of (by kernel_rfl)) T.z_len (ma_cons (me_call (ok__law_parts T n 20) (hr.mono (by decide)) (gl_of (by kernel_rfl)) T.m__law_parts T.f__law_parts.kp T.b__law_parts tk (ma_cons (me_var 6 (hv := Or.inl (by kernel_rfl))) (ma_cons (me_str [120] (by decide +kernel)) ma_nil)) (aLen_cons (aLen_cons aLen_nil))) ma_nil)) me_int) (mss_one (ms_expr (me_append (me_var 3 (hv := Or.inl (by kernel_rfl))) (ma_cons (me_tup (ma_cons (me_sub_ix hu (me_lst (ma_cons (me_str [120] (by decide +kernel)) (ma_cons (me_str [121] (by decide +kernel)) (ma_cons (me_str [97, 98] (by decide +kernel)) (ma_cons (me_str [110] (by decide +kernel)) ma_nil))))) (me_var 4 (hv := Or.inl (by kernel_rfl))) (fun _ _ => by kernel_rfl)) (ma_cons (me_var 5 (hv := Or.inl (by kernel_rfl))) ma_nil))) ma_nil)))) mss_nil)))))
  (mss_one (ms_expr (me_append (me_var 1 (hv := Or.inl (by kernel_rfl))) (ma_cons (me_tup (ma_cons (me_sub_ix hu (me_lst (ma_cons (me_str [112, 97, 105, 114] (by decide +kernel)) (ma_cons (me_str [112] (by decide +kernel)) (ma_cons (me_str [110, 117, 109, 98, 101, 114, 115] (by decide +kernel)) (ma_cons (me_str [120, 121] (by decide +kernel)) ma_nil))))) (me_var 2 (hv := Or.inl (by kernel_rfl))) (fun _ _ => by kernel_rfl)) (ma_cons (me_tupleOf (gl_of (by kernel_rfl)) T.z_tuple (ma_cons (me_var 3 (hv := Or.inl (by kernel_rfl))) ma_nil)) ma_nil))) ma_nil)))))))
  (mss_one (ms_ret (me_var 1 (hv := Or.inl (by kernel_rfl)))))))
theorem sc__law_heads : FnScope ["_law_box_here", "_law_records_here", "_law_heads_here", "_law_k", "_law_pairs", "_law_n"] ["_law_box_here", "_law_records_here"] (defScope s__law_heads) := ⟨by kernel_rfl, by kernel_rfl, by kernel_rfl, by decide +kernel, by kernel_rfl, by decide +kernel, by decide +kernel⟩
set_option maxHeartbeats 4000000 in
theorem ok__law_heads (T : Txt w K mg A) (n : Nat) : FnOk P w K mg base (L2.CX P w) 22 A.a__law_heads A.d__law_heads ["_law_box_here", "_law_records_here"] (spM ⟨w, K⟩ (F__law_heads n) 2) :=
  def_okF ["_law_box_here", "_law_records_here", "_law_heads_here", "_law_k", "_law_pairs", "_law_n"] ["_law_box_here", "_law_records_here"] (b__law_heads n) (k := 21) (kk := 6) (nn := 2) (g := F__law_heads n) (by kernel_rfl) (by kernel_rfl) (by kernel_rfl) T.f__law_heads sc__law_heads fun cdv Ar outer s H E hr => by
  have hu := hr.units
  have tk : Takes (cxOf (L2.CX P w) P w K mg base ["_law_box_here", "_law_records_here", "_law_heads_here", "_law_k", "_law_pairs", "_law_n"] "_law_heads" (defScope s__law_heads) A.a__law_heads cdv Ar outer s H E) (fun c d _ H => E c d H) := takes_of rfl rfl rfl rfl
  exact (mss_cons (ms_s (i := 2) (hx := Or.inl (by kernel_rfl)) (hf := Or.inr (by kernel_rfl)) sc__law_heads.nd (me_lstN ma_nil))
  (mss_cons (ms_for (passes_of rfl) rfl (mi_range1 (gl_of (by kernel_rfl)) T.z_range (ma_cons (me_add me_int (me_call (ok__law_take T n) (hr.mono (by decide)) (gl_of (by kernel_rfl)) T.m__law_take T.f__law_take.kp T.b__law_take tk (ma_cons (me_var 0 (hv := Or.inl (by kernel_rfl))) (ma_cons me_int ma_nil)) (aLen_cons (aLen_cons aLen_nil)))) ma_nil)) (mg_n (i := 3) (hx := Or.inl (by kernel_rfl)) (hf := Or.inr (by kernel_rfl)) sc__law_heads.nd) (mss_cons (ms_s (i := 4) (hx := Or.inl (by kernel_rfl)) (hf := Or.inr (by kernel_rfl)) sc__law_heads.nd (me_lstN ma_nil))
  (mss_cons (ms_for (passes_of rfl) rfl (mi_range1 (gl_of (by kernel_rfl)) T.z_range (ma_cons (me_call (ok__law_take T n) (hr.mono (by decide)) (gl_of (by kernel_rfl)) T.m__law_take T.f__law_take.kp T.b__law_take tk (ma_cons (me_var 0 (hv := Or.inl (by kernel_rfl))) (ma_cons me_int ma_nil)) (aLen_cons (aLen_cons aLen_nil))) ma_nil)) (mg_n (i := 5) (hx := Or.inl (by kernel_rfl)) (hf := Or.inr (by kernel_rfl)) sc__law_heads.nd) (mss_one (ms_expr (me_append (me_var 4 (hv := Or.inl (by kernel_rfl))) (ma_cons (me_tup (ma_cons (me_sub_ix hu (me_lst (ma_cons (me_str [97] (by decide +kernel)) (ma_cons (me_str [97, 98] (by decide +kernel)) (ma_cons (me_str [120] (by decide +kernel)) (ma_cons (me_str [112, 97, 105, 114] (by decide +kernel)) ma_nil))))) (me_var 5 (hv := Or.inl (by kernel_rfl))) (fun _ _ => by kernel_rfl)) (ma_cons (me_call (ok__law_kind T n) (hr.mono (by decide)) (gl_of (by kernel_rfl)) T.m__law_kind T.f__law_kind.kp T.b__law_kind tk (ma_cons (me_var 0 (hv := Or.inl (by kernel_rfl))) (ma_cons (me_var 1 (hv := Or.inl (by kernel_rfl))) ma_nil)) (aLen_cons (aLen_cons aLen_nil))) ma_nil))) ma_nil)))))
  (mss_one (ms_expr (me_append (me_var 2 (hv := Or.inl (by kernel_rfl))) (ma_cons (me_tup (ma_cons (me_sub_ix hu (me_lst (ma_cons (me_str [109, 97, 105, 110] (by decide +kernel)) (ma_cons (me_str [102] (by decide +kernel)) (ma_cons (me_str [112, 97, 105, 114] (by decide +kernel)) ma_nil)))) (me_var 3 (hv := Or.inl (by kernel_rfl))) (fun _ _ => by kernel_rfl)) (ma_cons (me_call (ok__law_kind T n) (hr.mono (by decide)) (gl_of (by kernel_rfl)) T.m__law_kind T.f__law_kind.kp T.b__law_kind tk (ma_cons (me_var 0 (hv := Or.inl (by kernel_rfl))) (ma_cons (me_var 1 (hv := Or.inl (by kernel_rfl))) ma_nil)) (aLen_cons (aLen_cons aLen_nil))) (ma_cons (me_tupX (gl_of (by kernel_rfl)) T.z_tuple (ma_cons (me_var 4 (hv := Or.inl (by kernel_rfl))) ma_nil)) ma_nil)))) ma_nil)))))))
  (mss_one (ms_ret (me_var 2 (hv := Or.inl (by kernel_rfl)))))))
theorem sc__law_ways : FnScope ["_law_records_here", "_law_known", "_law_ways_here", "_law_k", "_law_more", "_law_path", "_law_kind_here", "_law_name", "_law_field"] ["_law_records_here", "_law_known"] (defScope s__law_ways) := ⟨by kernel_rfl, by kernel_rfl, by kernel_rfl, by decide +kernel, by kernel_rfl, by decide +kernel, by decide +kernel⟩
set_option maxHeartbeats 4000000 in
theorem ok__law_ways (T : Txt w K mg A) (n : Nat) : FnOk P w K mg base (L2.CX P w) 1 A.a__law_ways A.d__law_ways ["_law_records_here", "_law_known"] (spM ⟨w, K⟩ (F__law_ways n) 2) :=
  def_okF ["_law_records_here", "_law_known", "_law_ways_here", "_law_k", "_law_more", "_law_path", "_law_kind_here", "_law_name", "_law_field"] ["_law_records_here", "_law_known"] (b__law_ways n) (k := 0) (kk := 9) (nn := 2) (g := F__law_ways n) (by kernel_rfl) (by kernel_rfl) (by kernel_rfl) T.f__law_ways sc__law_ways fun cdv Ar outer s H E hr => by
  have hu := hr.units
  have tk : Takes (cxOf (L2.CX P w) P w K mg base ["_law_records_here", "_law_known", "_law_ways_here", "_law_k", "_law_more", "_law_path", "_law_kind_here", "_law_name", "_law_field"] "_law_ways" (defScope s__law_ways) A.a__law_ways cdv Ar outer s H E) (fun c d _ H => E c d H) := takes_of rfl rfl rfl rfl
  exact (mss_cons (ms_setLc (i := 2) (own := [("_law_name", 7)]) rfl sc__law_ways.nd rfl rfl (sw_true rfl rfl rfl (by decide +kernel)) (mi_seq (me_sorted rfl (gl_of (by kernel_rfl)) T.z_sorted (ma_cons (me_var 1 (hv := Or.inr (Or.inl (by kernel_rfl)))) ma_nil))) (blkOk_by (by kernel_rfl)) (tgo_name (by decide)) lcV_end (fun _ _ _ _ _ => (pg_n (i := 7) (hx := Or.inl (by kernel_rfl)) (hf := Or.inr (by kernel_rfl)) sc__law_ways.nd)) (fun _ _ _ _ _ => mts_nil) (fun _ _ _ _ _ => (me_tup (ma_cons (me_tup (ma_cons (me_var 7 (hv := Or.inl (by kernel_rfl))) ma_nil)) (ma_cons (me_sub_ix hu (me_var 1 (hv := Or.inr (Or.inl (by kernel_rfl)))) (me_var 7 (hv := Or.inl (by kernel_rfl))) (fun _ _ => by kernel_rfl)) ma_nil)))))
  (mss_cons (ms_for (passes_of rfl) rfl (mi_range1 (gl_of (by kernel_rfl)) T.z_range (ma_cons me_int ma_nil)) (mg_n (i := 3) (hx := Or.inl (by kernel_rfl)) (hf := Or.inr (by kernel_rfl)) sc__law_ways.nd) (mss_cons (ms_s (i := 4) (hx := Or.inl (by kernel_rfl)) (hf := Or.inr (by kernel_rfl)) sc__law_ways.nd (me_lst ma_nil))
  (mss_cons (ms_for (passes_of rfl) rfl (mi_seq (me_var 2 (hv := Or.inl (by kernel_rfl)))) (mg_tup rfl (mgs_cons (mg_n (i := 5) (hx := Or.inr (by kernel_rfl)) (hf := Or.inl (by kernel_rfl)) sc__law_ways.nd) (mgs_cons (mg_n (i := 6) (hx := Or.inl (by kernel_rfl)) (hf := Or.inr (by kernel_rfl)) sc__law_ways.nd) mgs_nil))) (mss_one (ms_if (mt_of (mw_and (mt_eq hr.units (me_len (gl_of (by kernel_rfl)) T.z_len (ma_cons (me_var 5 (hv := Or.inr (Or.inl (by kernel_rfl)))) ma_nil)) (me_add (me_var 3 (hv := Or.inl (by kernel_rfl))) me_int)) (mw_and1 (mt_notin hu (me_var 6 (hv := Or.inl (by kernel_rfl))) (me_tup (ma_cons (me_str [110, 117, 109] (by decide +kernel)) (ma_cons (me_str [114, 111, 119] (by decide +kernel)) ma_nil))) (by kernel_rfl))))) (mss_one (ms_s (i := 4) (hx := Or.inl (by kernel_rfl)) (hf := Or.inr (by kernel_rfl)) sc__law_ways.nd (me_add (me_var 4 (hv := Or.inl (by kernel_rfl))) (me_lc (own := [("_law_field", 8)]) rfl sc__law_ways.nd (mi_seq (me_sub_ix hu (me_dictOf rfl (gl_of (by kernel_rfl)) T.z_dict (ma_cons (me_var 0 (hv := Or.inl (by kernel_rfl))) ma_nil)) (me_var 6 (hv := Or.inl (by kernel_rfl))) (fun _ _ => by kernel_rfl))) (blkOk_by (by kernel_rfl)) (tgo_name (by decide)) lcV_end (fun _ _ _ _ _ => (pg_n (i := 8) (hx := Or.inl (by kernel_rfl)) (hf := Or.inr (by kernel_rfl)) sc__law_ways.nd)) (fun _ _ _ _ _ => mts_nil) (fun _ _ _ _ _ => (me_tup (ma_cons (me_add (me_var 5 (hv := Or.inr (Or.inl (by kernel_rfl)))) (me_tup (ma_cons (me_sub_ix hu (me_var 8 (hv := Or.inl (by kernel_rfl))) me_int (fun _ _ => by kernel_rfl)) ma_nil))) (ma_cons (me_sub_ix hu (me_var 8 (hv := Or.inl (by kernel_rfl))) me_int (fun _ _ => by kernel_rfl)) ma_nil)))))))) mss_nil)))
  (mss_one (ms_s (i := 2) (hx := Or.inl (by kernel_rfl)) (hf := Or.inr (by kernel_rfl)) sc__law_ways.nd (me_add (me_var 2 (hv := Or.inl (by kernel_rfl))) (me_var 4 (hv := Or.inl (by kernel_rfl)))))))))
  (mss_one (ms_ret (me_var 2 (hv := Or.inl (by kernel_rfl)))))))
theorem sc__law_forms : FnScope ["_law_game", "_law_kind_here", "_law_forms_here", "_law_name", "_law_fields", "_law_told", "_law_pairs", "_law_word", "_law_one"] ["_law_game", "_law_kind_here"] (defScope s__law_forms) := ⟨by kernel_rfl, by kernel_rfl, by kernel_rfl, by decide +kernel, by kernel_rfl, by decide +kernel, by decide +kernel⟩
set_option maxHeartbeats 4000000 in
theorem ok__law_forms (T : Txt w K mg A) (n : Nat) : FnOk P w K mg base (L2.CX P w) 1 A.a__law_forms A.d__law_forms ["_law_game", "_law_kind_here"] (spM ⟨w, K⟩ (F__law_forms n) 2) :=
  def_okF ["_law_game", "_law_kind_here", "_law_forms_here", "_law_name", "_law_fields", "_law_told", "_law_pairs", "_law_word", "_law_one"] ["_law_game", "_law_kind_here"] (b__law_forms n) (k := 0) (kk := 9) (nn := 2) (g := F__law_forms n) (by kernel_rfl) (by kernel_rfl) (by kernel_rfl) T.f__law_forms sc__law_forms fun cdv Ar outer s H E hr => by
  have hu := hr.units
  have tk : Takes (cxOf (L2.CX P w) P w K mg base ["_law_game", "_law_kind_here", "_law_forms_here", "_law_name", "_law_fields", "_law_told", "_law_pairs", "_law_word", "_law_one"] "_law_forms" (defScope s__law_forms) A.a__law_forms cdv Ar outer s H E) (fun c d _ H => E c d H) := takes_of rfl rfl rfl rfl
  exact (mss_cons (ms_s (i := 2) (hx := Or.inl (by kernel_rfl)) (hf := Or.inr (by kernel_rfl)) sc__law_forms.nd (me_lstN ma_nil))
  (mss_cons (ms_if (mt_eq hr.units (me_var 1 (hv := Or.inl (by kernel_rfl))) (me_str [110, 117, 109] (by decide +kernel))) (mss_cons (ms_setLc (i := 2) (own := [("_law_word", 7)]) rfl sc__law_forms.nd rfl rfl (sw_true rfl rfl rfl (by decide +kernel)) (mi_seq (me_lst (ma_cons (me_str [97, 100, 100] (by decide +kernel)) (ma_cons (me_str [115, 117, 98] (by decide +kernel)) (ma_cons (me_str [109, 117, 108] (by decide +kernel)) (ma_cons (me_str [100, 105, 118] (by decide +kernel)) (ma_cons (me_str [114, 101, 115, 116] (by decide +kernel)) (ma_cons (me_str [108, 101, 115, 115] (by decide +kernel)) (ma_cons (me_str [115, 97, 109, 101] (by decide +kernel)) ma_nil))))))))) (blkOk_by (by kernel_rfl)) (tgo_name (by decide)) lcN_end (fun _ _ _ _ _ => (pg_n (i := 7) (hx := Or.inl (by kernel_rfl)) (hf := Or.inr (by kernel_rfl)) sc__law_forms.nd)) (fun _ _ _ _ _ => mts_nil) (fun _ _ _ _ _ => (me_tup (ma_cons (me_var 7 (hv := Or.inl (by kernel_rfl))) (ma_cons (me_lst (ma_cons (me_str [110, 117, 109] (by decide +kernel)) (ma_cons (me_str [110, 117, 109] (by decide +kernel)) ma_nil))) ma_nil)))))
  (mss_cons (ms_s (i := 2) (hx := Or.inl (by kernel_rfl)) (hf := Or.inr (by kernel_rfl)) sc__law_forms.nd (me_addN (me_var 2 (hv := Or.inl (by kernel_rfl))) (me_lst (ma_cons (me_tup (ma_cons (me_str [112, 105, 99, 107] (by decide +kernel)) (ma_cons (me_lst (ma_cons (me_str [110, 117, 109] (by decide +kernel)) (ma_cons (me_str [110, 117, 109] (by decide +kernel)) (ma_cons (me_str [110, 117, 109] (by decide +kernel)) ma_nil)))) ma_nil))) (ma_cons (me_tup (ma_cons (me_str [97, 116] (by decide +kernel)) (ma_cons (me_lst (ma_cons (me_str [114, 111, 119] (by decide +kernel)) (ma_cons (me_str [110, 117, 109] (by decide +kernel)) ma_nil))) ma_nil))) (ma_cons (me_tup (ma_cons (me_str [115, 105, 122, 101] (by decide +kernel)) (ma_cons (me_lst (ma_cons (me_str [114, 111, 119] (by decide +kernel)) ma_nil)) ma_nil))) ma_nil))))))
  (mss_cons (ms_expr (me_append (me_var 2 (hv := Or.inl (by kernel_rfl))) (ma_cons (me_tup (ma_cons (me_str [110, 111, 116] (by decide +kernel)) (ma_cons (me_lst (ma_cons (me_str [110, 117, 109] (by decide +kernel)) ma_nil)) ma_nil))) ma_nil)))
  (mss_one (ms_if (mt_gt (me_sub_ix hu (me_var 0 (hv := Or.inl (by kernel_rfl))) (me_str [119, 97, 121, 115] (by decide +kernel)) (fun _ _ => by kernel_rfl)) me_int) (mss_one (ms_s (i := 2) (hx := Or.inl (by kernel_rfl)) (hf := Or.inr (by kernel_rfl)) sc__law_forms.nd (me_addN (me_var 2 (hv := Or.inl (by kernel_rfl))) (me_lst (ma_cons (me_tup (ma_cons (me_str [97, 110, 100] (by decide +kernel)) (ma_cons (me_lst (ma_cons (me_str [110, 117, 109] (by decide +kernel)) (ma_cons (me_str [110, 117, 109] (by decide +kernel)) ma_nil))) ma_nil))) (ma_cons (me_tup (ma_cons (me_str [111, 114] (by decide +kernel)) (ma_cons (me_lst (ma_cons (me_str [110, 117, 109] (by decide +kernel)) (ma_cons (me_str [110, 117, 109] (by decide +kernel)) ma_nil))) ma_nil))) ma_nil)))))) mss_nil))))) mss_nil)
  (mss_cons (ms_if (mt_eq hr.units (me_var 1 (hv := Or.inl (by kernel_rfl))) (me_str [114, 111, 119] (by decide +kernel))) (mss_one (ms_s (i := 2) (hx := Or.inl (by kernel_rfl)) (hf := Or.inr (by kernel_rfl)) sc__law_forms.nd (me_lstN (ma_cons (me_tup (ma_cons (me_str [112, 117, 116] (by decide +kernel)) (ma_cons (me_lst (ma_cons (me_str [114, 111, 119] (by decide +kernel)) (ma_cons (me_str [110, 117, 109] (by decide +kernel)) (ma_cons (me_str [110, 117, 109] (by decide +kernel)) ma_nil)))) ma_nil))) (ma_cons (me_tup (ma_cons (me_str [109, 97, 110, 121] (by decide +kernel)) (ma_cons (me_lst (ma_cons (me_str [110, 117, 109] (by decide +kernel)) (ma_cons (me_str [110, 117, 109] (by decide +kernel)) ma_nil))) ma_nil))) (ma_cons (me_tup (ma_cons (me_str [109, 97, 107, 101] (by decide +kernel)) (ma_cons (me_lst (ma_cons (me_str [110, 117, 109] (by decide +kernel)) ma_nil)) ma_nil))) (ma_cons (me_tup (ma_cons (me_str [109, 97, 107, 101] (by decide +kernel)) (ma_cons (me_mulL (me_lst (ma_cons (me_str [110, 117, 109] (by decide +kernel)) ma_nil)) me_int) ma_nil))) ma_nil))))))) mss_nil)
  (mss_cons (ms_forC (passes_of rfl) rfl (mic_cell (me_sub_ix hu (me_var 0 (hv := Or.inl (by kernel_rfl))) (me_str [114, 101, 99, 111, 114, 100, 115] (by decide +kernel)) (fun _ _ => by kernel_rfl))) (mg_tup rfl (mgs_cons (mg_n (i := 3) (hx := Or.inl (by kernel_rfl)) (hf := Or.inr (by kernel_rfl)) sc__law_forms.nd) (mgs_cons (mg_n (i := 4) (hx := Or.inl (by kernel_rfl)) (hf := Or.inr (by kernel_rfl)) sc__law_forms.nd) mgs_nil))) (mss_one (ms_if (mt_eq hr.units (me_var 3 (hv := Or.inl (by kernel_rfl))) (me_var 1 (hv := Or.inl (by kernel_rfl)))) (mss_one (ms_expr (me_append (me_var 2 (hv := Or.inl (by kernel_rfl))) (ma_cons (me_tup (ma_cons (me_str [110, 101, 119] (by decide +kernel)) (ma_cons (me_var 3 (hv := Or.inl (by kernel_rfl))) (ma_cons (me_lc (own := [("_law_one", 8)]) rfl sc__law_forms.nd (mi_seq (me_var 4 (hv := Or.inl (by kernel_rfl)))) (blkOk_by (by kernel_rfl)) (tgo_name (by decide)) lcV_end (fun _ _ _ _ _ => (pg_n (i := 8) (hx := Or.inl (by kernel_rfl)) (hf := Or.inr (by kernel_rfl)) sc__law_forms.nd)) (fun _ _ _ _ _ => mts_nil) (fun _ _ _ _ _ => (me_sub_ix hu (me_var 8 (hv := Or.inl (by kernel_rfl))) me_int (fun _ _ => by kernel_rfl)))) ma_nil)))) ma_nil)))) mss_nil)))
  (mss_cons (ms_forC (passes_of rfl) rfl (mic_cell (me_sub_ix hu (me_var 0 (hv := Or.inl (by kernel_rfl))) (me_str [104, 101, 97, 100, 115] (by decide +kernel)) (fun _ _ => by kernel_rfl))) (mg_tup rfl (mgs_cons (mg_n (i := 3) (hx := Or.inl (by kernel_rfl)) (hf := Or.inr (by kernel_rfl)) sc__law_forms.nd) (mgs_cons (mg_n (i := 5) (hx := Or.inl (by kernel_rfl)) (hf := Or.inr (by kernel_rfl)) sc__law_forms.nd) (mgs_cons (mg_n (i := 6) (hx := Or.inl (by kernel_rfl)) (hf := Or.inr (by kernel_rfl)) sc__law_forms.nd) mgs_nil)))) (mss_one (ms_if (mt_of (mw_and (mt_eq hr.units (me_var 5 (hv := Or.inl (by kernel_rfl))) (me_var 1 (hv := Or.inl (by kernel_rfl)))) (mw_and1 (mt_gt (me_sub_ix hu (me_var 0 (hv := Or.inl (by kernel_rfl))) (me_str [119, 97, 121, 115] (by decide +kernel)) (fun _ _ => by kernel_rfl)) me_int)))) (mss_one (ms_expr (me_append (me_var 2 (hv := Or.inl (by kernel_rfl))) (ma_cons (me_tup (ma_cons (me_str [99, 97, 108, 108] (by decide +kernel)) (ma_cons (me_var 3 (hv := Or.inl (by kernel_rfl))) (ma_cons (me_lc (own := [("_law_one", 8)]) rfl sc__law_forms.nd (mi_seq (me_wk (me_var 6 (hv := Or.inl (by kernel_rfl))))) (blkOk_by (by kernel_rfl)) (tgo_name (by decide)) lcV_end (fun _ _ _ _ _ => (pg_n (i := 8) (hx := Or.inl (by kernel_rfl)) (hf := Or.inr (by kernel_rfl)) sc__law_forms.nd)) (fun _ _ _ _ _ => mts_nil) (fun _ _ _ _ _ => (me_sub_ix hu (me_var 8 (hv := Or.inl (by kernel_rfl))) me_int (fun _ _ => by kernel_rfl)))) ma_nil)))) ma_nil)))) mss_nil)))
  (mss_one (ms_ret (me_var 2 (hv := Or.inl (by kernel_rfl))))))))))
theorem sc__law_plain : FnScope ["_law_game", "_law_known", "_law_kind_here", "_law_paths", "_law_fields", "_law_path", "_law_one"] ["_law_game", "_law_known", "_law_kind_here"] (defScope s__law_plain) := ⟨by kernel_rfl, by kernel_rfl, by kernel_rfl, by decide +kernel, by kernel_rfl, by decide +kernel, by decide +kernel⟩
set_option maxHeartbeats 4000000 in
theorem st__law_plain (T : Txt w K mg A) (n d : Nat) (rc__law_plain : FnOk P w K mg base (L2.CX P w) (2 + d) A.a__law_plain A.d__law_plain ["_law_game", "_law_known", "_law_kind_here"] (spM ⟨w, K⟩ (F__law_plain n d) 3)) : FnOk P w K mg base (L2.CX P w) (2 + (d + 1)) A.a__law_plain A.d__law_plain ["_law_game", "_law_known", "_law_kind_here"] (spM ⟨w, K⟩ (F__law_plain n (d + 1)) 3) :=
  def_okF ["_law_game", "_law_known", "_law_kind_here", "_law_paths", "_law_fields", "_law_path", "_law_one"] ["_law_game", "_law_known", "_law_kind_here"] (b__law_plain n (F__law_plain n d)) (k := 2 + d) (kk := 7) (nn := 3) (g := F__law_plain n (d + 1)) (by unfold F__law_plain; first | rfl | rw [G__law_plain]) (by kernel_rfl) (by kernel_rfl) T.f__law_plain sc__law_plain fun cdv Ar outer s H E hr => by
  have hu := hr.units
  have tk : Takes (cxOf (L2.CX P w) P w K mg base ["_law_game", "_law_known", "_law_kind_here", "_law_paths", "_law_fields", "_law_path", "_law_one"] "_law_plain" (defScope s__law_plain) A.a__law_plain cdv Ar outer s H E) (fun c d _ H => E c d H) := takes_of rfl rfl rfl rfl
  exact (mss_cons (ms_setLc (i := 3) (own := [("_law_path", 5), ("_law_one", 6)]) rfl sc__law_plain.nd rfl rfl (sw_true rfl rfl rfl (by decide +kernel)) (mi_seq (me_call (ok__law_ways T n) (hr.mono (by omega)) (gl_of (by kernel_rfl)) T.m__law_ways T.f__law_ways.kp T.b__law_ways tk (ma_cons (me_sub_ix hu (me_var 0 (hv := Or.inr (Or.inl (by kernel_rfl)))) (me_str [114, 101, 99, 111, 114, 100, 115] (by decide +kernel)) (fun _ _ => by kernel_rfl)) (ma_cons (me_var 1 (hv := Or.inr (Or.inl (by kernel_rfl)))) ma_nil)) (aLen_cons (aLen_cons aLen_nil)))) (blkOk_by (by kernel_rfl)) (tgo_tup (tgos_cons (tgo_name (by decide)) (tgos_cons (tgo_name (by decide)) tgos_nil))) lcV_end (fun _ _ _ _ _ => (pg_tup rfl (pgs_cons (pg_n (i := 5) (hx := Or.inl (by kernel_rfl)) (hf := Or.inr (by kernel_rfl)) sc__law_plain.nd) (pgs_cons (pg_n (i := 6) (hx := Or.inl (by kernel_rfl)) (hf := Or.inr (by kernel_rfl)) sc__law_plain.nd) pgs_nil)))) (fun _ _ _ _ _ => (mts_one (mt_eq hr.units (me_var 6 (hv := Or.inl (by kernel_rfl))) (me_var 2 (hv := Or.inr (Or.inl (by kernel_rfl))))))) (fun _ _ _ _ _ => (me_var 5 (hv := Or.inl (by kernel_rfl)))))
  (mss_cons (ms_if (mt_of (mw_and (mt_gt (me_len (gl_of (by kernel_rfl)) T.z_len (ma_cons (me_var 3 (hv := Or.inl (by kernel_rfl))) ma_nil)) me_int) (mw_and1 (mt_gt (me_call (ok__law_take T n) (hr.mono (by omega)) (gl_of (by kernel_rfl)) T.m__law_take T.f__law_take.kp T.b__law_take tk (ma_cons (me_sub_ix hu (me_var 0 (hv := Or.inr (Or.inl (by kernel_rfl)))) (me_str [98, 111, 120] (by decide +kernel)) (fun _ _ => by kernel_rfl)) (ma_cons me_int ma_nil)) (aLen_cons (aLen_cons aLen_nil))) me_int)))) (mss_one (ms_ret (me_tup (ma_cons (me_str [111, 102] (by decide +kernel)) (ma_cons (me_sub_ix hu (me_var 3 (hv := Or.inl (by kernel_rfl))) (me_call (ok__law_take T n) (hr.mono (by omega)) (gl_of (by kernel_rfl)) T.m__law_take T.f__law_take.kp T.b__law_take tk (ma_cons (me_sub_ix hu (me_var 0 (hv := Or.inr (Or.inl (by kernel_rfl)))) (me_str [98, 111, 120] (by decide +kernel)) (fun _ _ => by kernel_rfl)) (ma_cons (me_len (gl_of (by kernel_rfl)) T.z_len (ma_cons (me_var 3 (hv := Or.inl (by kernel_rfl))) ma_nil)) ma_nil)) (aLen_cons (aLen_cons aLen_nil))) (fun _ _ => by kernel_rfl)) ma_nil))))) mss_nil)
  (mss_cons (ms_if (mt_eq hr.units (me_var 2 (hv := Or.inr (Or.inl (by kernel_rfl)))) (me_str [110, 117, 109] (by decide +kernel))) (mss_one (ms_ret (me_call (ok__law_number T n) (hr.mono (by omega)) (gl_of (by kernel_rfl)) T.m__law_number T.f__law_number.kp T.b__law_number tk (ma_cons (me_sub_ix hu (me_var 0 (hv := Or.inr (Or.inl (by kernel_rfl)))) (me_str [98, 111, 120] (by decide +kernel)) (fun _ _ => by kernel_rfl)) ma_nil) (aLen_cons aLen_nil)))) mss_nil)
  (mss_cons (ms_if (mt_eq hr.units (me_var 2 (hv := Or.inr (Or.inl (by kernel_rfl)))) (me_str [114, 111, 119] (by decide +kernel))) (mss_one (ms_ret (me_tup (ma_cons (me_str [109, 97, 107, 101] (by decide +kernel)) ma_nil)))) mss_nil)
  (mss_cons (ms_s (i := 4) (hx := Or.inl (by kernel_rfl)) (hf := Or.inr (by kernel_rfl)) sc__law_plain.nd (me_sub_ix hu (me_dictOf rfl (gl_of (by kernel_rfl)) T.z_dict (ma_cons (me_sub_ix hu (me_var 0 (hv := Or.inr (Or.inl (by kernel_rfl)))) (me_str [114, 101, 99, 111, 114, 100, 115] (by decide +kernel)) (fun _ _ => by kernel_rfl)) ma_nil)) (me_var 2 (hv := Or.inr (Or.inl (by kernel_rfl)))) (fun _ _ => by kernel_rfl)))
  (mss_one (ms_ret (me_add (me_tup (ma_cons (me_str [110, 101, 119] (by decide +kernel)) (ma_cons (me_var 2 (hv := Or.inr (Or.inl (by kernel_rfl)))) ma_nil))) (me_tupleOf (gl_of (by kernel_rfl)) T.z_tuple (ma_cons (me_lc (own := [("_law_one", 6)]) rfl sc__law_plain.nd (mi_seq (me_var 4 (hv := Or.inl (by kernel_rfl)))) (blkOk_by (by kernel_rfl)) (tgo_name (by decide)) lcV_end (fun _ _ _ _ _ => (pg_n (i := 6) (hx := Or.inl (by kernel_rfl)) (hf := Or.inr (by kernel_rfl)) sc__law_plain.nd)) (fun _ _ _ _ _ => mts_nil) (fun _ _ _ _ _ => (me_call (rc__law_plain) (hr.mono (by omega)) (gl_of (by kernel_rfl)) T.m__law_plain T.f__law_plain.kp T.b__law_plain takes0 (ma_cons (me_var 0 (hv := Or.inr (Or.inl (by kernel_rfl)))) (ma_cons (me_var 1 (hv := Or.inr (Or.inl (by kernel_rfl)))) (ma_cons (me_sub_ix hu (me_var 6 (hv := Or.inl (by kernel_rfl))) me_int (fun _ _ => by kernel_rfl)) ma_nil))) (aLen_cons (aLen_cons (aLen_cons aLen_nil)))))) ma_nil))))))))))
theorem all__law_plain (T : Txt w K mg A) (n : Nat) : ∀ d : Nat, FnOk P w K mg base (L2.CX P w) (2 + d) A.a__law_plain A.d__law_plain ["_law_game", "_law_known", "_law_kind_here"] (spM ⟨w, K⟩ (F__law_plain n d) 3)
  | 0 => (by unfold F__law_plain; first | exact fnOk_no | (rw [G__law_plain]; exact fnOk_no))
  | d + 1 => st__law_plain T n d (all__law_plain T n d)
theorem ok__law_plain (T : Txt w K mg A) (n d : Nat) : FnOk P w K mg base (L2.CX P w) (2 + d) A.a__law_plain A.d__law_plain ["_law_game", "_law_known", "_law_kind_here"] (spM ⟨w, K⟩ (F__law_plain n d) 3) := (all__law_plain T n d)
theorem sc__law_expr : FnScope ["_law_game", "_law_known", "_law_kind_here", "_law_room", "_law_forms_here", "_law_form", "_law_least_here", "_law_within_here", "_law_one", "_law_e"] ["_law_game", "_law_known", "_law_kind_here", "_law_room"] (defScope s__law_expr) := ⟨by kernel_rfl, by kernel_rfl, by kernel_rfl, by decide +kernel, by kernel_rfl, by decide +kernel, by decide +kernel⟩
set_option maxHeartbeats 4000000 in
theorem st__law_expr (T : Txt w K mg A) (n d : Nat) (rc__law_expr : FnOk P w K mg base (L2.CX P w) (22 + d) A.a__law_expr A.d__law_expr ["_law_game", "_law_known", "_law_kind_here", "_law_room"] (spM ⟨w, K⟩ (F__law_expr n d) 4)) : FnOk P w K mg base (L2.CX P w) (22 + (d + 1)) A.a__law_expr A.d__law_expr ["_law_game", "_law_known", "_law_kind_here", "_law_room"] (spM ⟨w, K⟩ (F__law_expr n (d + 1)) 4) :=
  def_okF ["_law_game", "_law_known", "_law_kind_here", "_law_room", "_law_forms_here", "_law_form", "_law_least_here", "_law_within_here", "_law_one", "_law_e"] ["_law_game", "_law_known", "_law_kind_here", "_law_room"] (b__law_expr n (F__law_expr n d)) (k := 22 + d) (kk := 10) (nn := 4) (g := F__law_expr n (d + 1)) (by unfold F__law_expr; first | rfl | rw [G__law_expr]) (by kernel_rfl) (by kernel_rfl) T.f__law_expr sc__law_expr fun cdv Ar outer s H E hr => by
  have hu := hr.units
  have tk : Takes (cxOf (L2.CX P w) P w K mg base ["_law_game", "_law_known", "_law_kind_here", "_law_room", "_law_forms_here", "_law_form", "_law_least_here", "_law_within_here", "_law_one", "_law_e"] "_law_expr" (defScope s__law_expr) A.a__law_expr cdv Ar outer s H E) (fun c d _ H => E c d H) := takes_of rfl rfl rfl rfl
  exact (mss_cons (ms_s (i := 4) (hx := Or.inl (by kernel_rfl)) (hf := Or.inr (by kernel_rfl)) sc__law_expr.nd (me_lstN ma_nil))
  (mss_cons (ms_forC (passes_of rfl) rfl (mic_cell (me_call (ok__law_forms T n) (hr.mono (by omega)) (gl_of (by kernel_rfl)) T.m__law_forms T.f__law_forms.kp T.b__law_forms tk (ma_cons (me_var 0 (hv := Or.inr (Or.inl (by kernel_rfl)))) (ma_cons (me_var 2 (hv := Or.inl (by kernel_rfl))) ma_nil)) (aLen_cons (aLen_cons aLen_nil)))) (mg_n (i := 5) (hx := Or.inl (by kernel_rfl)) (hf := Or.inr (by kernel_rfl)) sc__law_expr.nd) (mss_cons (ms_s (i := 6) (hx := Or.inl (by kernel_rfl)) (hf := Or.inr (by kernel_rfl)) sc__law_expr.nd (me_add (me_sub (me_len (gl_of (by kernel_rfl)) T.z_len (ma_cons (me_var 5 (hv := Or.inl (by kernel_rfl))) ma_nil)) me_int) (me_sum rfl (gl_of (by kernel_rfl)) T.z_sum (ma_cons (me_lc (own := [("_law_one", 8)]) rfl sc__law_expr.nd (mi_seq (me_sub_ix hu (me_var 5 (hv := Or.inl (by kernel_rfl))) (me_neg me_int) (fun _ _ => by kernel_rfl))) (blkOk_by (by kernel_rfl)) (tgo_name (by decide)) lcV_end (fun _ _ _ _ _ => (pg_n (i := 8) (hx := Or.inl (by kernel_rfl)) (hf := Or.inr (by kernel_rfl)) sc__law_expr.nd)) (fun _ _ _ _ _ => mts_nil) (fun _ _ _ _ _ => (me_call (ok__law_least T n 20) (hr.mono (by omega)) (gl_of (by kernel_rfl)) T.m__law_least T.f__law_least.kp T.b__law_least takes0 (ma_cons (me_sub_ix hu (me_var 0 (hv := Or.inr (Or.inl (by kernel_rfl)))) (me_str [114, 101, 99, 111, 114, 100, 115] (by decide +kernel)) (fun _ _ => by kernel_rfl)) (ma_cons (me_var 8 (hv := Or.inl (by kernel_rfl))) ma_nil)) (aLen_cons (aLen_cons aLen_nil))))) ma_nil))))
  (mss_cons (ms_s (i := 6) (hx := Or.inl (by kernel_rfl)) (hf := Or.inr (by kernel_rfl)) sc__law_expr.nd (me_add (me_var 6 (hv := Or.inl (by kernel_rfl))) (me_intOf (gl_of (by kernel_rfl)) T.z_int (ma_cons (me_in hu (me_sub_ix hu (me_var 5 (hv := Or.inl (by kernel_rfl))) me_int (fun _ _ => by kernel_rfl)) (me_tup (ma_cons (me_str [109, 97, 107, 101] (by decide +kernel)) (ma_cons (me_str [99, 97, 108, 108] (by decide +kernel)) (ma_cons (me_str [110, 101, 119] (by decide +kernel)) ma_nil)))) (by kernel_rfl)) ma_nil))))
  (mss_one (ms_if (mt_le (me_var 6 (hv := Or.inl (by kernel_rfl))) (me_var 3 (hv := Or.inl (by kernel_rfl)))) (mss_one (ms_expr (me_append (me_var 4 (hv := Or.inl (by kernel_rfl))) (ma_cons (me_tup (ma_cons (me_var 5 (hv := Or.inl (by kernel_rfl))) (ma_cons (me_var 6 (hv := Or.inl (by kernel_rfl))) ma_nil))) ma_nil)))) mss_nil)))))
  (mss_cons (ms_if (mt_of (mw_or (mt_eq hr.units (me_var 4 (hv := Or.inl (by kernel_rfl))) (me_lst ma_nil)) (mw_or1 (mt_eq hr.units (me_call (ok__law_take T n) (hr.mono (by omega)) (gl_of (by kernel_rfl)) T.m__law_take T.f__law_take.kp T.b__law_take tk (ma_cons (me_sub_ix hu (me_var 0 (hv := Or.inr (Or.inl (by kernel_rfl)))) (me_str [98, 111, 120] (by decide +kernel)) (fun _ _ => by kernel_rfl)) (ma_cons me_int ma_nil)) (aLen_cons (aLen_cons aLen_nil))) me_int)))) (mss_one (ms_ret (me_call (ok__law_plain T n 20) (hr.mono (by omega)) (gl_of (by kernel_rfl)) T.m__law_plain T.f__law_plain.kp T.b__law_plain tk (ma_cons (me_var 0 (hv := Or.inr (Or.inl (by kernel_rfl)))) (ma_cons (me_var 1 (hv := Or.inl (by kernel_rfl))) (ma_cons (me_var 2 (hv := Or.inl (by kernel_rfl))) ma_nil))) (aLen_cons (aLen_cons (aLen_cons aLen_nil)))))) mss_nil)
  (mss_cons (ms_asg (me_sub_ix hu (me_var 4 (hv := Or.inl (by kernel_rfl))) (me_call (ok__law_take T n) (hr.mono (by omega)) (gl_of (by kernel_rfl)) T.m__law_take T.f__law_take.kp T.b__law_take tk (ma_cons (me_sub_ix hu (me_var 0 (hv := Or.inr (Or.inl (by kernel_rfl)))) (me_str [98, 111, 120] (by decide +kernel)) (fun _ _ => by kernel_rfl)) (ma_cons (me_len (gl_of (by kernel_rfl)) T.z_len (ma_cons (me_var 4 (hv := Or.inl (by kernel_rfl))) ma_nil)) ma_nil)) (aLen_cons (aLen_cons aLen_nil))) (fun _ _ => by kernel_rfl)) (mg_tup rfl (mgs_cons (mg_n (i := 5) (hx := Or.inl (by kernel_rfl)) (hf := Or.inr (by kernel_rfl)) sc__law_expr.nd) (mgs_cons (mg_n (i := 6) (hx := Or.inl (by kernel_rfl)) (hf := Or.inr (by kernel_rfl)) sc__law_expr.nd) mgs_nil))))
  (mss_cons (ms_if (mt_in hu (me_sub_ix hu (me_var 5 (hv := Or.inl (by kernel_rfl))) me_int (fun _ _ => by kernel_rfl)) (me_tup (ma_cons (me_str [97, 110, 100] (by decide +kernel)) (ma_cons (me_str [111, 114] (by decide +kernel)) (ma_cons (me_str [99, 97, 108, 108] (by decide +kernel)) ma_nil)))) (by kernel_rfl)) (mss_one (ms_asg (me_sub (me_sub_ix hu (me_var 0 (hv := Or.inr (Or.inl (by kernel_rfl)))) (me_str [119, 97, 121, 115] (by decide +kernel)) (fun _ _ => by kernel_rfl)) me_int) (mg_sub hu (me_var 0 (hv := Or.inr (Or.inl (by kernel_rfl)))) (me_str [119, 97, 121, 115] (by decide +kernel))))) mss_nil)
  (mss_cons (ms_s (i := 7) (hx := Or.inl (by kernel_rfl)) (hf := Or.inr (by kernel_rfl)) sc__law_expr.nd (me_lstN ma_nil))
  (mss_cons (ms_for (passes_of rfl) rfl (mi_seq (me_sub_ix hu (me_var 5 (hv := Or.inl (by kernel_rfl))) (me_neg me_int) (fun _ _ => by kernel_rfl))) (mg_n (i := 8) (hx := Or.inl (by kernel_rfl)) (hf := Or.inr (by kernel_rfl)) sc__law_expr.nd) (mss_cons (ms_s (i := 6) (hx := Or.inl (by kernel_rfl)) (hf := Or.inr (by kernel_rfl)) sc__law_expr.nd (me_sub (me_var 6 (hv := Or.inl (by kernel_rfl))) (me_call (ok__law_least T n 20) (hr.mono (by omega)) (gl_of (by kernel_rfl)) T.m__law_least T.f__law_least.kp T.b__law_least tk (ma_cons (me_sub_ix hu (me_var 0 (hv := Or.inr (Or.inl (by kernel_rfl)))) (me_str [114, 101, 99, 111, 114, 100, 115] (by decide +kernel)) (fun _ _ => by kernel_rfl)) (ma_cons (me_var 8 (hv := Or.inl (by kernel_rfl))) ma_nil)) (aLen_cons (aLen_cons aLen_nil)))))
  (mss_cons (ms_s (i := 9) (hx := Or.inl (by kernel_rfl)) (hf := Or.inr (by kernel_rfl)) sc__law_expr.nd (me_call (rc__law_expr) (hr.mono (by omega)) (gl_of (by kernel_rfl)) T.m__law_expr T.f__law_expr.kp T.b__law_expr tk (ma_cons (me_var 0 (hv := Or.inr (Or.inl (by kernel_rfl)))) (ma_cons (me_var 1 (hv := Or.inl (by kernel_rfl))) (ma_cons (me_var 8 (hv := Or.inl (by kernel_rfl))) (ma_cons (me_sub (me_var 3 (hv := Or.inl (by kernel_rfl))) (me_var 6 (hv := Or.inl (by kernel_rfl)))) ma_nil)))) (aLen_cons (aLen_cons (aLen_cons (aLen_cons aLen_nil))))))
  (mss_cons (ms_expr (me_append (me_var 7 (hv := Or.inl (by kernel_rfl))) (ma_cons (me_var 9 (hv := Or.inl (by kernel_rfl))) ma_nil)))
  (mss_one (ms_s (i := 6) (hx := Or.inl (by kernel_rfl)) (hf := Or.inr (by kernel_rfl)) sc__law_expr.nd (me_add (me_var 6 (hv := Or.inl (by kernel_rfl))) (me_len (gl_of (by kernel_rfl)) T.z_len (ma_cons (me_call (ok__law_words_of T n 20) (hr.mono (by omega)) (gl_of (by kernel_rfl)) T.m__law_words_of T.f__law_words_of.kp T.b__law_words_of tk (ma_cons (me_var 9 (hv := Or.inl (by kernel_rfl))) ma_nil) (aLen_cons aLen_nil)) ma_nil)))))))))
  (mss_one (ms_ret (me_add (me_slice (me_var 5 (hv := Or.inl (by kernel_rfl))) mo_none (mo_some (me_neg me_int))) (me_tupleOf (gl_of (by kernel_rfl)) T.z_tuple (ma_cons (me_var 7 (hv := Or.inl (by kernel_rfl))) ma_nil))))))))))))
theorem all__law_expr (T : Txt w K mg A) (n : Nat) : ∀ d : Nat, FnOk P w K mg base (L2.CX P w) (22 + d) A.a__law_expr A.d__law_expr ["_law_game", "_law_known", "_law_kind_here", "_law_room"] (spM ⟨w, K⟩ (F__law_expr n d) 4)
  | 0 => (by unfold F__law_expr; first | exact fnOk_no | (rw [G__law_expr]; exact fnOk_no))
  | d + 1 => st__law_expr T n d (all__law_expr T n d)
theorem ok__law_expr (T : Txt w K mg A) (n d : Nat) : FnOk P w K mg base (L2.CX P w) (22 + d) A.a__law_expr A.d__law_expr ["_law_game", "_law_known", "_law_kind_here", "_law_room"] (spM ⟨w, K⟩ (F__law_expr n d) 4) := (all__law_expr T n d)
theorem sc__law_let : FnScope ["_law_game", "_law_known", "_law_name", "_law_kind_here", "_law_e"] ["_law_game", "_law_known"] (defScope s__law_let) := ⟨by kernel_rfl, by kernel_rfl, by kernel_rfl, by decide +kernel, by kernel_rfl, by decide +kernel, by decide +kernel⟩
set_option maxHeartbeats 4000000 in
theorem ok__law_let (T : Txt w K mg A) (n : Nat) : FnOk P w K mg base (L2.CX P w) 43 A.a__law_let A.d__law_let ["_law_game", "_law_known"] (spM ⟨w, K⟩ (F__law_let n) 2) :=
  def_okF ["_law_game", "_law_known", "_law_name", "_law_kind_here", "_law_e"] ["_law_game", "_law_known"] (b__law_let n) (k := 42) (kk := 5) (nn := 2) (g := F__law_let n) (by kernel_rfl) (by kernel_rfl) (by kernel_rfl) T.f__law_let sc__law_let fun cdv Ar outer s H E hr => by
  have hu := hr.units
  have tk : Takes (cxOf (L2.CX P w) P w K mg base ["_law_game", "_law_known", "_law_name", "_law_kind_here", "_law_e"] "_law_let" (defScope s__law_let) A.a__law_let cdv Ar outer s H E) (fun c d _ H => E c d H) := takes_of rfl rfl rfl rfl
  exact (mss_cons (ms_asg (me_sub (me_sub_ix hu (me_var 0 (hv := Or.inl (by kernel_rfl))) (me_str [115, 116, 97, 116, 101, 109, 101, 110, 116, 115] (by decide +kernel)) (fun _ _ => by kernel_rfl)) me_int) (mg_sub hu (me_var 0 (hv := Or.inl (by kernel_rfl))) (me_str [115, 116, 97, 116, 101, 109, 101, 110, 116, 115] (by decide +kernel))))
  (mss_cons (ms_asg (me_sub (me_sub_ix hu (me_var 0 (hv := Or.inl (by kernel_rfl))) (me_str [108, 101, 116, 115] (by decide +kernel)) (fun _ _ => by kernel_rfl)) me_int) (mg_sub hu (me_var 0 (hv := Or.inl (by kernel_rfl))) (me_str [108, 101, 116, 115] (by decide +kernel))))
  (mss_cons (ms_s (i := 2) (hx := Or.inl (by kernel_rfl)) (hf := Or.inr (by kernel_rfl)) sc__law_let.nd (me_sub_ix hu (me_lst (ma_cons (me_str [98] (by decide +kernel)) (ma_cons (me_str [108, 101, 116, 116, 101, 114] (by decide +kernel)) (ma_cons (me_str [99] (by decide +kernel)) (ma_cons (me_str [114, 111, 119, 115] (by decide +kernel)) (ma_cons (me_str [113] (by decide +kernel)) ma_nil)))))) (me_sub_ix hu (me_var 0 (hv := Or.inl (by kernel_rfl))) (me_str [108, 101, 116, 115] (by decide +kernel)) (fun _ _ => by kernel_rfl)) (fun _ _ => by kernel_rfl)))
  (mss_cons (ms_s (i := 3) (hx := Or.inl (by kernel_rfl)) (hf := Or.inr (by kernel_rfl)) sc__law_let.nd (me_call (ok__law_kind T n) (hr.mono (by decide)) (gl_of (by kernel_rfl)) T.m__law_kind T.f__law_kind.kp T.b__law_kind tk (ma_cons (me_sub_ix hu (me_var 0 (hv := Or.inl (by kernel_rfl))) (me_str [98, 111, 120] (by decide +kernel)) (fun _ _ => by kernel_rfl)) (ma_cons (me_sub_ix hu (me_var 0 (hv := Or.inl (by kernel_rfl))) (me_str [114, 101, 99, 111, 114, 100, 115] (by decide +kernel)) (fun _ _ => by kernel_rfl)) ma_nil)) (aLen_cons (aLen_cons aLen_nil))))
  (mss_cons (ms_s (i := 4) (hx := Or.inl (by kernel_rfl)) (hf := Or.inr (by kernel_rfl)) sc__law_let.nd (me_call (ok__law_expr T n 20) (hr.mono (by decide)) (gl_of (by kernel_rfl)) T.m__law_expr T.f__law_expr.kp T.b__law_expr tk (ma_cons (me_var 0 (hv := Or.inl (by kernel_rfl))) (ma_cons (me_var 1 (hv := Or.inl (by kernel_rfl))) (ma_cons (me_var 3 (hv := Or.inl (by kernel_rfl))) (ma_cons me_int ma_nil)))) (aLen_cons (aLen_cons (aLen_cons (aLen_cons aLen_nil))))))
  (mss_cons (ms_asg (me_var 3 (hv := Or.inl (by kernel_rfl))) (mg_sub hu (me_var 1 (hv := Or.inl (by kernel_rfl))) (me_var 2 (hv := Or.inl (by kernel_rfl)))))
  (mss_one (ms_ret (me_tup (ma_cons (me_str [108, 101, 116] (by decide +kernel)) (ma_cons (me_var 2 (hv := Or.inl (by kernel_rfl))) (ma_cons (me_var 4 (hv := Or.inl (by kernel_rfl))) ma_nil))))))))))))
theorem sc__law_within : FnScope ["_law_game", "_law_known", "_law_due", "_law_deep", "_law_way", "_law_test", "_law_ends", "_law_body_here", "_law_other"] ["_law_game", "_law_known", "_law_due", "_law_deep", "_law_way"] (defScope s__law_within) := ⟨by kernel_rfl, by kernel_rfl, by kernel_rfl, by decide +kernel, by kernel_rfl, by decide +kernel, by decide +kernel⟩
theorem sc__law_statement : FnScope ["_law_game", "_law_known", "_law_due", "_law_deep", "_law_way", "_law_ways_here", "_law_path", "_law_kind_here", "_law_index"] ["_law_game", "_law_known", "_law_due", "_law_deep"] (defScope s__law_statement) := ⟨by kernel_rfl, by kernel_rfl, by kernel_rfl, by decide +kernel, by kernel_rfl, by decide +kernel, by decide +kernel⟩
theorem sc__law_both : FnScope ["_law_game", "_law_known", "_law_due", "_law_deep", "_law_test", "_law_body_here"] ["_law_game", "_law_known", "_law_due", "_law_deep"] (defScope s__law_both) := ⟨by kernel_rfl, by kernel_rfl, by kernel_rfl, by decide +kernel, by kernel_rfl, by decide +kernel, by decide +kernel⟩
theorem sc__law_body : FnScope ["_law_game", "_law_known", "_law_due", "_law_deep", "_law_ends", "_law_body_here", "_law_k", "_law_path", "_law_kind_here"] ["_law_game", "_law_known", "_law_due", "_law_deep", "_law_ends"] (defScope s__law_body) := ⟨by kernel_rfl, by kernel_rfl, by kernel_rfl, by decide +kernel, by kernel_rfl, by decide +kernel, by decide +kernel⟩
set_option maxHeartbeats 4000000 in
theorem st__law_within (T : Txt w K mg A) (n d : Nat) (rc__law_within : FnOk P w K mg base (L2.CX P w) (43 + d) A.a__law_within A.d__law_within ["_law_game", "_law_known", "_law_due", "_law_deep", "_law_way"] (spM ⟨w, K⟩ (F__law_within n d) 5)) (rc__law_statement : FnOk P w K mg base (L2.CX P w) (43 + d) A.a__law_statement A.d__law_statement ["_law_game", "_law_known", "_law_due", "_law_deep"] (spM ⟨w, K⟩ (F__law_statement n d) 4)) (rc__law_both : FnOk P w K mg base (L2.CX P w) (43 + d) A.a__law_both A.d__law_both ["_law_game", "_law_known", "_law_due", "_law_deep"] (spM ⟨w, K⟩ (F__law_both n d) 4)) (rc__law_body : FnOk P w K mg base (L2.CX P w) (43 + d) A.a__law_body A.d__law_body ["_law_game", "_law_known", "_law_due", "_law_deep", "_law_ends"] (spM ⟨w, K⟩ (F__law_body n d) 5)) : FnOk P w K mg base (L2.CX P w) (43 + (d + 1)) A.a__law_within A.d__law_within ["_law_game", "_law_known", "_law_due", "_law_deep", "_law_way"] (spM ⟨w, K⟩ (F__law_within n (d + 1)) 5) :=
  def_okF ["_law_game", "_law_known", "_law_due", "_law_deep", "_law_way", "_law_test", "_law_ends", "_law_body_here", "_law_other"] ["_law_game", "_law_known", "_law_due", "_law_deep", "_law_way"] (b__law_within n (F__law_within n d) (F__law_statement n d) (F__law_both n d) (F__law_body n d)) (k := 43 + d) (kk := 9) (nn := 5) (g := F__law_within n (d + 1)) (by unfold F__law_within F__law_statement F__law_both F__law_body; first | rfl | rw [G__law_within]) (by kernel_rfl) (by kernel_rfl) T.f__law_within sc__law_within fun cdv Ar outer s H E hr => by
  have hu := hr.units
  have tk : Takes (cxOf (L2.CX P w) P w K mg base ["_law_game", "_law_known", "_law_due", "_law_deep", "_law_way", "_law_test", "_law_ends", "_law_body_here", "_law_other"] "_law_within" (defScope s__law_within) A.a__law_within cdv Ar outer s H E) (fun c d _ H => E c d H) := takes_of rfl rfl rfl rfl
  exact (mss_cons (ms_asg (me_sub (me_sub_ix hu (me_var 0 (hv := Or.inl (by kernel_rfl))) (me_str [119, 97, 121, 115] (by decide +kernel)) (fun _ _ => by kernel_rfl)) me_int) (mg_sub hu (me_var 0 (hv := Or.inl (by kernel_rfl))) (me_str [119, 97, 121, 115] (by decide +kernel))))
  (mss_cons (ms_s (i := 5) (hx := Or.inl (by kernel_rfl)) (hf := Or.inr (by kernel_rfl)) sc__law_within.nd (me_call (ok__law_expr T n 20) (hr.mono (by omega)) (gl_of (by kernel_rfl)) T.m__law_expr T.f__law_expr.kp T.b__law_expr tk (ma_cons (me_var 0 (hv := Or.inl (by kernel_rfl))) (ma_cons (me_var 1 (hv := Or.inl (by kernel_rfl))) (ma_cons (me_str [110, 117, 109] (by decide +kernel)) (ma_cons me_int ma_nil)))) (aLen_cons (aLen_cons (aLen_cons (aLen_cons aLen_nil))))))
  (mss_cons (ms_s (i := 6) (hx := Or.inl (by kernel_rfl)) (hf := Or.inr (by kernel_rfl)) sc__law_within.nd (me_eq hr.units (me_call (ok__law_take T n) (hr.mono (by omega)) (gl_of (by kernel_rfl)) T.m__law_take T.f__law_take.kp T.b__law_take tk (ma_cons (me_sub_ix hu (me_var 0 (hv := Or.inl (by kernel_rfl))) (me_str [98, 111, 120] (by decide +kernel)) (fun _ _ => by kernel_rfl)) (ma_cons me_int ma_nil)) (aLen_cons (aLen_cons aLen_nil))) me_int))
  (mss_cons (ms_s (i := 7) (hx := Or.inl (by kernel_rfl)) (hf := Or.inr (by kernel_rfl)) sc__law_within.nd (me_call (rc__law_body) (hr.mono (by omega)) (gl_of (by kernel_rfl)) T.m__law_body T.f__law_body.kp T.b__law_body tk (ma_cons (me_var 0 (hv := Or.inl (by kernel_rfl))) (ma_cons (me_dictOf rfl (gl_of (by kernel_rfl)) T.z_dict (ma_cons (me_var 1 (hv := Or.inl (by kernel_rfl))) ma_nil)) (ma_cons (me_var 2 (hv := Or.inl (by kernel_rfl))) (ma_cons (me_add (me_var 3 (hv := Or.inl (by kernel_rfl))) me_int) (ma_cons (me_var 6 (hv := Or.inl (by kernel_rfl))) ma_nil))))) (aLen_cons (aLen_cons (aLen_cons (aLen_cons (aLen_cons aLen_nil)))))))
  (mss_cons (ms_if (mt_eq hr.units (me_var 4 (hv := Or.inl (by kernel_rfl))) (me_str [119, 104, 105, 108, 101] (by decide +kernel))) (mss_one (ms_ret (me_tup (ma_cons (me_str [119, 104, 105, 108, 101] (by decide +kernel)) (ma_cons (me_var 5 (hv := Or.inl (by kernel_rfl))) (ma_cons (me_var 7 (hv := Or.inl (by kernel_rfl))) ma_nil)))))) mss_nil)
  (mss_cons (ms_s (i := 8) (hx := Or.inl (by kernel_rfl)) (hf := Or.inr (by kernel_rfl)) sc__law_within.nd (me_tup ma_nil))
  (mss_cons (ms_if (mt_eq hr.units (me_call (ok__law_take T n) (hr.mono (by omega)) (gl_of (by kernel_rfl)) T.m__law_take T.f__law_take.kp T.b__law_take tk (ma_cons (me_sub_ix hu (me_var 0 (hv := Or.inl (by kernel_rfl))) (me_str [98, 111, 120] (by decide +kernel)) (fun _ _ => by kernel_rfl)) (ma_cons me_int ma_nil)) (aLen_cons (aLen_cons aLen_nil))) me_int) (mss_one (ms_s (i := 8) (hx := Or.inl (by kernel_rfl)) (hf := Or.inr (by kernel_rfl)) sc__law_within.nd (me_call (rc__law_body) (hr.mono (by omega)) (gl_of (by kernel_rfl)) T.m__law_body T.f__law_body.kp T.b__law_body tk (ma_cons (me_var 0 (hv := Or.inl (by kernel_rfl))) (ma_cons (me_dictOf rfl (gl_of (by kernel_rfl)) T.z_dict (ma_cons (me_var 1 (hv := Or.inl (by kernel_rfl))) ma_nil)) (ma_cons (me_var 2 (hv := Or.inl (by kernel_rfl))) (ma_cons (me_add (me_var 3 (hv := Or.inl (by kernel_rfl))) me_int) (ma_cons (me_and (me_not (me_var 6 (hv := Or.inl (by kernel_rfl)))) (me_one (me_eq hr.units (me_call (ok__law_take T n) (hr.mono (by omega)) (gl_of (by kernel_rfl)) T.m__law_take T.f__law_take.kp T.b__law_take tk (ma_cons (me_sub_ix hu (me_var 0 (hv := Or.inl (by kernel_rfl))) (me_str [98, 111, 120] (by decide +kernel)) (fun _ _ => by kernel_rfl)) (ma_cons me_int ma_nil)) (aLen_cons (aLen_cons aLen_nil))) me_int))) ma_nil))))) (aLen_cons (aLen_cons (aLen_cons (aLen_cons (aLen_cons aLen_nil)))))))) mss_nil)
  (mss_one (ms_ret (me_tup (ma_cons (me_str [105, 102] (by decide +kernel)) (ma_cons (me_var 5 (hv := Or.inl (by kernel_rfl))) (ma_cons (me_var 7 (hv := Or.inl (by kernel_rfl))) (ma_cons (me_var 8 (hv := Or.inl (by kernel_rfl))) ma_nil))))))))))))))
set_option maxHeartbeats 4000000 in
theorem st__law_statement (T : Txt w K mg A) (n d : Nat) (rc__law_within : FnOk P w K mg base (L2.CX P w) (43 + d) A.a__law_within A.d__law_within ["_law_game", "_law_known", "_law_due", "_law_deep", "_law_way"] (spM ⟨w, K⟩ (F__law_within n d) 5)) (rc__law_statement : FnOk P w K mg base (L2.CX P w) (43 + d) A.a__law_statement A.d__law_statement ["_law_game", "_law_known", "_law_due", "_law_deep"] (spM ⟨w, K⟩ (F__law_statement n d) 4)) (rc__law_both : FnOk P w K mg base (L2.CX P w) (43 + d) A.a__law_both A.d__law_both ["_law_game", "_law_known", "_law_due", "_law_deep"] (spM ⟨w, K⟩ (F__law_both n d) 4)) (rc__law_body : FnOk P w K mg base (L2.CX P w) (43 + d) A.a__law_body A.d__law_body ["_law_game", "_law_known", "_law_due", "_law_deep", "_law_ends"] (spM ⟨w, K⟩ (F__law_body n d) 5)) : FnOk P w K mg base (L2.CX P w) (43 + (d + 1)) A.a__law_statement A.d__law_statement ["_law_game", "_law_known", "_law_due", "_law_deep"] (spM ⟨w, K⟩ (F__law_statement n (d + 1)) 4) :=
  def_okF ["_law_game", "_law_known", "_law_due", "_law_deep", "_law_way", "_law_ways_here", "_law_path", "_law_kind_here", "_law_index"] ["_law_game", "_law_known", "_law_due", "_law_deep"] (b__law_statement n (F__law_within n d) (F__law_statement n d) (F__law_both n d) (F__law_body n d)) (k := 43 + d) (kk := 9) (nn := 4) (g := F__law_statement n (d + 1)) (by unfold F__law_within F__law_statement F__law_both F__law_body; first | rfl | rw [G__law_statement]) (by kernel_rfl) (by kernel_rfl) T.f__law_statement sc__law_statement fun cdv Ar outer s H E hr => by
  have hu := hr.units
  have tk : Takes (cxOf (L2.CX P w) P w K mg base ["_law_game", "_law_known", "_law_due", "_law_deep", "_law_way", "_law_ways_here", "_law_path", "_law_kind_here", "_law_index"] "_law_statement" (defScope s__law_statement) A.a__law_statement cdv Ar outer s H E) (fun c d _ H => E c d H) := takes_of rfl rfl rfl rfl
  exact (mss_cons (ms_s (i := 4) (hx := Or.inl (by kernel_rfl)) (hf := Or.inr (by kernel_rfl)) sc__law_statement.nd (me_call (ok__law_take T n) (hr.mono (by omega)) (gl_of (by kernel_rfl)) T.m__law_take T.f__law_take.kp T.b__law_take tk (ma_cons (me_sub_ix hu (me_var 0 (hv := Or.inl (by kernel_rfl))) (me_str [98, 111, 120] (by decide +kernel)) (fun _ _ => by kernel_rfl)) (ma_cons me_int ma_nil)) (aLen_cons (aLen_cons aLen_nil))))
  (mss_cons (ms_if (mt_of (mw_and (mt_eq hr.units (me_var 4 (hv := Or.inl (by kernel_rfl))) me_int) (mw_and1 (mt_gt (me_sub_ix hu (me_var 0 (hv := Or.inl (by kernel_rfl))) (me_str [108, 101, 116, 115] (by decide +kernel)) (fun _ _ => by kernel_rfl)) me_int)))) (mss_one (ms_ret (me_call (ok__law_let T n) (hr.mono (by omega)) (gl_of (by kernel_rfl)) T.m__law_let T.f__law_let.kp T.b__law_let tk (ma_cons (me_var 0 (hv := Or.inl (by kernel_rfl))) (ma_cons (me_var 1 (hv := Or.inl (by kernel_rfl))) ma_nil)) (aLen_cons (aLen_cons aLen_nil))))) mss_nil)
  (mss_cons (ms_asg (me_sub (me_sub_ix hu (me_var 0 (hv := Or.inl (by kernel_rfl))) (me_str [115, 116, 97, 116, 101, 109, 101, 110, 116, 115] (by decide +kernel)) (fun _ _ => by kernel_rfl)) me_int) (mg_sub hu (me_var 0 (hv := Or.inl (by kernel_rfl))) (me_str [115, 116, 97, 116, 101, 109, 101, 110, 116, 115] (by decide +kernel))))
  (mss_cons (ms_if (mt_of (mw_and (mt_in hu (me_var 4 (hv := Or.inl (by kernel_rfl))) (me_tup (ma_cons me_int (ma_cons me_int ma_nil))) (by kernel_rfl)) (mw_and (mt_gt (me_sub_ix hu (me_var 0 (hv := Or.inl (by kernel_rfl))) (me_str [119, 97, 121, 115] (by decide +kernel)) (fun _ _ => by kernel_rfl)) me_int) (mw_and (mt_lt (me_var 3 (hv := Or.inl (by kernel_rfl))) me_int) (mw_and1 (mt_gt (me_sub_ix hu (me_var 0 (hv := Or.inl (by kernel_rfl))) (me_str [115, 116, 97, 116, 101, 109, 101, 110, 116, 115] (by decide +kernel)) (fun _ _ => by kernel_rfl)) me_int)))))) (mss_one (ms_ret (me_call (rc__law_within) (hr.mono (by omega)) (gl_of (by kernel_rfl)) T.m__law_within T.f__law_within.kp T.b__law_within tk (ma_cons (me_var 0 (hv := Or.inl (by kernel_rfl))) (ma_cons (me_var 1 (hv := Or.inl (by kernel_rfl))) (ma_cons (me_var 2 (hv := Or.inl (by kernel_rfl))) (ma_cons (me_var 3 (hv := Or.inl (by kernel_rfl))) (ma_cons (me_sub_ix hu (me_lst (ma_cons (me_str [105, 102] (by decide +kernel)) (ma_cons (me_str [119, 104, 105, 108, 101] (by decide +kernel)) ma_nil))) (me_sub (me_var 4 (hv := Or.inl (by kernel_rfl))) me_int) (fun _ _ => by kernel_rfl)) ma_nil))))) (aLen_cons (aLen_cons (aLen_cons (aLen_cons (aLen_cons aLen_nil)))))))) mss_nil)
  (mss_cons (ms_s (i := 5) (hx := Or.inl (by kernel_rfl)) (hf := Or.inr (by kernel_rfl)) sc__law_statement.nd (me_call (ok__law_ways T n) (hr.mono (by omega)) (gl_of (by kernel_rfl)) T.m__law_ways T.f__law_ways.kp T.b__law_ways tk (ma_cons (me_sub_ix hu (me_var 0 (hv := Or.inl (by kernel_rfl))) (me_str [114, 101, 99, 111, 114, 100, 115] (by decide +kernel)) (fun _ _ => by kernel_rfl)) (ma_cons (me_var 1 (hv := Or.inl (by kernel_rfl))) ma_nil)) (aLen_cons (aLen_cons aLen_nil))))
  (mss_cons (ms_asg (me_sub_ix hu (me_var 5 (hv := Or.inl (by kernel_rfl))) (me_call (ok__law_take T n) (hr.mono (by omega)) (gl_of (by kernel_rfl)) T.m__law_take T.f__law_take.kp T.b__law_take tk (ma_cons (me_sub_ix hu (me_var 0 (hv := Or.inl (by kernel_rfl))) (me_str [98, 111, 120] (by decide +kernel)) (fun _ _ => by kernel_rfl)) (ma_cons (me_len (gl_of (by kernel_rfl)) T.z_len (ma_cons (me_var 5 (hv := Or.inl (by kernel_rfl))) ma_nil)) ma_nil)) (aLen_cons (aLen_cons aLen_nil))) (fun _ _ => by kernel_rfl)) (mg_tup rfl (mgs_cons (mg_n (i := 6) (hx := Or.inl (by kernel_rfl)) (hf := Or.inr (by kernel_rfl)) sc__law_statement.nd) (mgs_cons (mg_n (i := 7) (hx := Or.inl (by kernel_rfl)) (hf := Or.inr (by kernel_rfl)) sc__law_statement.nd) mgs_nil))))
  (mss_cons (ms_if (mt_of (mw_and (mt_eq hr.units (me_var 7 (hv := Or.inl (by kernel_rfl))) (me_str [114, 111, 119] (by decide +kernel))) (mw_and1 (mt_gt (me_var 4 (hv := Or.inl (by kernel_rfl))) me_int)))) (mss_cons (ms_s (i := 8) (hx := Or.inl (by kernel_rfl)) (hf := Or.inr (by kernel_rfl)) sc__law_statement.nd (me_call (ok__law_expr T n 20) (hr.mono (by omega)) (gl_of (by kernel_rfl)) T.m__law_expr T.f__law_expr.kp T.b__law_expr tk (ma_cons (me_var 0 (hv := Or.inl (by kernel_rfl))) (ma_cons (me_var 1 (hv := Or.inl (by kernel_rfl))) (ma_cons (me_str [110, 117, 109] (by decide +kernel)) (ma_cons me_int ma_nil)))) (aLen_cons (aLen_cons (aLen_cons (aLen_cons aLen_nil))))))
  (mss_one (ms_ret (me_tup (ma_cons (me_str [112, 117, 116] (by decide +kernel)) (ma_cons (me_var 6 (hv := Or.inl (by kernel_rfl))) (ma_cons (me_var 8 (hv := Or.inl (by kernel_rfl))) (ma_cons (me_call (ok__law_expr T n 20) (hr.mono (by omega)) (gl_of (by kernel_rfl)) T.m__law_expr T.f__law_expr.kp T.b__law_expr tk (ma_cons (me_var 0 (hv := Or.inl (by kernel_rfl))) (ma_cons (me_var 1 (hv := Or.inl (by kernel_rfl))) (ma_cons (me_str [110, 117, 109] (by decide +kernel)) (ma_cons me_int ma_nil)))) (aLen_cons (aLen_cons (aLen_cons (aLen_cons aLen_nil))))) ma_nil)))))))) mss_nil)
  (mss_one (ms_ret (me_tup (ma_cons (me_str [115, 101, 116] (by decide +kernel)) (ma_cons (me_var 6 (hv := Or.inl (by kernel_rfl))) (ma_cons (me_call (ok__law_expr T n 20) (hr.mono (by omega)) (gl_of (by kernel_rfl)) T.m__law_expr T.f__law_expr.kp T.b__law_expr tk (ma_cons (me_var 0 (hv := Or.inl (by kernel_rfl))) (ma_cons (me_var 1 (hv := Or.inl (by kernel_rfl))) (ma_cons (me_var 7 (hv := Or.inl (by kernel_rfl))) (ma_cons me_int ma_nil)))) (aLen_cons (aLen_cons (aLen_cons (aLen_cons aLen_nil))))) ma_nil)))))))))))))
set_option maxHeartbeats 4000000 in
theorem st__law_both (T : Txt w K mg A) (n d : Nat) (rc__law_within : FnOk P w K mg base (L2.CX P w) (43 + d) A.a__law_within A.d__law_within ["_law_game", "_law_known", "_law_due", "_law_deep", "_law_way"] (spM ⟨w, K⟩ (F__law_within n d) 5)) (rc__law_statement : FnOk P w K mg base (L2.CX P w) (43 + d) A.a__law_statement A.d__law_statement ["_law_game", "_law_known", "_law_due", "_law_deep"] (spM ⟨w, K⟩ (F__law_statement n d) 4)) (rc__law_both : FnOk P w K mg base (L2.CX P w) (43 + d) A.a__law_both A.d__law_both ["_law_game", "_law_known", "_law_due", "_law_deep"] (spM ⟨w, K⟩ (F__law_both n d) 4)) (rc__law_body : FnOk P w K mg base (L2.CX P w) (43 + d) A.a__law_body A.d__law_body ["_law_game", "_law_known", "_law_due", "_law_deep", "_law_ends"] (spM ⟨w, K⟩ (F__law_body n d) 5)) : FnOk P w K mg base (L2.CX P w) (43 + (d + 1)) A.a__law_both A.d__law_both ["_law_game", "_law_known", "_law_due", "_law_deep"] (spM ⟨w, K⟩ (F__law_both n (d + 1)) 4) :=
  def_okF ["_law_game", "_law_known", "_law_due", "_law_deep", "_law_test", "_law_body_here"] ["_law_game", "_law_known", "_law_due", "_law_deep"] (b__law_both n (F__law_within n d) (F__law_statement n d) (F__law_both n d) (F__law_body n d)) (k := 43 + d) (kk := 6) (nn := 4) (g := F__law_both n (d + 1)) (by unfold F__law_within F__law_statement F__law_both F__law_body; first | rfl | rw [G__law_both]) (by kernel_rfl) (by kernel_rfl) T.f__law_both sc__law_both fun cdv Ar outer s H E hr => by
  have hu := hr.units
  have tk : Takes (cxOf (L2.CX P w) P w K mg base ["_law_game", "_law_known", "_law_due", "_law_deep", "_law_test", "_law_body_here"] "_law_both" (defScope s__law_both) A.a__law_both cdv Ar outer s H E) (fun c d _ H => E c d H) := takes_of rfl rfl rfl rfl
  exact (mss_cons (ms_asg (me_sub (me_sub_ix hu (me_var 0 (hv := Or.inl (by kernel_rfl))) (me_str [119, 97, 121, 115] (by decide +kernel)) (fun _ _ => by kernel_rfl)) me_int) (mg_sub hu (me_var 0 (hv := Or.inl (by kernel_rfl))) (me_str [119, 97, 121, 115] (by decide +kernel))))
  (mss_cons (ms_asg (me_sub (me_sub_ix hu (me_var 0 (hv := Or.inl (by kernel_rfl))) (me_str [115, 116, 97, 116, 101, 109, 101, 110, 116, 115] (by decide +kernel)) (fun _ _ => by kernel_rfl)) me_int) (mg_sub hu (me_var 0 (hv := Or.inl (by kernel_rfl))) (me_str [115, 116, 97, 116, 101, 109, 101, 110, 116, 115] (by decide +kernel))))
  (mss_cons (ms_s (i := 4) (hx := Or.inl (by kernel_rfl)) (hf := Or.inr (by kernel_rfl)) sc__law_both.nd (me_call (ok__law_expr T n 20) (hr.mono (by omega)) (gl_of (by kernel_rfl)) T.m__law_expr T.f__law_expr.kp T.b__law_expr tk (ma_cons (me_var 0 (hv := Or.inl (by kernel_rfl))) (ma_cons (me_var 1 (hv := Or.inl (by kernel_rfl))) (ma_cons (me_str [110, 117, 109] (by decide +kernel)) (ma_cons me_int ma_nil)))) (aLen_cons (aLen_cons (aLen_cons (aLen_cons aLen_nil))))))
  (mss_cons (ms_s (i := 5) (hx := Or.inl (by kernel_rfl)) (hf := Or.inr (by kernel_rfl)) sc__law_both.nd (me_call (rc__law_body) (hr.mono (by omega)) (gl_of (by kernel_rfl)) T.m__law_body T.f__law_body.kp T.b__law_body tk (ma_cons (me_var 0 (hv := Or.inl (by kernel_rfl))) (ma_cons (me_dictOf rfl (gl_of (by kernel_rfl)) T.z_dict (ma_cons (me_var 1 (hv := Or.inl (by kernel_rfl))) ma_nil)) (ma_cons (me_var 2 (hv := Or.inl (by kernel_rfl))) (ma_cons (me_add (me_var 3 (hv := Or.inl (by kernel_rfl))) me_int) (ma_cons me_bl ma_nil))))) (aLen_cons (aLen_cons (aLen_cons (aLen_cons (aLen_cons aLen_nil)))))))
  (mss_one (ms_ret (me_tup (ma_cons (me_str [105, 102] (by decide +kernel)) (ma_cons (me_var 4 (hv := Or.inl (by kernel_rfl))) (ma_cons (me_var 5 (hv := Or.inl (by kernel_rfl))) (ma_cons (me_call (rc__law_body) (hr.mono (by omega)) (gl_of (by kernel_rfl)) T.m__law_body T.f__law_body.kp T.b__law_body tk (ma_cons (me_var 0 (hv := Or.inl (by kernel_rfl))) (ma_cons (me_dictOf rfl (gl_of (by kernel_rfl)) T.z_dict (ma_cons (me_var 1 (hv := Or.inl (by kernel_rfl))) ma_nil)) (ma_cons (me_var 2 (hv := Or.inl (by kernel_rfl))) (ma_cons (me_add (me_var 3 (hv := Or.inl (by kernel_rfl))) me_int) (ma_cons me_bl ma_nil))))) (aLen_cons (aLen_cons (aLen_cons (aLen_cons (aLen_cons aLen_nil)))))) ma_nil)))))))))))
set_option maxHeartbeats 4000000 in
theorem st__law_body (T : Txt w K mg A) (n d : Nat) (rc__law_within : FnOk P w K mg base (L2.CX P w) (43 + d) A.a__law_within A.d__law_within ["_law_game", "_law_known", "_law_due", "_law_deep", "_law_way"] (spM ⟨w, K⟩ (F__law_within n d) 5)) (rc__law_statement : FnOk P w K mg base (L2.CX P w) (43 + d) A.a__law_statement A.d__law_statement ["_law_game", "_law_known", "_law_due", "_law_deep"] (spM ⟨w, K⟩ (F__law_statement n d) 4)) (rc__law_both : FnOk P w K mg base (L2.CX P w) (43 + d) A.a__law_both A.d__law_both ["_law_game", "_law_known", "_law_due", "_law_deep"] (spM ⟨w, K⟩ (F__law_both n d) 4)) (rc__law_body : FnOk P w K mg base (L2.CX P w) (43 + d) A.a__law_body A.d__law_body ["_law_game", "_law_known", "_law_due", "_law_deep", "_law_ends"] (spM ⟨w, K⟩ (F__law_body n d) 5)) : FnOk P w K mg base (L2.CX P w) (43 + (d + 1)) A.a__law_body A.d__law_body ["_law_game", "_law_known", "_law_due", "_law_deep", "_law_ends"] (spM ⟨w, K⟩ (F__law_body n (d + 1)) 5) :=
  def_okF ["_law_game", "_law_known", "_law_due", "_law_deep", "_law_ends", "_law_body_here", "_law_k", "_law_path", "_law_kind_here"] ["_law_game", "_law_known", "_law_due", "_law_deep", "_law_ends"] (b__law_body n (F__law_within n d) (F__law_statement n d) (F__law_both n d) (F__law_body n d)) (k := 43 + d) (kk := 9) (nn := 5) (g := F__law_body n (d + 1)) (by unfold F__law_within F__law_statement F__law_both F__law_body; first | rfl | rw [G__law_body]) (by kernel_rfl) (by kernel_rfl) T.f__law_body sc__law_body fun cdv Ar outer s H E hr => by
  have hu := hr.units
  have tk : Takes (cxOf (L2.CX P w) P w K mg base ["_law_game", "_law_known", "_law_due", "_law_deep", "_law_ends", "_law_body_here", "_law_k", "_law_path", "_law_kind_here"] "_law_body" (defScope s__law_body) A.a__law_body cdv Ar outer s H E) (fun c d _ H => E c d H) := takes_of rfl rfl rfl rfl
  exact (mss_cons (ms_s (i := 5) (hx := Or.inl (by kernel_rfl)) (hf := Or.inr (by kernel_rfl)) sc__law_body.nd (me_lstN ma_nil))
  (mss_cons (ms_for (passes_of rfl) rfl (mi_range1 (gl_of (by kernel_rfl)) T.z_range (ma_cons (me_call (ok__law_take T n) (hr.mono (by omega)) (gl_of (by kernel_rfl)) T.m__law_take T.f__law_take.kp T.b__law_take tk (ma_cons (me_sub_ix hu (me_var 0 (hv := Or.inl (by kernel_rfl))) (me_str [98, 111, 120] (by decide +kernel)) (fun _ _ => by kernel_rfl)) (ma_cons me_int ma_nil)) (aLen_cons (aLen_cons aLen_nil))) ma_nil)) (mg_n (i := 6) (hx := Or.inl (by kernel_rfl)) (hf := Or.inr (by kernel_rfl)) sc__law_body.nd) (mss_one (ms_if (mt_gt (me_sub_ix hu (me_var 0 (hv := Or.inl (by kernel_rfl))) (me_str [115, 116, 97, 116, 101, 109, 101, 110, 116, 115] (by decide +kernel)) (fun _ _ => by kernel_rfl)) me_int) (mss_one (ms_expr (me_append (me_var 5 (hv := Or.inl (by kernel_rfl))) (ma_cons (me_call (rc__law_statement) (hr.mono (by omega)) (gl_of (by kernel_rfl)) T.m__law_statement T.f__law_statement.kp T.b__law_statement tk (ma_cons (me_var 0 (hv := Or.inl (by kernel_rfl))) (ma_cons (me_var 1 (hv := Or.inl (by kernel_rfl))) (ma_cons (me_var 2 (hv := Or.inl (by kernel_rfl))) (ma_cons (me_var 3 (hv := Or.inl (by kernel_rfl))) ma_nil)))) (aLen_cons (aLen_cons (aLen_cons (aLen_cons aLen_nil))))) ma_nil)))) mss_nil)))
  (mss_cons (ms_if (mt_of (mw_and (mt_val (me_var 4 (hv := Or.inl (by kernel_rfl)))) (mw_and (mt_lt (me_var 3 (hv := Or.inl (by kernel_rfl))) me_int) (mw_and (mt_gt (me_sub_ix hu (me_var 0 (hv := Or.inl (by kernel_rfl))) (me_str [119, 97, 121, 115] (by decide +kernel)) (fun _ _ => by kernel_rfl)) me_int) (mw_and (mt_gt (me_sub_ix hu (me_var 0 (hv := Or.inl (by kernel_rfl))) (me_str [115, 116, 97, 116, 101, 109, 101, 110, 116, 115] (by decide +kernel)) (fun _ _ => by kernel_rfl)) me_int) (mw_and1 (mt_eq hr.units (me_call (ok__law_take T n) (hr.mono (by omega)) (gl_of (by kernel_rfl)) T.m__law_take T.f__law_take.kp T.b__law_take tk (ma_cons (me_sub_ix hu (me_var 0 (hv := Or.inl (by kernel_rfl))) (me_str [98, 111, 120] (by decide +kernel)) (fun _ _ => by kernel_rfl)) (ma_cons me_int ma_nil)) (aLen_cons (aLen_cons aLen_nil))) me_int))))))) (mss_one (ms_expr (me_append (me_var 5 (hv := Or.inl (by kernel_rfl))) (ma_cons (me_call (rc__law_both) (hr.mono (by omega)) (gl_of (by kernel_rfl)) T.m__law_both T.f__law_both.kp T.b__law_both tk (ma_cons (me_var 0 (hv := Or.inl (by kernel_rfl))) (ma_cons (me_var 1 (hv := Or.inl (by kernel_rfl))) (ma_cons (me_var 2 (hv := Or.inl (by kernel_rfl))) (ma_cons (me_var 3 (hv := Or.inl (by kernel_rfl))) ma_nil)))) (aLen_cons (aLen_cons (aLen_cons (aLen_cons aLen_nil))))) ma_nil)))) (mss_one (ms_if (mt_val (me_var 4 (hv := Or.inl (by kernel_rfl)))) (mss_cons (ms_asg (me_sub (me_sub_ix hu (me_var 0 (hv := Or.inl (by kernel_rfl))) (me_str [115, 116, 97, 116, 101, 109, 101, 110, 116, 115] (by decide +kernel)) (fun _ _ => by kernel_rfl)) me_int) (mg_sub hu (me_var 0 (hv := Or.inl (by kernel_rfl))) (me_str [115, 116, 97, 116, 101, 109, 101, 110, 116, 115] (by decide +kernel))))
  (mss_one (ms_expr (me_append (me_var 5 (hv := Or.inl (by kernel_rfl))) (ma_cons (me_tup (ma_cons (me_str [103, 105, 118, 101] (by decide +kernel)) (ma_cons (me_call (ok__law_expr T n 20) (hr.mono (by omega)) (gl_of (by kernel_rfl)) T.m__law_expr T.f__law_expr.kp T.b__law_expr tk (ma_cons (me_var 0 (hv := Or.inl (by kernel_rfl))) (ma_cons (me_var 1 (hv := Or.inl (by kernel_rfl))) (ma_cons (me_var 2 (hv := Or.inl (by kernel_rfl))) (ma_cons me_int ma_nil)))) (aLen_cons (aLen_cons (aLen_cons (aLen_cons aLen_nil))))) ma_nil))) ma_nil))))) mss_nil)))
  (mss_cons (ms_if (mt_eq hr.units (me_var 5 (hv := Or.inl (by kernel_rfl))) (me_lst ma_nil)) (mss_cons (ms_asg (me_sub (me_sub_ix hu (me_var 0 (hv := Or.inl (by kernel_rfl))) (me_str [115, 116, 97, 116, 101, 109, 101, 110, 116, 115] (by decide +kernel)) (fun _ _ => by kernel_rfl)) me_int) (mg_sub hu (me_var 0 (hv := Or.inl (by kernel_rfl))) (me_str [115, 116, 97, 116, 101, 109, 101, 110, 116, 115] (by decide +kernel))))
  (mss_cons (ms_asg (me_sub_ix hu (me_call (ok__law_ways T n) (hr.mono (by omega)) (gl_of (by kernel_rfl)) T.m__law_ways T.f__law_ways.kp T.b__law_ways tk (ma_cons (me_sub_ix hu (me_var 0 (hv := Or.inl (by kernel_rfl))) (me_str [114, 101, 99, 111, 114, 100, 115] (by decide +kernel)) (fun _ _ => by kernel_rfl)) (ma_cons (me_var 1 (hv := Or.inl (by kernel_rfl))) ma_nil)) (aLen_cons (aLen_cons aLen_nil))) me_int (fun _ _ => by kernel_rfl)) (mg_tup rfl (mgs_cons (mg_n (i := 7) (hx := Or.inl (by kernel_rfl)) (hf := Or.inr (by kernel_rfl)) sc__law_body.nd) (mgs_cons (mg_n (i := 8) (hx := Or.inl (by kernel_rfl)) (hf := Or.inr (by kernel_rfl)) sc__law_body.nd) mgs_nil))))
  (mss_one (ms_expr (me_append (me_var 5 (hv := Or.inl (by kernel_rfl))) (ma_cons (me_tup (ma_cons (me_str [115, 101, 116] (by decide +kernel)) (ma_cons (me_var 7 (hv := Or.inl (by kernel_rfl))) (ma_cons (me_call (ok__law_plain T n 20) (hr.mono (by omega)) (gl_of (by kernel_rfl)) T.m__law_plain T.f__law_plain.kp T.b__law_plain tk (ma_cons (me_var 0 (hv := Or.inl (by kernel_rfl))) (ma_cons (me_var 1 (hv := Or.inl (by kernel_rfl))) (ma_cons (me_var 8 (hv := Or.inl (by kernel_rfl))) ma_nil))) (aLen_cons (aLen_cons (aLen_cons aLen_nil)))) ma_nil)))) ma_nil)))))) mss_nil)
  (mss_one (ms_ret (me_tupleOf (gl_of (by kernel_rfl)) T.z_tuple (ma_cons (me_var 5 (hv := Or.inl (by kernel_rfl))) ma_nil))))))))
theorem all__law_within (T : Txt w K mg A) (n : Nat) : ∀ d : Nat, FnOk P w K mg base (L2.CX P w) (43 + d) A.a__law_within A.d__law_within ["_law_game", "_law_known", "_law_due", "_law_deep", "_law_way"] (spM ⟨w, K⟩ (F__law_within n d) 5) ∧ FnOk P w K mg base (L2.CX P w) (43 + d) A.a__law_statement A.d__law_statement ["_law_game", "_law_known", "_law_due", "_law_deep"] (spM ⟨w, K⟩ (F__law_statement n d) 4) ∧ FnOk P w K mg base (L2.CX P w) (43 + d) A.a__law_both A.d__law_both ["_law_game", "_law_known", "_law_due", "_law_deep"] (spM ⟨w, K⟩ (F__law_both n d) 4) ∧ FnOk P w K mg base (L2.CX P w) (43 + d) A.a__law_body A.d__law_body ["_law_game", "_law_known", "_law_due", "_law_deep", "_law_ends"] (spM ⟨w, K⟩ (F__law_body n d) 5)
  | 0 => ⟨(by unfold F__law_within; first | exact fnOk_no | (rw [G__law_within]; exact fnOk_no)), (by unfold F__law_statement; first | exact fnOk_no | (rw [G__law_statement]; exact fnOk_no)), (by unfold F__law_both; first | exact fnOk_no | (rw [G__law_both]; exact fnOk_no)), (by unfold F__law_body; first | exact fnOk_no | (rw [G__law_body]; exact fnOk_no))⟩
  | d + 1 => by
    obtain ⟨h0, h1, h2, h3⟩ := all__law_within T n d
    exact ⟨st__law_within T n d h0 h1 h2 h3, st__law_statement T n d h0 h1 h2 h3, st__law_both T n d h0 h1 h2 h3, st__law_body T n d h0 h1 h2 h3⟩
theorem ok__law_body (T : Txt w K mg A) (n d : Nat) : FnOk P w K mg base (L2.CX P w) (43 + d) A.a__law_body A.d__law_body ["_law_game", "_law_known", "_law_due", "_law_deep", "_law_ends"] (spM ⟨w, K⟩ (F__law_body n d) 5) := (all__law_within T n d).2.2.2
theorem sc__law_tree : FnScope ["_law_box_here", "_law_records_here", "_law_heads_here", "_law_functions", "_law_name", "_law_kind_here", "_law_pairs", "_law_game", "_law_known", "_law_first"] ["_law_box_here"] (defScope s__law_tree) := ⟨by kernel_rfl, by kernel_rfl, by kernel_rfl, by decide +kernel, by kernel_rfl, by decide +kernel, by decide +kernel⟩
set_option maxHeartbeats 4000000 in
theorem ok__law_tree (T : Txt w K mg A) (n : Nat) : FnOk P w K mg base (L2.CX P w) 64 A.a__law_tree A.d__law_tree ["_law_box_here"] (spM ⟨w, K⟩ (F__law_tree n) 1) :=
  def_okF ["_law_box_here", "_law_records_here", "_law_heads_here", "_law_functions", "_law_name", "_law_kind_here", "_law_pairs", "_law_game", "_law_known", "_law_first"] ["_law_box_here"] (b__law_tree n) (k := 63) (kk := 10) (nn := 1) (g := F__law_tree n) (by kernel_rfl) (by kernel_rfl) (by kernel_rfl) T.f__law_tree sc__law_tree fun cdv Ar outer s H E hr => by
  have hu := hr.units
  have tk : Takes (cxOf (L2.CX P w) P w K mg base ["_law_box_here", "_law_records_here", "_law_heads_here", "_law_functions", "_law_name", "_law_kind_here", "_law_pairs", "_law_game", "_law_known", "_law_first"] "_law_tree" (defScope s__law_tree) A.a__law_tree cdv Ar outer s H E) (fun c d _ H => E c d H) := takes_of rfl rfl rfl rfl
  exact (mss_cons (ms_s (i := 1) (hx := Or.inl (by kernel_rfl)) (hf := Or.inr (by kernel_rfl)) sc__law_tree.nd (me_call (ok__law_records T n) (hr.mono (by decide)) (gl_of (by kernel_rfl)) T.m__law_records T.f__law_records.kp T.b__law_records tk (ma_cons (me_var 0 (hv := Or.inl (by kernel_rfl))) ma_nil) (aLen_cons aLen_nil)))
  (mss_cons (ms_s (i := 2) (hx := Or.inl (by kernel_rfl)) (hf := Or.inr (by kernel_rfl)) sc__law_tree.nd (me_call (ok__law_heads T n) (hr.mono (by decide)) (gl_of (by kernel_rfl)) T.m__law_heads T.f__law_heads.kp T.b__law_heads tk (ma_cons (me_var 0 (hv := Or.inl (by kernel_rfl))) (ma_cons (me_var 1 (hv := Or.inl (by kernel_rfl))) ma_nil)) (aLen_cons (aLen_cons aLen_nil))))
  (mss_cons (ms_s (i := 3) (hx := Or.inl (by kernel_rfl)) (hf := Or.inr (by kernel_rfl)) sc__law_tree.nd (me_lstN ma_nil))
  (mss_cons (ms_forC (passes_of rfl) rfl (mic_cell (me_var 2 (hv := Or.inl (by kernel_rfl)))) (mg_tup rfl (mgs_cons (mg_n (i := 4) (hx := Or.inl (by kernel_rfl)) (hf := Or.inr (by kernel_rfl)) sc__law_tree.nd) (mgs_cons (mg_n (i := 5) (hx := Or.inl (by kernel_rfl)) (hf := Or.inr (by kernel_rfl)) sc__law_tree.nd) (mgs_cons (mg_n (i := 6) (hx := Or.inl (by kernel_rfl)) (hf := Or.inr (by kernel_rfl)) sc__law_tree.nd) mgs_nil)))) (mss_cons (ms_s (i := 7) (hx := Or.inl (by kernel_rfl)) (hf := Or.inr (by kernel_rfl)) sc__law_tree.nd (me_dict (mps_cons (me_str [98, 111, 120] (by decide +kernel)) (me_var 0 (hv := Or.inl (by kernel_rfl))) (mps_cons (me_str [114, 101, 99, 111, 114, 100, 115] (by decide +kernel)) (me_var 1 (hv := Or.inl (by kernel_rfl))) (mps_cons (me_str [104, 101, 97, 100, 115] (by decide +kernel)) (me_var 2 (hv := Or.inl (by kernel_rfl))) (mps_cons (me_str [119, 97, 121, 115] (by decide +kernel)) me_int (mps_cons (me_str [108, 101, 116, 115] (by decide +kernel)) me_int (mps_cons (me_str [115, 116, 97, 116, 101, 109, 101, 110, 116, 115] (by decide +kernel)) me_int mps_nil))))))))
  (mss_cons (ms_s (i := 8) (hx := Or.inl (by kernel_rfl)) (hf := Or.inr (by kernel_rfl)) sc__law_tree.nd (me_dictX rfl (gl_of (by kernel_rfl)) T.z_dict (ma_cons (me_var 6 (hv := Or.inl (by kernel_rfl))) ma_nil)))
  (mss_cons (ms_s (i := 9) (hx := Or.inl (by kernel_rfl)) (hf := Or.inr (by kernel_rfl)) sc__law_tree.nd (me_tup ma_nil))
  (mss_cons (ms_if (mt_eqG hu (me_var 8 (hv := Or.inl (by kernel_rfl))) me_dict0) (mss_one (ms_s (i := 9) (hx := Or.inl (by kernel_rfl)) (hf := Or.inr (by kernel_rfl)) sc__law_tree.nd (me_tup (ma_cons (me_call (ok__law_let T n) (hr.mono (by decide)) (gl_of (by kernel_rfl)) T.m__law_let T.f__law_let.kp T.b__law_let tk (ma_cons (me_var 7 (hv := Or.inl (by kernel_rfl))) (ma_cons (me_var 8 (hv := Or.inl (by kernel_rfl))) ma_nil)) (aLen_cons (aLen_cons aLen_nil))) ma_nil)))) mss_nil)
  (mss_one (ms_expr (me_append (me_var 3 (hv := Or.inl (by kernel_rfl))) (ma_cons (me_tup (ma_cons (me_var 4 (hv := Or.inl (by kernel_rfl))) (ma_cons (me_var 5 (hv := Or.inl (by kernel_rfl))) (ma_cons (me_wk (me_var 6 (hv := Or.inl (by kernel_rfl)))) (ma_cons (me_add (me_var 9 (hv := Or.inl (by kernel_rfl))) (me_call (ok__law_body T n 20) (hr.mono (by decide)) (gl_of (by kernel_rfl)) T.m__law_body T.f__law_body.kp T.b__law_body tk (ma_cons (me_var 7 (hv := Or.inl (by kernel_rfl))) (ma_cons (me_var 8 (hv := Or.inl (by kernel_rfl))) (ma_cons (me_var 5 (hv := Or.inl (by kernel_rfl))) (ma_cons me_int (ma_cons me_bl ma_nil))))) (aLen_cons (aLen_cons (aLen_cons (aLen_cons (aLen_cons aLen_nil))))))) ma_nil))))) ma_nil)))))))))
  (mss_one (ms_ret (me_tup (ma_cons (me_tupleOf (gl_of (by kernel_rfl)) T.z_tuple (ma_cons (me_var 1 (hv := Or.inl (by kernel_rfl))) ma_nil)) (ma_cons (me_tupleOf (gl_of (by kernel_rfl)) T.z_tuple (ma_cons (me_var 3 (hv := Or.inl (by kernel_rfl))) ma_nil)) ma_nil)))))))))
theorem sc_law : FnScope ["_law_script", "_law_box_here", "_law_tree_here", "_law_records_here", "_law_known", "_law_name", "_law_handed", "_law_kinds", "_law_heads_here", "_law_game", "_law_kind_here", "_law_e", "_law_one"] ["_law_script"] (defScope s_law) := ⟨by kernel_rfl, by kernel_rfl, by kernel_rfl, by decide +kernel, by kernel_rfl, by decide +kernel, by decide +kernel⟩
set_option maxHeartbeats 4000000 in
theorem ok_law (T : Txt w K mg A) (n : Nat) : FnOk P w K mg base (L2.CX P w) 65 A.a_law A.d_law ["_law_script"] (spM ⟨w, K⟩ (F_law n) 1) :=
  def_okF ["_law_script", "_law_box_here", "_law_tree_here", "_law_records_here", "_law_known", "_law_name", "_law_handed", "_law_kinds", "_law_heads_here", "_law_game", "_law_kind_here", "_law_e", "_law_one"] ["_law_script"] (b_law n) (k := 64) (kk := 13) (nn := 1) (g := F_law n) (by kernel_rfl) (by kernel_rfl) (by kernel_rfl) T.f_law sc_law fun cdv Ar outer s H E hr => by
  have hu := hr.units
  have tk : Takes (cxOf (L2.CX P w) P w K mg base ["_law_script", "_law_box_here", "_law_tree_here", "_law_records_here", "_law_known", "_law_name", "_law_handed", "_law_kinds", "_law_heads_here", "_law_game", "_law_kind_here", "_law_e", "_law_one"] "law" (defScope s_law) A.a_law cdv Ar outer s H E) (fun c d _ H => E c d H) := takes_of rfl rfl rfl rfl
  exact (mss_cons (ms_s (i := 1) (hx := Or.inl (by kernel_rfl)) (hf := Or.inr (by kernel_rfl)) sc_law.nd (me_call (ok__law_box T n) (hr.mono (by decide)) (gl_of (by kernel_rfl)) T.m__law_box T.f__law_box.kp T.b__law_box tk (ma_cons (me_var 0 (hv := Or.inl (by kernel_rfl))) ma_nil) (aLen_cons aLen_nil)))
  (mss_cons (ms_s (i := 2) (hx := Or.inl (by kernel_rfl)) (hf := Or.inr (by kernel_rfl)) sc_law.nd (me_call (ok__law_tree T n) (hr.mono (by decide)) (gl_of (by kernel_rfl)) T.m__law_tree T.f__law_tree.kp T.b__law_tree tk (ma_cons (me_var 1 (hv := Or.inl (by kernel_rfl))) ma_nil) (aLen_cons aLen_nil)))
  (mss_cons (ms_s (i := 3) (hx := Or.inl (by kernel_rfl)) (hf := Or.inr (by kernel_rfl)) sc_law.nd (me_listAN rfl (gl_of (by kernel_rfl)) T.z_list (ma_cons (me_sub_ix hu (me_var 2 (hv := Or.inl (by kernel_rfl))) me_int (fun _ _ => by kernel_rfl)) ma_nil)))
  (mss_cons (ms_s (i := 4) (hx := Or.inl (by kernel_rfl)) (hf := Or.inr (by kernel_rfl)) sc_law.nd me_dict0)
  (mss_cons (ms_for (passes_of rfl) rfl (mi_seq (me_slice (me_lst (ma_cons (me_str [98] (by decide +kernel)) (ma_cons (me_str [108, 101, 116, 116, 101, 114] (by decide +kernel)) (ma_cons (me_str [113] (by decide +kernel)) (ma_cons (me_str [112, 97, 105, 114] (by decide +kernel)) (ma_cons (me_str [120] (by decide +kernel)) ma_nil)))))) mo_none (mo_some (me_call (ok__law_take T n) (hr.mono (by decide)) (gl_of (by kernel_rfl)) T.m__law_take T.f__law_take.kp T.b__law_take tk (ma_cons (me_var 1 (hv := Or.inl (by kernel_rfl))) (ma_cons me_int ma_nil)) (aLen_cons (aLen_cons aLen_nil)))))) (mg_n (i := 5) (hx := Or.inl (by kernel_rfl)) (hf := Or.inr (by kernel_rfl)) sc_law.nd) (mss_one (ms_asg (me_call (ok__law_kind T n) (hr.mono (by decide)) (gl_of (by kernel_rfl)) T.m__law_kind T.f__law_kind.kp T.b__law_kind tk (ma_cons (me_var 1 (hv := Or.inl (by kernel_rfl))) (ma_cons (me_var 3 (hv := Or.inl (by kernel_rfl))) ma_nil)) (aLen_cons (aLen_cons aLen_nil))) (mg_sub hu (me_var 4 (hv := Or.inl (by kernel_rfl))) (me_var 5 (hv := Or.inl (by kernel_rfl)))))))
  (mss_cons (ms_s (i := 6) (hx := Or.inl (by kernel_rfl)) (hf := Or.inr (by kernel_rfl)) sc_law.nd (me_dictOf rfl (gl_of (by kernel_rfl)) T.z_dict (ma_cons (me_var 4 (hv := Or.inl (by kernel_rfl))) ma_nil)))
  (mss_cons (ms_s (i := 7) (hx := Or.inl (by kernel_rfl)) (hf := Or.inr (by kernel_rfl)) sc_law.nd (me_add (me_lst (ma_cons (me_str [110, 117, 109] (by decide +kernel)) (ma_cons (me_str [114, 111, 119] (by decide +kernel)) ma_nil))) (me_lcC (own := [("_law_one", 12)]) rfl sc_law.nd (mic_cell (me_var 3 (hv := Or.inl (by kernel_rfl)))) (blkOk_by (by kernel_rfl)) (tgo_name (by decide)) lcV_end (fun _ _ _ _ _ => (pg_n (i := 12) (hx := Or.inl (by kernel_rfl)) (hf := Or.inr (by kernel_rfl)) sc_law.nd)) (fun _ _ _ _ _ => mts_nil) (fun _ _ _ _ _ => (me_sub_ix hu (me_var 12 (hv := Or.inl (by kernel_rfl))) me_int (fun _ _ => by kernel_rfl))))))
  (mss_cons (ms_setLc (i := 8) (own := [("_law_one", 12)]) rfl sc_law.nd rfl rfl (sw_true rfl rfl rfl (by decide +kernel)) (mi_seq (me_sub_ix hu (me_var 2 (hv := Or.inl (by kernel_rfl))) me_int (fun _ _ => by kernel_rfl))) (blkOk_by (by kernel_rfl)) (tgo_name (by decide)) lcN_end (fun _ _ _ _ _ => (pg_n (i := 12) (hx := Or.inl (by kernel_rfl)) (hf := Or.inr (by kernel_rfl)) sc_law.nd)) (fun _ _ _ _ _ => mts_nil) (fun _ _ _ _ _ => (me_slice (me_var 12 (hv := Or.inl (by kernel_rfl))) mo_none (mo_some me_int))))
  (mss_cons (ms_s (i := 9) (hx := Or.inl (by kernel_rfl)) (hf := Or.inr (by kernel_rfl)) sc_law.nd (me_dict (mps_cons (me_str [98, 111, 120] (by decide +kernel)) (me_var 1 (hv := Or.inl (by kernel_rfl))) (mps_cons (me_str [114, 101, 99, 111, 114, 100, 115] (by decide +kernel)) (me_var 3 (hv := Or.inl (by kernel_rfl))) (mps_cons (me_str [104, 101, 97, 100, 115] (by decide +kernel)) (me_var 8 (hv := Or.inl (by kernel_rfl))) (mps_cons (me_str [119, 97, 121, 115] (by decide +kernel)) me_int mps_nil))))))
  (mss_cons (ms_for (passes_of rfl) rfl (mi_seq (me_var 7 (hv := Or.inl (by kernel_rfl)))) (mg_n (i := 10) (hx := Or.inl (by kernel_rfl)) (hf := Or.inr (by kernel_rfl)) sc_law.nd) (mss_cons (ms_if (mt_ne hr.units (me_call (ok_parts_of T n 20) (hr.mono (by decide)) (gl_of (by kernel_rfl)) T.m_parts_of T.f_parts_of.kp T.b_parts_of tk (ma_cons (me_var 2 (hv := Or.inl (by kernel_rfl))) (ma_cons (me_var 10 (hv := Or.inl (by kernel_rfl))) ma_nil)) (aLen_cons (aLen_cons aLen_nil))) (me_call (ok__law_parts T n 20) (hr.mono (by decide)) (gl_of (by kernel_rfl)) T.m__law_parts T.f__law_parts.kp T.b__law_parts tk (ma_cons (me_var 3 (hv := Or.inl (by kernel_rfl))) (ma_cons (me_var 10 (hv := Or.inl (by kernel_rfl))) ma_nil)) (aLen_cons (aLen_cons aLen_nil)))) (mss_one (ms_ret me_bl)) mss_nil)
  (mss_cons (ms_if (mt_lt (me_call (ok__law_least T n 20) (hr.mono (by decide)) (gl_of (by kernel_rfl)) T.m__law_least T.f__law_least.kp T.b__law_least tk (ma_cons (me_var 3 (hv := Or.inl (by kernel_rfl))) (ma_cons (me_var 10 (hv := Or.inl (by kernel_rfl))) ma_nil)) (aLen_cons (aLen_cons aLen_nil))) me_int) (mss_cons (ms_s (i := 11) (hx := Or.inl (by kernel_rfl)) (hf := Or.inr (by kernel_rfl)) sc_law.nd (me_call (ok__law_plain T n 20) (hr.mono (by decide)) (gl_of (by kernel_rfl)) T.m__law_plain T.f__law_plain.kp T.b__law_plain tk (ma_cons (me_var 9 (hv := Or.inl (by kernel_rfl))) (ma_cons (me_var 4 (hv := Or.inl (by kernel_rfl))) (ma_cons (me_var 10 (hv := Or.inl (by kernel_rfl))) ma_nil))) (aLen_cons (aLen_cons (aLen_cons aLen_nil)))))
  (mss_one (ms_if (mt_of (mw_or (mt_ne hr.units (me_call (ok_kind_of_expr T n) (hr.mono (by decide)) (gl_of (by kernel_rfl)) T.m_kind_of_expr T.f_kind_of_expr.kp T.b_kind_of_expr tk (ma_cons (me_var 2 (hv := Or.inl (by kernel_rfl))) (ma_cons (me_var 6 (hv := Or.inl (by kernel_rfl))) (ma_cons (me_var 11 (hv := Or.inl (by kernel_rfl))) ma_nil))) (aLen_cons (aLen_cons (aLen_cons aLen_nil)))) (me_var 10 (hv := Or.inl (by kernel_rfl)))) (mw_or1 (mt_neG hu (me_var 6 (hv := Or.inl (by kernel_rfl))) (me_var 4 (hv := Or.inl (by kernel_rfl))))))) (mss_one (ms_ret me_bl)) mss_nil))) mss_nil)
  (mss_one (ms_if (mt_lt (me_call (ok__law_least T n 20) (hr.mono (by decide)) (gl_of (by kernel_rfl)) T.m__law_least T.f__law_least.kp T.b__law_least tk (ma_cons (me_var 3 (hv := Or.inl (by kernel_rfl))) (ma_cons (me_var 10 (hv := Or.inl (by kernel_rfl))) ma_nil)) (aLen_cons (aLen_cons aLen_nil))) me_int) (mss_cons (ms_s (i := 11) (hx := Or.inl (by kernel_rfl)) (hf := Or.inr (by kernel_rfl)) sc_law.nd (me_call (ok__law_expr T n 20) (hr.mono (by decide)) (gl_of (by kernel_rfl)) T.m__law_expr T.f__law_expr.kp T.b__law_expr tk (ma_cons (me_var 9 (hv := Or.inl (by kernel_rfl))) (ma_cons (me_var 4 (hv := Or.inl (by kernel_rfl))) (ma_cons (me_var 10 (hv := Or.inl (by kernel_rfl))) (ma_cons me_int ma_nil)))) (aLen_cons (aLen_cons (aLen_cons (aLen_cons aLen_nil))))))
  (mss_one (ms_if (mt_of (mw_or (mt_ne hr.units (me_call (ok_kind_of_expr T n) (hr.mono (by decide)) (gl_of (by kernel_rfl)) T.m_kind_of_expr T.f_kind_of_expr.kp T.b_kind_of_expr tk (ma_cons (me_var 2 (hv := Or.inl (by kernel_rfl))) (ma_cons (me_var 6 (hv := Or.inl (by kernel_rfl))) (ma_cons (me_var 11 (hv := Or.inl (by kernel_rfl))) ma_nil))) (aLen_cons (aLen_cons (aLen_cons aLen_nil)))) (me_var 10 (hv := Or.inl (by kernel_rfl)))) (mw_or1 (mt_neG hu (me_var 6 (hv := Or.inl (by kernel_rfl))) (me_var 4 (hv := Or.inl (by kernel_rfl))))))) (mss_one (ms_ret me_bl)) mss_nil))) mss_nil)))))
  (mss_one (ms_ret me_bl))))))))))))
end
set_option maxHeartbeats 8000000 in
theorem len1 {us : List Value} (hl : us.length = 1) : ∃ a0, us = [a0] := match us, hl with | [a0], _ => ⟨a0, rfl⟩
theorem len2 {us : List Value} (hl : us.length = 2) : ∃ a0 a1, us = [a0, a1] := match us, hl with | [a0, a1], _ => ⟨a0, a1, rfl⟩
theorem len3 {us : List Value} (hl : us.length = 3) : ∃ a0 a1 a2, us = [a0, a1, a2] := match us, hl with | [a0, a1, a2], _ => ⟨a0, a1, a2, rfl⟩
theorem len4 {us : List Value} (hl : us.length = 4) : ∃ a0 a1 a2 a3, us = [a0, a1, a2, a3] := match us, hl with | [a0, a1, a2, a3], _ => ⟨a0, a1, a2, a3, rfl⟩
theorem len5 {us : List Value} (hl : us.length = 5) : ∃ a0 a1 a2 a3 a4, us = [a0, a1, a2, a3, a4] := match us, hl with | [a0, a1, a2, a3, a4], _ => ⟨a0, a1, a2, a3, a4, rfl⟩
set_option maxHeartbeats 0 in
theorem all_mk {l : PySem.W.OpenLaw} {w : World} {K : PySem.W.Frag} {h : Heap} {mg : Str → Option Value} {fa f_kinds_of f_found_in f_parts_of f_path_kind f_kind_of_expr f__law_box f__law_take f__law_number f__law_words_of f__law_parts f__law_least f__law_kind f__law_records f__law_heads f__law_ways f__law_forms f__law_plain f__law_expr f__law_let f__law_within f__law_statement f__law_both f__law_body f__law_tree f_law : Addr} (X : K.In h) (G : h.Ns mainGlobals mg) (hfa : mg "law" = some (.ref fa))
    {od_kinds_of an_kinds_of od_found_in an_found_in od_parts_of an_parts_of od_path_kind an_path_kind od_kind_of_expr an_kind_of_expr od__law_box an__law_box od__law_take an__law_take od__law_number an__law_number od__law_words_of an__law_words_of od__law_parts an__law_parts od__law_least an__law_least od__law_kind an__law_kind od__law_records an__law_records od__law_heads an__law_heads od__law_ways an__law_ways od__law_forms an__law_forms od__law_plain an__law_plain od__law_expr an__law_expr od__law_let an__law_let od__law_within an__law_within od__law_statement an__law_statement od__law_both an__law_both od__law_body an__law_body od__law_tree an__law_tree od_law an_law : Option Addr} {sl_kinds_of sl_found_in sl_parts_of sl_path_kind sl_kind_of_expr sl__law_box sl__law_take sl__law_number sl__law_words_of sl__law_parts sl__law_least sl__law_kind sl__law_records sl__law_heads sl__law_ways sl__law_forms sl__law_plain sl__law_expr sl__law_let sl__law_within sl__law_statement sl__law_both sl__law_body sl__law_tree sl_law : Array (Option Value)} {oc_kinds_of kV_kinds_of dc_kinds_of pm_kinds_of cd_kinds_of ct_kinds_of oc_found_in kV_found_in dc_found_in pm_found_in cd_found_in ct_found_in oc_parts_of kV_parts_of dc_parts_of pm_parts_of cd_parts_of ct_parts_of oc_path_kind kV_path_kind dc_path_kind pm_path_kind cd_path_kind ct_path_kind oc_kind_of_expr kV_kind_of_expr dc_kind_of_expr pm_kind_of_expr cd_kind_of_expr ct_kind_of_expr oc__law_box kV__law_box dc__law_box pm__law_box cd__law_box ct__law_box oc__law_take kV__law_take dc__law_take pm__law_take cd__law_take ct__law_take oc__law_number kV__law_number dc__law_number pm__law_number cd__law_number ct__law_number oc__law_words_of kV__law_words_of dc__law_words_of pm__law_words_of cd__law_words_of ct__law_words_of oc__law_parts kV__law_parts dc__law_parts pm__law_parts cd__law_parts ct__law_parts oc__law_least kV__law_least dc__law_least pm__law_least cd__law_least ct__law_least oc__law_kind kV__law_kind dc__law_kind pm__law_kind cd__law_kind ct__law_kind oc__law_records kV__law_records dc__law_records pm__law_records cd__law_records ct__law_records oc__law_heads kV__law_heads dc__law_heads pm__law_heads cd__law_heads ct__law_heads oc__law_ways kV__law_ways dc__law_ways pm__law_ways cd__law_ways ct__law_ways oc__law_forms kV__law_forms dc__law_forms pm__law_forms cd__law_forms ct__law_forms oc__law_plain kV__law_plain dc__law_plain pm__law_plain cd__law_plain ct__law_plain oc__law_expr kV__law_expr dc__law_expr pm__law_expr cd__law_expr ct__law_expr oc__law_let kV__law_let dc__law_let pm__law_let cd__law_let ct__law_let oc__law_within kV__law_within dc__law_within pm__law_within cd__law_within ct__law_within oc__law_statement kV__law_statement dc__law_statement pm__law_statement cd__law_statement ct__law_statement oc__law_both kV__law_both dc__law_both pm__law_both cd__law_both ct__law_both oc__law_body kV__law_body dc__law_body pm__law_body cd__law_body ct__law_body oc__law_tree kV__law_tree dc__law_tree pm__law_tree cd__law_tree ct__law_tree oc_law kV_law dc_law pm_law cd_law ct_law : Value}
    {ad_KIND_OF ad_OPERATIONS ad_PART_OF : Addr} {es_KIND_OF es_OPERATIONS es_PART_OF : Array DictEntry} {n_KIND_OF n_OPERATIONS n_PART_OF : Nat}
    (a_kinds_of : PySem.W.nsIn K mainGlobals "kinds_of" = some (some (.ref f_kinds_of))) (l_kinds_of : K.lookup f_kinds_of = some ⟨oc_kinds_of, od_kinds_of, .func (PySem.W.fnOf "kinds_of" "kinds_of" (defArgs s_kinds_of) (defBody s_kinds_of) (defScope s_kinds_of) .none kV_kinds_of dc_kinds_of pm_kinds_of an_kinds_of cd_kinds_of ct_kinds_of), sl_kinds_of⟩) (c_kinds_of : PySem.W.codeIn K cd_kinds_of "kinds_of" = true) (k_kinds_of : PySem.W.keepIn K (.ref f_kinds_of) = true)
    (a_found_in : PySem.W.nsIn K mainGlobals "found_in" = some (some (.ref f_found_in))) (l_found_in : K.lookup f_found_in = some ⟨oc_found_in, od_found_in, .func (PySem.W.fnOf "found_in" "found_in" (defArgs s_found_in) (defBody s_found_in) (defScope s_found_in) .none kV_found_in dc_found_in pm_found_in an_found_in cd_found_in ct_found_in), sl_found_in⟩) (c_found_in : PySem.W.codeIn K cd_found_in "found_in" = true) (k_found_in : PySem.W.keepIn K (.ref f_found_in) = true)
    (a_parts_of : PySem.W.nsIn K mainGlobals "parts_of" = some (some (.ref f_parts_of))) (l_parts_of : K.lookup f_parts_of = some ⟨oc_parts_of, od_parts_of, .func (PySem.W.fnOf "parts_of" "parts_of" (defArgs s_parts_of) (defBody s_parts_of) (defScope s_parts_of) .none kV_parts_of dc_parts_of pm_parts_of an_parts_of cd_parts_of ct_parts_of), sl_parts_of⟩) (c_parts_of : PySem.W.codeIn K cd_parts_of "parts_of" = true) (k_parts_of : PySem.W.keepIn K (.ref f_parts_of) = true)
    (a_path_kind : PySem.W.nsIn K mainGlobals "path_kind" = some (some (.ref f_path_kind))) (l_path_kind : K.lookup f_path_kind = some ⟨oc_path_kind, od_path_kind, .func (PySem.W.fnOf "path_kind" "path_kind" (defArgs s_path_kind) (defBody s_path_kind) (defScope s_path_kind) .none kV_path_kind dc_path_kind pm_path_kind an_path_kind cd_path_kind ct_path_kind), sl_path_kind⟩) (c_path_kind : PySem.W.codeIn K cd_path_kind "path_kind" = true) (k_path_kind : PySem.W.keepIn K (.ref f_path_kind) = true)
    (a_kind_of_expr : PySem.W.nsIn K mainGlobals "kind_of_expr" = some (some (.ref f_kind_of_expr))) (l_kind_of_expr : K.lookup f_kind_of_expr = some ⟨oc_kind_of_expr, od_kind_of_expr, .func (PySem.W.fnOf "kind_of_expr" "kind_of_expr" (defArgs s_kind_of_expr) (defBody s_kind_of_expr) (defScope s_kind_of_expr) .none kV_kind_of_expr dc_kind_of_expr pm_kind_of_expr an_kind_of_expr cd_kind_of_expr ct_kind_of_expr), sl_kind_of_expr⟩) (c_kind_of_expr : PySem.W.codeIn K cd_kind_of_expr "kind_of_expr" = true) (k_kind_of_expr : PySem.W.keepIn K (.ref f_kind_of_expr) = true)
    (a__law_box : PySem.W.nsIn K mainGlobals "_law_box" = some (some (.ref f__law_box))) (l__law_box : K.lookup f__law_box = some ⟨oc__law_box, od__law_box, .func (PySem.W.fnOf "_law_box" "_law_box" (defArgs s__law_box) (defBody s__law_box) (defScope s__law_box) .none kV__law_box dc__law_box pm__law_box an__law_box cd__law_box ct__law_box), sl__law_box⟩) (c__law_box : PySem.W.codeIn K cd__law_box "_law_box" = true) (k__law_box : PySem.W.keepIn K (.ref f__law_box) = true)
    (a__law_take : PySem.W.nsIn K mainGlobals "_law_take" = some (some (.ref f__law_take))) (l__law_take : K.lookup f__law_take = some ⟨oc__law_take, od__law_take, .func (PySem.W.fnOf "_law_take" "_law_take" (defArgs s__law_take) (defBody s__law_take) (defScope s__law_take) .none kV__law_take dc__law_take pm__law_take an__law_take cd__law_take ct__law_take), sl__law_take⟩) (c__law_take : PySem.W.codeIn K cd__law_take "_law_take" = true) (k__law_take : PySem.W.keepIn K (.ref f__law_take) = true)
    (a__law_number : PySem.W.nsIn K mainGlobals "_law_number" = some (some (.ref f__law_number))) (l__law_number : K.lookup f__law_number = some ⟨oc__law_number, od__law_number, .func (PySem.W.fnOf "_law_number" "_law_number" (defArgs s__law_number) (defBody s__law_number) (defScope s__law_number) .none kV__law_number dc__law_number pm__law_number an__law_number cd__law_number ct__law_number), sl__law_number⟩) (c__law_number : PySem.W.codeIn K cd__law_number "_law_number" = true) (k__law_number : PySem.W.keepIn K (.ref f__law_number) = true)
    (a__law_words_of : PySem.W.nsIn K mainGlobals "_law_words_of" = some (some (.ref f__law_words_of))) (l__law_words_of : K.lookup f__law_words_of = some ⟨oc__law_words_of, od__law_words_of, .func (PySem.W.fnOf "_law_words_of" "_law_words_of" (defArgs s__law_words_of) (defBody s__law_words_of) (defScope s__law_words_of) .none kV__law_words_of dc__law_words_of pm__law_words_of an__law_words_of cd__law_words_of ct__law_words_of), sl__law_words_of⟩) (c__law_words_of : PySem.W.codeIn K cd__law_words_of "_law_words_of" = true) (k__law_words_of : PySem.W.keepIn K (.ref f__law_words_of) = true)
    (a__law_parts : PySem.W.nsIn K mainGlobals "_law_parts" = some (some (.ref f__law_parts))) (l__law_parts : K.lookup f__law_parts = some ⟨oc__law_parts, od__law_parts, .func (PySem.W.fnOf "_law_parts" "_law_parts" (defArgs s__law_parts) (defBody s__law_parts) (defScope s__law_parts) .none kV__law_parts dc__law_parts pm__law_parts an__law_parts cd__law_parts ct__law_parts), sl__law_parts⟩) (c__law_parts : PySem.W.codeIn K cd__law_parts "_law_parts" = true) (k__law_parts : PySem.W.keepIn K (.ref f__law_parts) = true)
    (a__law_least : PySem.W.nsIn K mainGlobals "_law_least" = some (some (.ref f__law_least))) (l__law_least : K.lookup f__law_least = some ⟨oc__law_least, od__law_least, .func (PySem.W.fnOf "_law_least" "_law_least" (defArgs s__law_least) (defBody s__law_least) (defScope s__law_least) .none kV__law_least dc__law_least pm__law_least an__law_least cd__law_least ct__law_least), sl__law_least⟩) (c__law_least : PySem.W.codeIn K cd__law_least "_law_least" = true) (k__law_least : PySem.W.keepIn K (.ref f__law_least) = true)
    (a__law_kind : PySem.W.nsIn K mainGlobals "_law_kind" = some (some (.ref f__law_kind))) (l__law_kind : K.lookup f__law_kind = some ⟨oc__law_kind, od__law_kind, .func (PySem.W.fnOf "_law_kind" "_law_kind" (defArgs s__law_kind) (defBody s__law_kind) (defScope s__law_kind) .none kV__law_kind dc__law_kind pm__law_kind an__law_kind cd__law_kind ct__law_kind), sl__law_kind⟩) (c__law_kind : PySem.W.codeIn K cd__law_kind "_law_kind" = true) (k__law_kind : PySem.W.keepIn K (.ref f__law_kind) = true)
    (a__law_records : PySem.W.nsIn K mainGlobals "_law_records" = some (some (.ref f__law_records))) (l__law_records : K.lookup f__law_records = some ⟨oc__law_records, od__law_records, .func (PySem.W.fnOf "_law_records" "_law_records" (defArgs s__law_records) (defBody s__law_records) (defScope s__law_records) .none kV__law_records dc__law_records pm__law_records an__law_records cd__law_records ct__law_records), sl__law_records⟩) (c__law_records : PySem.W.codeIn K cd__law_records "_law_records" = true) (k__law_records : PySem.W.keepIn K (.ref f__law_records) = true)
    (a__law_heads : PySem.W.nsIn K mainGlobals "_law_heads" = some (some (.ref f__law_heads))) (l__law_heads : K.lookup f__law_heads = some ⟨oc__law_heads, od__law_heads, .func (PySem.W.fnOf "_law_heads" "_law_heads" (defArgs s__law_heads) (defBody s__law_heads) (defScope s__law_heads) .none kV__law_heads dc__law_heads pm__law_heads an__law_heads cd__law_heads ct__law_heads), sl__law_heads⟩) (c__law_heads : PySem.W.codeIn K cd__law_heads "_law_heads" = true) (k__law_heads : PySem.W.keepIn K (.ref f__law_heads) = true)
    (a__law_ways : PySem.W.nsIn K mainGlobals "_law_ways" = some (some (.ref f__law_ways))) (l__law_ways : K.lookup f__law_ways = some ⟨oc__law_ways, od__law_ways, .func (PySem.W.fnOf "_law_ways" "_law_ways" (defArgs s__law_ways) (defBody s__law_ways) (defScope s__law_ways) .none kV__law_ways dc__law_ways pm__law_ways an__law_ways cd__law_ways ct__law_ways), sl__law_ways⟩) (c__law_ways : PySem.W.codeIn K cd__law_ways "_law_ways" = true) (k__law_ways : PySem.W.keepIn K (.ref f__law_ways) = true)
    (a__law_forms : PySem.W.nsIn K mainGlobals "_law_forms" = some (some (.ref f__law_forms))) (l__law_forms : K.lookup f__law_forms = some ⟨oc__law_forms, od__law_forms, .func (PySem.W.fnOf "_law_forms" "_law_forms" (defArgs s__law_forms) (defBody s__law_forms) (defScope s__law_forms) .none kV__law_forms dc__law_forms pm__law_forms an__law_forms cd__law_forms ct__law_forms), sl__law_forms⟩) (c__law_forms : PySem.W.codeIn K cd__law_forms "_law_forms" = true) (k__law_forms : PySem.W.keepIn K (.ref f__law_forms) = true)
    (a__law_plain : PySem.W.nsIn K mainGlobals "_law_plain" = some (some (.ref f__law_plain))) (l__law_plain : K.lookup f__law_plain = some ⟨oc__law_plain, od__law_plain, .func (PySem.W.fnOf "_law_plain" "_law_plain" (defArgs s__law_plain) (defBody s__law_plain) (defScope s__law_plain) .none kV__law_plain dc__law_plain pm__law_plain an__law_plain cd__law_plain ct__law_plain), sl__law_plain⟩) (c__law_plain : PySem.W.codeIn K cd__law_plain "_law_plain" = true) (k__law_plain : PySem.W.keepIn K (.ref f__law_plain) = true)
    (a__law_expr : PySem.W.nsIn K mainGlobals "_law_expr" = some (some (.ref f__law_expr))) (l__law_expr : K.lookup f__law_expr = some ⟨oc__law_expr, od__law_expr, .func (PySem.W.fnOf "_law_expr" "_law_expr" (defArgs s__law_expr) (defBody s__law_expr) (defScope s__law_expr) .none kV__law_expr dc__law_expr pm__law_expr an__law_expr cd__law_expr ct__law_expr), sl__law_expr⟩) (c__law_expr : PySem.W.codeIn K cd__law_expr "_law_expr" = true) (k__law_expr : PySem.W.keepIn K (.ref f__law_expr) = true)
    (a__law_let : PySem.W.nsIn K mainGlobals "_law_let" = some (some (.ref f__law_let))) (l__law_let : K.lookup f__law_let = some ⟨oc__law_let, od__law_let, .func (PySem.W.fnOf "_law_let" "_law_let" (defArgs s__law_let) (defBody s__law_let) (defScope s__law_let) .none kV__law_let dc__law_let pm__law_let an__law_let cd__law_let ct__law_let), sl__law_let⟩) (c__law_let : PySem.W.codeIn K cd__law_let "_law_let" = true) (k__law_let : PySem.W.keepIn K (.ref f__law_let) = true)
    (a__law_within : PySem.W.nsIn K mainGlobals "_law_within" = some (some (.ref f__law_within))) (l__law_within : K.lookup f__law_within = some ⟨oc__law_within, od__law_within, .func (PySem.W.fnOf "_law_within" "_law_within" (defArgs s__law_within) (defBody s__law_within) (defScope s__law_within) .none kV__law_within dc__law_within pm__law_within an__law_within cd__law_within ct__law_within), sl__law_within⟩) (c__law_within : PySem.W.codeIn K cd__law_within "_law_within" = true) (k__law_within : PySem.W.keepIn K (.ref f__law_within) = true)
    (a__law_statement : PySem.W.nsIn K mainGlobals "_law_statement" = some (some (.ref f__law_statement))) (l__law_statement : K.lookup f__law_statement = some ⟨oc__law_statement, od__law_statement, .func (PySem.W.fnOf "_law_statement" "_law_statement" (defArgs s__law_statement) (defBody s__law_statement) (defScope s__law_statement) .none kV__law_statement dc__law_statement pm__law_statement an__law_statement cd__law_statement ct__law_statement), sl__law_statement⟩) (c__law_statement : PySem.W.codeIn K cd__law_statement "_law_statement" = true) (k__law_statement : PySem.W.keepIn K (.ref f__law_statement) = true)
    (a__law_both : PySem.W.nsIn K mainGlobals "_law_both" = some (some (.ref f__law_both))) (l__law_both : K.lookup f__law_both = some ⟨oc__law_both, od__law_both, .func (PySem.W.fnOf "_law_both" "_law_both" (defArgs s__law_both) (defBody s__law_both) (defScope s__law_both) .none kV__law_both dc__law_both pm__law_both an__law_both cd__law_both ct__law_both), sl__law_both⟩) (c__law_both : PySem.W.codeIn K cd__law_both "_law_both" = true) (k__law_both : PySem.W.keepIn K (.ref f__law_both) = true)
    (a__law_body : PySem.W.nsIn K mainGlobals "_law_body" = some (some (.ref f__law_body))) (l__law_body : K.lookup f__law_body = some ⟨oc__law_body, od__law_body, .func (PySem.W.fnOf "_law_body" "_law_body" (defArgs s__law_body) (defBody s__law_body) (defScope s__law_body) .none kV__law_body dc__law_body pm__law_body an__law_body cd__law_body ct__law_body), sl__law_body⟩) (c__law_body : PySem.W.codeIn K cd__law_body "_law_body" = true) (k__law_body : PySem.W.keepIn K (.ref f__law_body) = true)
    (a__law_tree : PySem.W.nsIn K mainGlobals "_law_tree" = some (some (.ref f__law_tree))) (l__law_tree : K.lookup f__law_tree = some ⟨oc__law_tree, od__law_tree, .func (PySem.W.fnOf "_law_tree" "_law_tree" (defArgs s__law_tree) (defBody s__law_tree) (defScope s__law_tree) .none kV__law_tree dc__law_tree pm__law_tree an__law_tree cd__law_tree ct__law_tree), sl__law_tree⟩) (c__law_tree : PySem.W.codeIn K cd__law_tree "_law_tree" = true) (k__law_tree : PySem.W.keepIn K (.ref f__law_tree) = true)
    (a_law : PySem.W.nsIn K mainGlobals "law" = some (some (.ref f_law))) (l_law : K.lookup f_law = some ⟨oc_law, od_law, .func (PySem.W.fnOf "law" "law" (defArgs s_law) (defBody s_law) (defScope s_law) .none kV_law dc_law pm_law an_law cd_law ct_law), sl_law⟩) (c_law : PySem.W.codeIn K cd_law "law" = true) (k_law : PySem.W.keepIn K (.ref f_law) = true)
    (z_isinstance : PySem.W.nsIn K mainGlobals "isinstance" = some none)
    (z_int : PySem.W.nsIn K mainGlobals "int" = some none)
    (z_list : PySem.W.nsIn K mainGlobals "list" = some none)
    (z_len : PySem.W.nsIn K mainGlobals "len" = some none)
    (z_str : PySem.W.nsIn K mainGlobals "str" = some none)
    (z_dict : PySem.W.nsIn K mainGlobals "dict" = some none)
    (z_sum : PySem.W.nsIn K mainGlobals "sum" = some none)
    (z_range : PySem.W.nsIn K mainGlobals "range" = some none)
    (z_tuple : PySem.W.nsIn K mainGlobals "tuple" = some none)
    (z_sorted : PySem.W.nsIn K mainGlobals "sorted" = some none)
    (g_KIND_OF : PySem.W.nsIn K mainGlobals "KIND_OF" = some (some (.ref ad_KIND_OF))) (gl_KIND_OF : K.lookup ad_KIND_OF = some ⟨.type "dict", none, .dict es_KIND_OF n_KIND_OF, #[]⟩)
    (g_OPERATIONS : PySem.W.nsIn K mainGlobals "OPERATIONS" = some (some (.ref ad_OPERATIONS))) (gl_OPERATIONS : K.lookup ad_OPERATIONS = some ⟨.type "dict", none, .dict es_OPERATIONS n_OPERATIONS, #[]⟩)
    (g_PART_OF : PySem.W.nsIn K mainGlobals "PART_OF" = some (some (.ref ad_PART_OF))) (gl_PART_OF : K.lookup ad_PART_OF = some ⟨.type "dict", none, .dict es_PART_OF n_PART_OF, #[]⟩)
    (tb_KIND_OF : TabIn w K ad_KIND_OF tab_KIND_OF) (tb_OPERATIONS : TabIn w K ad_OPERATIONS tab_OPERATIONS) (tb_PART_OF : TabIn w K ad_PART_OF tab_PART_OF)
    : ∃ fd : FuncData, (∀ (s : Shared) (v : Value), BindsTo s fd ⟨[v], []⟩ [("_law_script", v)]) ∧ ∀ base : Heap, K.In base → base.Ns mainGlobals mg → FnOk l.prog w K mg base (L2.CX l.prog w) 65 fa fd ["_law_script"] (fun vs H Q E => ∃ n, spM ⟨w, K⟩ (F_law n) 1 vs H Q E) := by
  have e := hfa.symm.trans (PySem.W.mg_of X G a_law)
  cases e
  have F_kinds_of := fun_mk (st := s_kinds_of) l_kinds_of c_kinds_of k_kinds_of
  have B_kinds_of := F_kinds_of.binds (ps := ["op"]) fun _ _ _ _ _ _ us hl => by obtain ⟨_, rfl⟩ := len1 hl; exact rfl
  have F_found_in := fun_mk (st := s_found_in) l_found_in c_found_in k_found_in
  have B_found_in := F_found_in.binds (ps := ["pairs", "name"]) fun _ _ _ _ _ _ us hl => by obtain ⟨_, _, rfl⟩ := len2 hl; exact rfl
  have F_parts_of := fun_mk (st := s_parts_of) l_parts_of c_parts_of k_parts_of
  have B_parts_of := F_parts_of.binds (ps := ["tree", "kind"]) fun _ _ _ _ _ _ us hl => by obtain ⟨_, _, rfl⟩ := len2 hl; exact rfl
  have F_path_kind := fun_mk (st := s_path_kind) l_path_kind c_path_kind k_path_kind
  have B_path_kind := F_path_kind.binds (ps := ["tree", "known", "path"]) fun _ _ _ _ _ _ us hl => by obtain ⟨_, _, _, rfl⟩ := len3 hl; exact rfl
  have F_kind_of_expr := fun_mk (st := s_kind_of_expr) l_kind_of_expr c_kind_of_expr k_kind_of_expr
  have B_kind_of_expr := F_kind_of_expr.binds (ps := ["tree", "known", "e"]) fun _ _ _ _ _ _ us hl => by obtain ⟨_, _, _, rfl⟩ := len3 hl; exact rfl
  have F__law_box := fun_mk (st := s__law_box) l__law_box c__law_box k__law_box
  have B__law_box := F__law_box.binds (ps := ["_law_script"]) fun _ _ _ _ _ _ us hl => by obtain ⟨_, rfl⟩ := len1 hl; exact rfl
  have F__law_take := fun_mk (st := s__law_take) l__law_take c__law_take k__law_take
  have B__law_take := F__law_take.binds (ps := ["_law_box_here", "_law_many"]) fun _ _ _ _ _ _ us hl => by obtain ⟨_, _, rfl⟩ := len2 hl; exact rfl
  have F__law_number := fun_mk (st := s__law_number) l__law_number c__law_number k__law_number
  have B__law_number := F__law_number.binds (ps := ["_law_box_here"]) fun _ _ _ _ _ _ us hl => by obtain ⟨_, rfl⟩ := len1 hl; exact rfl
  have F__law_words_of := fun_mk (st := s__law_words_of) l__law_words_of c__law_words_of k__law_words_of
  have B__law_words_of := F__law_words_of.binds (ps := ["_law_e"]) fun _ _ _ _ _ _ us hl => by obtain ⟨_, rfl⟩ := len1 hl; exact rfl
  have F__law_parts := fun_mk (st := s__law_parts) l__law_parts c__law_parts k__law_parts
  have B__law_parts := F__law_parts.binds (ps := ["_law_records_here", "_law_kind_here"]) fun _ _ _ _ _ _ us hl => by obtain ⟨_, _, rfl⟩ := len2 hl; exact rfl
  have F__law_least := fun_mk (st := s__law_least) l__law_least c__law_least k__law_least
  have B__law_least := F__law_least.binds (ps := ["_law_records_here", "_law_kind_here"]) fun _ _ _ _ _ _ us hl => by obtain ⟨_, _, rfl⟩ := len2 hl; exact rfl
  have F__law_kind := fun_mk (st := s__law_kind) l__law_kind c__law_kind k__law_kind
  have B__law_kind := F__law_kind.binds (ps := ["_law_box_here", "_law_records_here"]) fun _ _ _ _ _ _ us hl => by obtain ⟨_, _, rfl⟩ := len2 hl; exact rfl
  have F__law_records := fun_mk (st := s__law_records) l__law_records c__law_records k__law_records
  have B__law_records := F__law_records.binds (ps := ["_law_box_here"]) fun _ _ _ _ _ _ us hl => by obtain ⟨_, rfl⟩ := len1 hl; exact rfl
  have F__law_heads := fun_mk (st := s__law_heads) l__law_heads c__law_heads k__law_heads
  have B__law_heads := F__law_heads.binds (ps := ["_law_box_here", "_law_records_here"]) fun _ _ _ _ _ _ us hl => by obtain ⟨_, _, rfl⟩ := len2 hl; exact rfl
  have F__law_ways := fun_mk (st := s__law_ways) l__law_ways c__law_ways k__law_ways
  have B__law_ways := F__law_ways.binds (ps := ["_law_records_here", "_law_known"]) fun _ _ _ _ _ _ us hl => by obtain ⟨_, _, rfl⟩ := len2 hl; exact rfl
  have F__law_forms := fun_mk (st := s__law_forms) l__law_forms c__law_forms k__law_forms
  have B__law_forms := F__law_forms.binds (ps := ["_law_game", "_law_kind_here"]) fun _ _ _ _ _ _ us hl => by obtain ⟨_, _, rfl⟩ := len2 hl; exact rfl
  have F__law_plain := fun_mk (st := s__law_plain) l__law_plain c__law_plain k__law_plain
  have B__law_plain := F__law_plain.binds (ps := ["_law_game", "_law_known", "_law_kind_here"]) fun _ _ _ _ _ _ us hl => by obtain ⟨_, _, _, rfl⟩ := len3 hl; exact rfl
  have F__law_expr := fun_mk (st := s__law_expr) l__law_expr c__law_expr k__law_expr
  have B__law_expr := F__law_expr.binds (ps := ["_law_game", "_law_known", "_law_kind_here", "_law_room"]) fun _ _ _ _ _ _ us hl => by obtain ⟨_, _, _, _, rfl⟩ := len4 hl; exact rfl
  have F__law_let := fun_mk (st := s__law_let) l__law_let c__law_let k__law_let
  have B__law_let := F__law_let.binds (ps := ["_law_game", "_law_known"]) fun _ _ _ _ _ _ us hl => by obtain ⟨_, _, rfl⟩ := len2 hl; exact rfl
  have F__law_within := fun_mk (st := s__law_within) l__law_within c__law_within k__law_within
  have B__law_within := F__law_within.binds (ps := ["_law_game", "_law_known", "_law_due", "_law_deep", "_law_way"]) fun _ _ _ _ _ _ us hl => by obtain ⟨_, _, _, _, _, rfl⟩ := len5 hl; exact rfl
  have F__law_statement := fun_mk (st := s__law_statement) l__law_statement c__law_statement k__law_statement
  have B__law_statement := F__law_statement.binds (ps := ["_law_game", "_law_known", "_law_due", "_law_deep"]) fun _ _ _ _ _ _ us hl => by obtain ⟨_, _, _, _, rfl⟩ := len4 hl; exact rfl
  have F__law_both := fun_mk (st := s__law_both) l__law_both c__law_both k__law_both
  have B__law_both := F__law_both.binds (ps := ["_law_game", "_law_known", "_law_due", "_law_deep"]) fun _ _ _ _ _ _ us hl => by obtain ⟨_, _, _, _, rfl⟩ := len4 hl; exact rfl
  have F__law_body := fun_mk (st := s__law_body) l__law_body c__law_body k__law_body
  have B__law_body := F__law_body.binds (ps := ["_law_game", "_law_known", "_law_due", "_law_deep", "_law_ends"]) fun _ _ _ _ _ _ us hl => by obtain ⟨_, _, _, _, _, rfl⟩ := len5 hl; exact rfl
  have F__law_tree := fun_mk (st := s__law_tree) l__law_tree c__law_tree k__law_tree
  have B__law_tree := F__law_tree.binds (ps := ["_law_box_here"]) fun _ _ _ _ _ _ us hl => by obtain ⟨_, rfl⟩ := len1 hl; exact rfl
  have F_law := fun_mk (st := s_law) l_law c_law k_law
  have B_law := F_law.binds (ps := ["_law_script"]) fun _ _ _ _ _ _ us hl => by obtain ⟨_, rfl⟩ := len1 hl; exact rfl
  have T : Txt w K mg ⟨f_kinds_of, _, f_found_in, _, f_parts_of, _, f_path_kind, _, f_kind_of_expr, _, f__law_box, _, f__law_take, _, f__law_number, _, f__law_words_of, _, f__law_parts, _, f__law_least, _, f__law_kind, _, f__law_records, _, f__law_heads, _, f__law_ways, _, f__law_forms, _, f__law_plain, _, f__law_expr, _, f__law_let, _, f__law_within, _, f__law_statement, _, f__law_both, _, f__law_body, _, f__law_tree, _, fa, _⟩ := ⟨F_kinds_of, PySem.W.mg_of X G a_kinds_of, B_kinds_of, F_found_in, PySem.W.mg_of X G a_found_in, B_found_in, F_parts_of, PySem.W.mg_of X G a_parts_of, B_parts_of, F_path_kind, PySem.W.mg_of X G a_path_kind, B_path_kind, F_kind_of_expr, PySem.W.mg_of X G a_kind_of_expr, B_kind_of_expr, F__law_box, PySem.W.mg_of X G a__law_box, B__law_box, F__law_take, PySem.W.mg_of X G a__law_take, B__law_take, F__law_number, PySem.W.mg_of X G a__law_number, B__law_number, F__law_words_of, PySem.W.mg_of X G a__law_words_of, B__law_words_of, F__law_parts, PySem.W.mg_of X G a__law_parts, B__law_parts, F__law_least, PySem.W.mg_of X G a__law_least, B__law_least, F__law_kind, PySem.W.mg_of X G a__law_kind, B__law_kind, F__law_records, PySem.W.mg_of X G a__law_records, B__law_records, F__law_heads, PySem.W.mg_of X G a__law_heads, B__law_heads, F__law_ways, PySem.W.mg_of X G a__law_ways, B__law_ways, F__law_forms, PySem.W.mg_of X G a__law_forms, B__law_forms, F__law_plain, PySem.W.mg_of X G a__law_plain, B__law_plain, F__law_expr, PySem.W.mg_of X G a__law_expr, B__law_expr, F__law_let, PySem.W.mg_of X G a__law_let, B__law_let, F__law_within, PySem.W.mg_of X G a__law_within, B__law_within, F__law_statement, PySem.W.mg_of X G a__law_statement, B__law_statement, F__law_both, PySem.W.mg_of X G a__law_both, B__law_both, F__law_body, PySem.W.mg_of X G a__law_body, B__law_body, F__law_tree, PySem.W.mg_of X G a__law_tree, B__law_tree, F_law, PySem.W.mg_of X G a_law, B_law, ⟨_, PySem.W.mg_of X G g_KIND_OF, tb_KIND_OF⟩, ⟨_, PySem.W.mg_of X G g_OPERATIONS, tb_OPERATIONS⟩, ⟨_, PySem.W.mg_of X G g_PART_OF, tb_PART_OF⟩, PySem.W.mg_none_of X G z_isinstance, PySem.W.mg_none_of X G z_int, PySem.W.mg_none_of X G z_list, PySem.W.mg_none_of X G z_len, PySem.W.mg_none_of X G z_str, PySem.W.mg_none_of X G z_dict, PySem.W.mg_none_of X G z_sum, PySem.W.mg_none_of X G z_range, PySem.W.mg_none_of X G z_tuple, PySem.W.mg_none_of X G z_sorted⟩
  exact ⟨_, fun s v => .of_eq rfl, fun base _ _ => FnOk.ex fun n => ok_law T n⟩
theorem walk {l : PySem.W.OpenLaw} {q : Program} {loose : List Str} {XP : (Str → Option Value) → Heap → Prop} {YP : World → Heap → Prop} {d : DefRec} {K : Params → PySem.W.Frag} (hn : l.most = some 63) (hdf : d.params.defaults = [])
    (hY : ∀ (w : World) (h : Heap), YP w h → (K w.params).In h) (pure : ∀ ns : List Int, ns.length ≤ 63 → ∃ n st, F_law n [.frz (ns.map .int)] [] = .ok (.bl true) st)
    (F : ∀ (w : World) (mg : Str → Option Value) (fa : Addr) (h : Heap), (K w.params).In h → h.Ns mainGlobals mg → mg d.name = some (.ref fa) →
      ∃ fd : FuncData, (∀ (s : Shared) (u : Value), BindsTo s fd ⟨[u], []⟩ [("_law_script", u)]) ∧ ∀ base : Heap, (K w.params).In base → base.Ns mainGlobals mg → FnOk l.prog w (K w.params) mg base (L2.CX l.prog w) 65 fa fd ["_law_script"] (fun vs H Q E => ∃ n, spM ⟨w, K w.params⟩ (F_law n) 1 vs H Q E)) :
    PySem.W.WalkO q loose XP YP l.row.toRowW d [] (fun f vs => PySem.call f vs) :=
  L2.walk_of (n := 63) (k := 65) (x := "_law_script") (CX := fun w => L2.CX l.prog w) (sp := fun w vs H Q E => ∃ n, spM ⟨w, K w.params⟩ (F_law n) 1 vs H Q E) hn (by decide) hdf ⟨rfl, by decide, by decide⟩ hY F (fun w H a ns hl _ hS => by
    obtain ⟨n, st, e⟩ := pure ns hl
    exact law_sp (K := ⟨w, K w.params⟩) hS e) fun w H s e s' => cx_false H s e s'
end K09

set_option maxRecDepth 100000
namespace K09
open PySem L2 MP
theorem fmod_lt {i m : Int} (h : 0 < m) : 0 ≤ i.fmod m ∧ i.fmod m < m := by
  rw [Int.fmod_eq_emod_of_nonneg i (by omega)]
  exact ⟨Int.emod_nonneg _ (by omega), Int.emod_lt_of_pos _ h⟩
structure BoxF (st0 s : Sto) (b c : Nat) (k : Int) : Prop where
  box : Box s b c k
  len : s.length = st0.length
  keep : ∀ j, j ≠ b → j ≠ c → s[j]? = st0[j]?
theorem take_spec {n : Nat} {st : Sto} {b c : Nat} {k m : Int} (B : Box st b c k) (hk : 0 ≤ k) (hk2 : k < 1000000000000) (hm : 0 < m) (hm2 : m.natAbs.log2 < 9000) :
    Z (F__law_take n [.loc b, .int m] st) (fun v s => ∃ i, v = .int i ∧ 0 ≤ i ∧ i < m ∧ BoxF st s b c (k + 1)) E0 := by
  obtain ⟨⟨d, hd⟩, ns, hn, hc⟩ := B
  have hb : b < st.length := by
    rcases Nat.lt_or_ge b st.length with h | h
    · exact h
    · rw [List.getElem?_eq_none h] at hd; cases hd
  have hcl : c < st.length := by
    rcases Nat.lt_or_ge c st.length with h | h
    · exact h
    · rw [List.getElem?_eq_none h] at hc; cases hc
  have hbc : b ≠ c := by
    intro e
    rw [e, hc] at hd
    cases hd
  have hl : 0 < (ns.length : Int) := by
    have := List.length_pos_iff.mpr hn
    omega
  rw [z__law_take]
  unfold b__law_take
  obtain ⟨at0, at1⟩ := fmod_lt (i := k) hl
  have hmne : m ≠ 0 := by omega
  have hlen : (k.fmod ns.length) < ((ns.map PV.int).length : Int) := by simpa using at1
  have hat := atI_of (xs := ns.map PV.int) at0 hlen
  have hix := ixN_of (n := (ns.map PV.int).length) at0 hlen
  have hcb : ¬ c = b := fun e => hbc e.symm
  have f1 := fun i : Int => fmod_lt (i := i) hm
  have m1 : mulOk 7919 k = true := by simp [mulOk]
  have m2 : mulOk (7919 * k) k = true := by simp [mulOk]; omega
  have m3 : ∀ i : Int, mulOk i 48271 = true := fun i => by simp [mulOk]
  have m4 : ∀ i : Int, mulOk i 742938285 = true := fun i => by simp [mulOk]
  simp at hat hix
  have s1 : ∀ X, (st.set b X)[b]? = some X := fun X => by simp [List.getElem?_set, hb]
  have s2 : ∀ X, (st.set b X)[c]? = some (.lst (ns.map .int)) := fun X => by rw [← hc]; simp [List.getElem?_set, hbc]
  have s3 : ∀ X Y, ((st.set b X).set c Y)[b]? = some X := fun X Y => by simp [List.getElem?_set, hb, hcb]
  have s4 : ∀ X Y, ((st.set b X).set c Y)[c]? = some Y := fun X Y => by simp [List.getElem?_set, hcl]
  clear hb hcl
  have q0 : ∀ d, BoxF st (st.set b (.dct [(.str [99, 101, 108, 108, 115], .loc c), (.str [99, 111, 117, 110, 116], .int (k + 1)), (.str [100, 105, 103, 105, 116, 115], .bl d)])) b c (k + 1) := fun d => ⟨⟨⟨d, s1 _⟩, ns, hn, s2 _⟩, by simp, fun j hj _ => List.getElem?_set_ne (Ne.symm hj)⟩
  have q1 : ∀ (d : Bool) (i : Nat) (v : Int), BoxF st ((st.set b (.dct [(.str [99, 101, 108, 108, 115], .loc c), (.str [99, 111, 117, 110, 116], .int (k + 1)), (.str [100, 105, 103, 105, 116, 115], .bl d)])).set c (.lst ((ns.map .int).set i (.int v)))) b c (k + 1) := fun d i v => ⟨⟨⟨d, s3 _ _⟩, ns.set i v, by simpa using hn, by rw [s4]; simp⟩, by simp, fun j hj hj2 => (List.getElem?_set_ne (Ne.symm hj2)).trans (List.getElem?_set_ne (Ne.symm hj))⟩
  generalize ns[(k.fmod ns.length).toNat]'(by omega) = x at hat
  simp [hd, hc, lookP, s1, s2, hat, hix, putP, hmne, hn]
  cases d with
  | false => simp [s2, hat, m1, m2, m3, m4, hmne, f1, q0]
  | true =>
    simp [s2, hat]
    by_cases hx : x = 0
    · simp [s2, hat, m1, m2, m3, m4, hmne, f1, q0, hx]
    · by_cases hy : x = -1
      · simp [s2, hat, m1, m2, m3, m4, hmne, f1, q0, hy]
      · simp [s2, hat, hx, hy, hmne, hm, hm2, hix, f1, q1]
noncomputable def S2 (b c : Nat) (st s : Sto) : Prop := s.length = st.length ∧ ∀ j, j ≠ b → j ≠ c → s[j]? = st[j]?
theorem S2.refl {b c : Nat} {st : Sto} : S2 b c st st := ⟨rfl, fun _ _ _ => rfl⟩
theorem S2.trans {b c : Nat} {st s u : Sto} (h : S2 b c st s) (h' : S2 b c s u) : S2 b c st u := ⟨h'.1.trans h.1, fun j h1 h2 => (h'.2 j h1 h2).trans (h.2 j h1 h2)⟩
theorem S2.at {b c : Nat} {st s : Sto} {i : Nat} {x : Cell} (h : S2 b c st s) (hi : st[i]? = some x) (h1 : i ≠ b) (h2 : i ≠ c) : s[i]? = some x := (h.2 i h1 h2).trans hi
theorem take_go {n : Nat} {st : Sto} {b c : Nat} {k m : Int} {Q : PV → Sto → Prop} {E : Exn → Sto → Prop} (B : Box st b c k) (h : ∀ i s, 0 ≤ i → i < m → Box s b c (k + 1) → S2 b c st s → Q (.int i) s) (hm : 0 < m) (hk : 0 ≤ k) (hk2 : k < 1000000000000) (hm2 : m.natAbs.log2 < 9000) :
    Z (F__law_take n [.loc b, .int m] st) Q E := (take_spec B hk hk2 hm hm2).go fun v s ⟨i, e, h0, h1, B1⟩ => by subst e; exact h i s h0 h1 B1.box ⟨B1.len, B1.keep⟩
theorem itA_frz {xs : List PV} {st : Sto} : itemsA (.frz xs) st = some xs := rfl
theorem box_spec {n : Nat} {ns : List Int} : Z (F__law_box n [.frz (ns.map .int)] []) (fun v s => ∃ b c, v = .loc b ∧ Box s b c 0) E0 := by
  rw [z__law_box]
  unfold b__law_box
  cases ns with
  | nil =>
    simp [Z_listAN itA_frz, Z_eDct, L2.atI, L2.ixN, keysOk, mergeP, putP]
    exact ⟨_, ⟨_, rfl⟩, [0], by simp, rfl⟩
  | cons i ns =>
    have h : ¬ ((ns.length : Int) + 1 = 0) := by omega
    have h2 : (0 : Int) < (ns.length : Int) + 1 := by omega
    simp [Z_listAN itA_frz, Z_eDct, L2.atI, L2.ixN, keysOk, mergeP, putP, h, h2]
    exact ⟨_, ⟨_, rfl⟩, i.fdiv 2 :: ns, by simp, rfl⟩
theorem atI_all {α : Type} {xs : List α} {i : Int} (h0 : 0 ≤ i) (h1 : i < xs.length) {P : α → Prop} (hP : ∀ x ∈ xs, P x) : ∃ x, L2.atI xs i = some x ∧ P x := ⟨_, atI_of h0 h1, hP _ (List.getElem_mem _)⟩
theorem Z_inT {n : Bool} {x : PV} {xs : List PV} {st : Sto} {Q : PV → Sto → Prop} {E : Exn → Sto → Prop} (h : (flatP x && xs.all flatP) = true) : Z (inM n x (.tup xs) st) Q E = Q (.bl (ng n (xs.any fun p => eqb p x))) st := by
  unfold inM; dsimp only [seqOf]; rw [if_pos h]; rfl
noncomputable def BX (s : Sto) (b c : Nat) (K : Int) : Prop := ∃ k, Box s b c k ∧ 0 ≤ k ∧ k ≤ K
theorem BX.mono {s : Sto} {b c : Nat} {K K' : Int} (B : BX s b c K) (h : K ≤ K') : BX s b c K' := let ⟨k, B, h0, h1⟩ := B; ⟨k, B, h0, by omega⟩
theorem BX.app {s : Sto} {b c : Nat} {K : Int} (B : BX s b c K) (ys : Sto) : BX (s ++ ys) b c K := let ⟨k, B, h0, h1⟩ := B; ⟨k, B.app ys, h0, h1⟩
theorem BX.setN {s : Sto} {b c m : Nat} {K : Int} {x : Cell} (B : BX s b c K) (h : m ≠ b) (h' : m ≠ c) : BX (s.set m x) b c K := let ⟨k, B, h0, h1⟩ := B; ⟨k, B.setN h h', h0, h1⟩
theorem BX.bl {s : Sto} {b c : Nat} {K : Int} (B : BX s b c K) : b < s.length := let ⟨_, B, _⟩ := B; B.bl
theorem BX.cl {s : Sto} {b c : Nat} {K : Int} (B : BX s b c K) : c < s.length := let ⟨_, B, _⟩ := B; B.cl
theorem takeX {n : Nat} {st : Sto} {b c : Nat} {K m : Int} {Q : PV → Sto → Prop} {E : Exn → Sto → Prop} (B : BX st b c K) (h : ∀ i s, 0 ≤ i → i < m → BX s b c (K + 1) → S2 b c st s → Q (.int i) s) (hm : 0 < m := by omega) (hk2 : K < 1000000000000 := by omega) (hm2 : m.natAbs.log2 < 9000 := by decide +kernel) :
    Z (F__law_take n [.loc b, .int m] st) Q E := by
  obtain ⟨k, B, h0, h1⟩ := B
  exact take_go B (fun i s a1 a2 B1 s2 => h i s a1 a2 ⟨k + 1, B1, by omega, by omega⟩ s2) hm h0 (by omega) hm2
section
structure Sv (X : List Nat) (st st' : Sto) : Prop where
  len : st.length ≤ st'.length
  keep : ∀ i, i < st.length → i ∉ X → st'[i]? = st[i]?
theorem Sv.refl (X : List Nat) (st : Sto) : Sv X st st := ⟨Nat.le_refl _, fun _ _ _ => rfl⟩
theorem Sv.trans {X : List Nat} {a b c : Sto} (h : Sv X a b) (g : Sv X b c) : Sv X a c :=
  ⟨Nat.le_trans h.len g.len, fun i hi hx => (g.keep i (Nat.lt_of_lt_of_le hi h.len) hx).trans (h.keep i hi hx)⟩
theorem Sv.mono {X Y : List Nat} {a b : Sto} (h : Sv X a b) (s : ∀ i, i ∈ X → i ∈ Y) : Sv Y a b := ⟨h.len, fun i hi hx => h.keep i hi fun m => hx (s i m)⟩
theorem Sv.at {X : List Nat} {a b : Sto} {i : Nat} {c : Cell} (h : Sv X a b) (hi : a[i]? = some c) (hx : i ∉ X) : b[i]? = some c := (h.keep i (getN hi) hx).trans hi
theorem Sv.app {X : List Nat} {st t : Sto} : Sv X st (st ++ t) := ⟨by simp, fun i hi _ => List.getElem?_append_left hi⟩
theorem Sv.set {X : List Nat} {st : Sto} {i : Nat} {c : Cell} (h : i ∈ X) : Sv X st (st.set i c) := ⟨by simp, fun j _ hx => List.getElem?_set_ne (fun e : i = j => hx (by rw [← e]; exact h))⟩
inductive Kn where
  | num
  | row
  | rc (w : List Nat)
noncomputable def kP : Kn → PV
  | .num => .str [110, 117, 109]
  | .row => .str [114, 111, 119]
  | .rc w => .str w
noncomputable abbrev Fld := List Nat × Kn
noncomputable abbrev Recs := List (List Nat × List Fld)
noncomputable def fldP (f : Fld) : PV := .tup [.str f.1, kP f.2]
noncomputable def recP (r : List Nat × List Fld) : PV := .tup [.str r.1, .tup (r.2.map fldP)]
noncomputable def look : Recs → List Nat → Option (List Fld)
  | [], _ => none
  | r :: R, w => if r.1 = w then some r.2 else look R w
inductive KD (R : Recs) : Nat → Kn → Prop
  | num {d : Nat} : KD R (d + 1) .num
  | row {d : Nat} : KD R (d + 1) .row
  | rc {d : Nat} {w : List Nat} {fs : List Fld} : look R w = some fs → w ≠ [110, 117, 109] → w ≠ [114, 111, 119] → (∀ f ∈ fs, KD R d f.2) → KD R (d + 1) (.rc w)
noncomputable def partsD (R : Recs) : Nat → Kn → List Nat
  | 0, _ => []
  | _ + 1, .num => [110]
  | _ + 1, .row => [114]
  | d + 1, .rc w => ((look R w).getD []).flatMap fun f => partsD R d f.2
noncomputable def leastD (R : Recs) : Nat → Kn → Int
  | 0, _ => 0
  | _ + 1, .num => 1
  | _ + 1, .row => 2
  | d + 1, .rc w => 3 + (((look R w).getD []).map fun f => leastD R d f.2).sum
theorem look_mem : ∀ {R : Recs} {w : List Nat} {fs : List Fld}, look R w = some fs → (w, fs) ∈ R
  | [], w, fs, h => by cases h
  | r :: R, w, fs, h => by
    unfold look at h
    by_cases e : r.1 = w
    · rw [if_pos e] at h; cases h; exact List.mem_cons.mpr (.inl (by rw [← e]))
    · rw [if_neg e] at h; exact List.mem_cons_of_mem _ (look_mem h)
theorem lookP_put {kvs : List (PV × PV)} {k k' v : PV} : lookP (putP kvs k v) k' = if k = k' then some v else lookP kvs k' := by
  have h1 : ∀ (kvs : List (PV × PV)), (kvs.any fun kv => decide (kv.1 = k)) = true → lookP (kvs.map (fun kv => if kv.1 = k then (kv.1, v) else kv)) k' = if k = k' then some v else lookP kvs k' := by
    intro kvs
    induction kvs with
    | nil => intro h; simp at h
    | cons a r ih =>
      intro h
      simp only [List.map_cons, lookP]
      by_cases e : a.1 = k
      · simp only [e, if_true]
        by_cases e2 : k = k'
        · simp [e2]
        · simp only [e2, if_false]
          by_cases hr : (r.any fun kv => decide (kv.1 = k)) = true
          · rw [ih hr, if_neg e2]
          · have e3 : r.map (fun kv => if kv.1 = k then (kv.1, v) else kv) = r := by
              refine (List.map_congr_left fun x hx => ?_).trans (List.map_id _)
              have : ¬ x.1 = k := fun ex => hr (List.any_eq_true.mpr ⟨x, hx, by simpa using ex⟩)
              simp [this]
            rw [e3]
      · simp only [e, if_false]
        have hr : (r.any fun kv => decide (kv.1 = k)) = true := by simpa [e] using h
        rw [ih hr]
        by_cases e2 : a.1 = k'
        · have e3 : ¬ k = k' := fun x => e (by rw [e2, x])
          simp [e2, e3]
        · simp [e2]
  have h2 : ∀ (kvs : List (PV × PV)), ¬ (kvs.any fun kv => decide (kv.1 = k)) = true → lookP (kvs ++ [(k, v)]) k' = if k = k' then some v else lookP kvs k' := by
    intro kvs
    induction kvs with
    | nil => intro _; simp [lookP]
    | cons a r ih =>
      intro h
      have h' : ¬ a.1 = k ∧ ¬ (r.any fun kv => decide (kv.1 = k)) = true := by
        refine ⟨fun e => h (by simp [e]), fun e => h ?_⟩
        rw [List.any_cons, e, Bool.or_true]
      simp only [List.cons_append, lookP]
      rw [ih h'.2]
      by_cases e2 : a.1 = k'
      · have e3 : ¬ k = k' := fun x => h'.1 (by rw [e2, x])
        simp [e2, e3]
      · simp [e2]
  unfold putP
  by_cases h : (kvs.any fun kv => decide (kv.1 = k)) = true
  · rw [if_pos h, h1 kvs h]
  · rw [if_neg h, h2 kvs h]
theorem merge_out {k : PV} : ∀ {ps acc : List (PV × PV)}, k ∉ ps.map Prod.fst → lookP (mergeP acc ps) k = lookP acc k
  | [], acc, _ => rfl
  | p :: ps, acc, h => by
    simp only [List.map_cons, List.mem_cons, not_or] at h
    show lookP (mergeP (putP acc p.1 p.2) ps) k = _
    rw [merge_out h.2, lookP_put, if_neg (Ne.symm h.1)]
theorem merge_in {k v : PV} : ∀ {ps acc : List (PV × PV)}, (ps.map Prod.fst).Nodup → (k, v) ∈ ps → lookP (mergeP acc ps) k = some v
  | p :: ps, acc, hn, h => by
    simp only [List.map_cons, List.nodup_cons] at hn
    show lookP (mergeP (putP acc p.1 p.2) ps) k = _
    rcases List.mem_cons.mp h with e | e
    · rw [← e] at hn ⊢
      rw [merge_out hn.1, lookP_put, if_pos rfl]
    · exact merge_in hn.2 e
noncomputable def recKV (R : Recs) : List (PV × PV) := R.map fun r => (.str r.1, .tup (r.2.map fldP))
theorem recs_pairs : ∀ (R : Recs), pairsOf (R.map recP) = some (recKV R)
  | [] => rfl
  | r :: R => by
    show (pairsOf (R.map recP)).map _ = _
    rw [recs_pairs R]
    rfl
theorem recs_keys (R : Recs) : keysOk (recKV R) = true := by simp [keysOk, recKV, MP.keyOf]
theorem recs_look {R : Recs} {w : List Nat} {fs : List Fld} (hn : (R.map Prod.fst).Nodup) (h : look R w = some fs) : lookP (mergeP [] (recKV R)) (.str w) = some (.tup (fs.map fldP)) := by
  refine merge_in ?_ (List.mem_map.mpr ⟨(w, fs), look_mem h, rfl⟩)
  have : (recKV R).map Prod.fst = (R.map Prod.fst).map PV.str := by simp [recKV]
  rw [this]
  exact List.Pairwise.map PV.str (fun a b hab e => hab (by injection e)) hn

noncomputable def RL (x : PV) (st : Sto) (R : Recs) : Prop := x = .lst (R.map recP) ∨ ∃ m, x = .loc m ∧ st[m]? = some (.lst (R.map recP))
theorem RL.keep {x : PV} {st st' : Sto} {R : Recs} (h : RL x st R) (s : Sv [] st st') : RL x st' R := by
  rcases h with h | ⟨m, h, e⟩
  · exact .inl h
  · exact .inr ⟨m, h, s.at e (by simp)⟩
theorem RL.dict {x : PV} {st : Sto} {R : Recs} {Q : PV → Sto → Prop} {E : Exn → Sto → Prop} (h : RL x st R) : Z (dictM [x] st) Q E = Q (.loc st.length) (st ++ [.dct (mergeP [] (recKV R))]) := by
  rcases h with h | ⟨m, h, e⟩
  · subst h
    exact Z_dictP rfl (by unfold MP.listOf; rfl) (recs_pairs R) (recs_keys R)
  · subst h
    exact Z_dictP (by unfold dctOf; dsimp only; rw [e]) (by unfold MP.listOf; dsimp only; rw [e]) (recs_pairs R) (recs_keys R)
section
variable {n : Nat} {R : Recs}
theorem parts_go {d : Nat} {x : PV} {k : PV} {f : Kn → List Nat} (ih : ∀ (k : Kn) (st : Sto) (Q : PV → Sto → Prop) (E : Exn → Sto → Prop), KD R d k → RL x st R → (∀ st', Sv [] st st' → Q (.str (f k)) st') → Z (F__law_parts n d [x, kP k] st) Q E) :
    ∀ (fs : List Fld) (acc : List (List Nat)) (st : Sto) (QL : List PV → Sto → Prop) (E : Exn → Sto → Prop), (∀ g ∈ fs, KD R d g.2) → RL x st R → acc.length + fs.length < 1000 → (∀ st', Sv [] st st' → QL ((acc ++ fs.map fun g => f g.2).map .str) st') →
    Z (lcL (gN 2) tYesM (eCall (F__law_parts n d) (aCons (eVar 0) (aCons (eBin ixM (eVar 2) (eC (.int 1))) aNil))) [some x, some k, none] (fs.map fldP) (acc.map .str) st) QL E
  | [], acc, st, QL, E, hk, hx, hl, hq => by
    rw [List.map_nil, lc_nil]
    simpa using hq st (Sv.refl _ _)
  | g :: fs, acc, st, QL, E, hk, hx, hl, hq => by
    simp at hl
    have ha : acc.length < 16777216 := by omega
    rw [List.map_cons, lc_cons]
    simp [fldP, L2.ixN]
    refine ih g.2 st _ _ (hk g (by simp)) hx fun st1 s1 => ?_
    simp [ha]
    have e : acc.map PV.str ++ [.str (f g.2)] = (acc ++ [f g.2]).map .str := by simp
    rw [e]
    exact parts_go ih fs _ st1 QL E (fun y hy => hk y (by simp [hy])) (hx.keep s1) (by simp; omega) fun st2 s2 => by simpa using hq st2 (s1.trans s2)
theorem joinL_nil : ∀ (zs : List (List Nat)), TL.joinL [] zs = zs.flatten := by
  intro zs
  induction zs with
  | nil => rfl
  | cons z zs ih =>
    cases zs with
    | nil => simp [TL.joinL]
    | cons y ys => simp [TL.joinL] at ih ⊢; exact ih
structure RG (R : Recs) : Prop where
  nd : (R.map Prod.fst).Nodup
  fl : ∀ r ∈ R, r.2.length ≤ 10
  pl : ∀ d k, KD R d k → (partsD R d k).length ≤ 100
theorem parts_spec (hR : RG R) {x : PV} : ∀ (d : Nat) (k : Kn) (st : Sto) (Q : PV → Sto → Prop) (E : Exn → Sto → Prop), KD R d k → RL x st R → (∀ st', Sv [] st st' → Q (.str (partsD R d k)) st') → Z (F__law_parts n d [x, kP k] st) Q E
  | 0, k, st, Q, E, hk, hx, hq => by cases hk
  | d + 1, k, st, Q, E, hk, hx, hq => by
    rw [z__law_parts, b__law_parts]
    cases hk with
    | num => simp [kP]; exact hq st (Sv.refl _ _)
    | row => simp [kP]; exact hq st (Sv.refl _ _)
    | @rc _ w fs hw n1 n2 hfs =>
      have hlen : fs.length ≤ 10 := hR.fl _ (look_mem hw)
      have hlk := recs_look hR.nd hw
      simp [kP, n1, n2, hx.dict, hlk]
      refine parts_go (f := partsD R d) (fun k st Q E h1 h2 h3 => parts_spec hR d k st Q E h1 h2 h3) fs [] _ _ _ hfs (hx.keep Sv.app) (by simp; omega) fun st1 s1 => ?_
      have hsum : ((fs.map fun g => partsD R d g.2).map (·.length)).sum ≤ 100 * fs.length := by
        have : ∀ l : List Fld, (∀ g ∈ l, KD R d g.2) → ((l.map fun g => partsD R d g.2).map (·.length)).sum ≤ 100 * l.length := by
          intro l
          induction l with
          | nil => intro _; simp
          | cons g l ih =>
            intro h
            have h1 := hR.pl d g.2 (h g (by simp))
            have h2 := ih fun y hy => h y (by simp [hy])
            simp only [List.map_cons, List.sum_cons, List.length_cons]
            omega
        exact this fs hfs
      have hz : ((fs.map fun g => partsD R d g.2).map (·.length)).sum + (fs.map fun g => partsD R d g.2).length * ([] : List Nat).length ≤ 16777216 := by simp only [List.length_nil, Nat.mul_zero]; omega
      have hq' := hq st1 (Sv.trans Sv.app s1)
      simp only [partsD, hw, Option.getD_some] at hq'
      simp only [List.nil_append]
      rw [show (fs.flatMap fun g => partsD R d g.2) = (fs.map fun g => partsD R d g.2).flatten from List.flatMap_def ..] at hq'
      generalize (fs.map fun g => partsD R d g.2) = zs at hz hq' ⊢
      simp [Z_join (x := .lst (zs.map .str)) (zs := zs) (a := []) rfl hz, joinL_nil]
      exact hq'
end

end
section
section
variable {n : Nat} {R : Recs}
theorem least_go {d : Nat} {x : PV} {k : PV} {f : Kn → Int} (ih : ∀ (k : Kn) (st : Sto) (Q : PV → Sto → Prop) (E : Exn → Sto → Prop), KD R d k → RL x st R → (∀ st', Sv [] st st' → Q (.int (f k)) st') → Z (F__law_least n d [x, kP k] st) Q E) :
    ∀ (fs : List Fld) (acc : List Int) (st : Sto) (QL : List PV → Sto → Prop) (E : Exn → Sto → Prop), (∀ g ∈ fs, KD R d g.2) → RL x st R → acc.length + fs.length < 1000 → (∀ st', Sv [] st st' → QL ((acc ++ fs.map fun g => f g.2).map .int) st') →
    Z (lcL (gN 2) tYesM (eCall (F__law_least n d) (aCons (eVar 0) (aCons (eBin ixM (eVar 2) (eC (.int 1))) aNil))) [some x, some k, none] (fs.map fldP) (acc.map .int) st) QL E
  | [], acc, st, QL, E, hk, hx, hl, hq => by
    rw [List.map_nil, lc_nil]
    simpa using hq st (Sv.refl _ _)
  | g :: fs, acc, st, QL, E, hk, hx, hl, hq => by
    simp at hl
    have ha : acc.length < 16777216 := by omega
    rw [List.map_cons, lc_cons]
    simp [fldP, L2.ixN]
    refine ih g.2 st _ _ (hk g (by simp)) hx fun st1 s1 => ?_
    simp [ha]
    have e : acc.map PV.int ++ [.int (f g.2)] = (acc ++ [f g.2]).map .int := by simp
    rw [e]
    exact least_go ih fs _ st1 QL E (fun y hy => hk y (by simp [hy])) (hx.keep s1) (by simp; omega) fun st2 s2 => by simpa using hq st2 (s1.trans s2)
theorem least_spec (hR : RG R) {x : PV} : ∀ (d : Nat) (k : Kn) (st : Sto) (Q : PV → Sto → Prop) (E : Exn → Sto → Prop), KD R d k → RL x st R → (∀ st', Sv [] st st' → Q (.int (leastD R d k)) st') → Z (F__law_least n d [x, kP k] st) Q E
  | 0, k, st, Q, E, hk, hx, hq => by cases hk
  | d + 1, k, st, Q, E, hk, hx, hq => by
    rw [z__law_least, b__law_least]
    cases hk with
    | num => simp [kP]; exact hq st (Sv.refl _ _)
    | row => simp [kP]; exact hq st (Sv.refl _ _)
    | @rc _ w fs hw n1 n2 hfs =>
      have hlen : fs.length ≤ 10 := hR.fl _ (look_mem hw)
      have hlk := recs_look hR.nd hw
      simp [kP, n1, n2, hx.dict, hlk]
      refine least_go (f := leastD R d) (fun k st Q E h1 h2 h3 => least_spec hR d k st Q E h1 h2 h3) fs [] _ _ _ hfs (hx.keep Sv.app) (by simp; omega) fun st1 s1 => ?_
      have hq' := hq st1 (Sv.trans Sv.app s1)
      simp only [leastD, hw, Option.getD_some] at hq'
      simp only [List.nil_append]
      generalize (fs.map fun g => leastD R d g.2) = zs at hq' ⊢
      simp [Z_sumL]
      exact hq'
end

end
section
theorem KD.up {R : Recs} {d : Nat} {k : Kn} (h : KD R d k) : KD R (d + 1) k := by
  induction h with
  | num => exact .num
  | row => exact .row
  | rc h1 h2 h3 _ ih => exact .rc h1 h2 h3 fun f hf => ih f hf
theorem KD.upn {R : Recs} {d : Nat} {k : Kn} (h : KD R d k) : ∀ e, KD R (d + e) k
  | 0 => h
  | e + 1 => (h.upn e).up
theorem least_up {R : Recs} : ∀ {d : Nat} {k : Kn}, KD R d k → leastD R (d + 1) k = leastD R d k := by
  intro d k h
  induction h with
  | num => rfl
  | row => rfl
  | @rc d w fs h1 h2 h3 _ ih =>
    show 3 + (((look R w).getD []).map fun f => leastD R (d + 1) f.2).sum = 3 + (((look R w).getD []).map fun f => leastD R d f.2).sum
    rw [h1]
    simp only [Option.getD_some]
    congr 2
    exact List.map_congr_left fun f hf => ih f hf
theorem least_upn {R : Recs} {d : Nat} {k : Kn} (h : KD R d k) : ∀ e, leastD R (d + e) k = leastD R d k
  | 0 => rfl
  | e + 1 => (least_up (h.upn e)).trans (least_upn h e)
structure RV (R : Recs) : Prop where
  rg : RG R
  kd : ∀ r ∈ R, KD R 8 (.rc r.1)
noncomputable def kindsOf (R : Recs) (l : Recs) : List Kn := (l.filter fun r => decide (leastD R 8 (.rc r.1) < 8)).map fun r => .rc r.1
section
variable {n : Nat} {R : Recs}
theorem kind_go (hR : RV R) {m : Nat} {a0 a2 : Option PV} : ∀ (l : Recs) (acc : List Kn) (st : Sto) (QL : List PV → Sto → Prop) (E : Exn → Sto → Prop), (∀ r ∈ l, r ∈ R) → st[m]? = some (.lst (R.map recP)) → acc.length + l.length < 1000 → (∀ st', Sv [] st st' → QL ((acc ++ kindsOf R l).map kP) st') →
    Z (lcG (gd m (R.map recP)) (gN 3) (eB (eBin ltI (eCall (F__law_least n 20) (aCons (eVar 1) (aCons (eBin ixM (eVar 3) (eC (.int 0))) aNil))) (eC (.int 8)))) (eBin ixM (eVar 3) (eC (.int 0))) [a0, some (.loc m), a2, none] (l.map recP) (acc.map kP) st) QL E
  | [], acc, st, QL, E, hl, hm, hz, hq => by
    rw [List.map_nil, lcG_nil (gd_of hm)]
    simpa [kindsOf] using hq st (Sv.refl _ _)
  | r :: l, acc, st, QL, E, hl, hm, hz, hq => by
    have hk := hR.kd r (hl r (by simp))
    have ha : acc.length < 16777216 := by omega
    have hkP : PV.str r.1 = kP (.rc r.1) := rfl
    simp at hz
    rw [List.map_cons, lcG_cons (gd_of hm)]
    simp [recP, L2.ixN]
    rw [hkP]
    refine least_spec hR.rg 20 (.rc r.1) st _ _ (hk.upn 12) (.inr ⟨m, rfl, hm⟩) fun st1 s1 => ?_
    rw [show leastD R 20 (.rc r.1) = leastD R 8 (.rc r.1) from least_upn hk 12]
    have hm1 := s1.at hm (by simp)
    by_cases hlt : leastD R 8 (.rc r.1) < 8
    · simp [hlt, ha]
      have e : acc.map kP ++ [kP (.rc r.1)] = (acc ++ [Kn.rc r.1]).map kP := by simp
      rw [e]
      refine kind_go hR l (acc ++ [Kn.rc r.1]) st1 QL E (fun y hy => hl y (by simp [hy])) hm1 (by simp; omega) fun st2 s2 => ?_
      have := hq st2 (s1.trans s2)
      simpa [kindsOf, hlt] using this
    · simp [hlt]
      refine kind_go hR l acc st1 QL E (fun y hy => hl y (by simp [hy])) hm1 (by omega) fun st2 s2 => ?_
      have := hq st2 (s1.trans s2)
      simpa [kindsOf, hlt] using this
theorem kind_spec (hR : RV R) (hlen : R.length ≤ 10) {st : Sto} {b c m : Nat} {K : Int} {Q : PV → Sto → Prop} {E : Exn → Sto → Prop} (B : BX st b c K) (hK : K < 100000000) (hm : st[m]? = some (.lst (R.map recP))) (hq : ∀ k st', (k = .num ∨ k = .row ∨ ∃ r ∈ R, k = .rc r.1) → leastD R 8 k < 8 → BX st' b c (K + 1) → Sv [b, c] st st' → Q (kP k) st') :
    Z (F__law_kind n [.loc b, .loc m] st) Q E := by
  have lb := B.bl
  have lc := B.cl
  rw [z__law_kind, b__law_kind]
  simp [kCell_at hm]
  refine kind_go hR R [] st _ _ (fun r h => h) hm (by simp; omega) fun st1 s1 => ?_
  have B1 : BX st1 b c K := by
    obtain ⟨k, ⟨⟨d, hd⟩, ns, hn, hc⟩, h0, h1⟩ := B
    exact ⟨k, ⟨⟨d, s1.at hd (by simp)⟩, ns, hn, s1.at hc (by simp)⟩, h0, h1⟩
  have hkl : (kindsOf R R).length ≤ R.length := by unfold kindsOf; rw [List.length_map]; exact List.length_filter_le _ _
  obtain ⟨L, hL⟩ : ∃ L : List Kn, L = .num :: .num :: .row :: kindsOf R R := ⟨_, rfl⟩
  have hLl : L.length = (kindsOf R R).length + 3 := by rw [hL]; simp
  have hmem : ∀ k ∈ L, (k = .num ∨ k = .row ∨ ∃ r ∈ R, k = .rc r.1) ∧ leastD R 8 k < 8 := by
    intro k hk
    rw [hL] at hk
    simp only [List.mem_cons] at hk
    rcases hk with rfl | rfl | rfl | hk
    · exact ⟨.inl rfl, by show (1 : Int) < 8; decide⟩
    · exact ⟨.inl rfl, by show (1 : Int) < 8; decide⟩
    · exact ⟨.inr (.inl rfl), by show (2 : Int) < 8; decide⟩
    · unfold kindsOf at hk
      obtain ⟨r, hr, rfl⟩ := List.mem_map.mp hk
      obtain ⟨h1, h2⟩ := List.mem_filter.mp hr
      exact ⟨.inr (.inr ⟨r, h1, rfl⟩), by simpa using h2⟩
  have eL : PV.lst (.str [110, 117, 109] :: .str [110, 117, 109] :: .str [114, 111, 119] :: (kindsOf R R).map kP) = .lst (L.map kP) := by rw [hL]; rfl
  have hsz : 3 + (kindsOf R R).length ≤ 16777216 := by omega
  simp [hsz]
  have e1 : (kindsOf R R).length + 1 + 1 + 1 = L.length := by omega
  rw [eL]
  refine takeX B1 (fun i st2 i0 i1 B2 s2 => ?_) (by omega) (by omega) (Nat.lt_of_le_of_lt (Nat.log2_le_self _) (by omega))
  have hi : i < (L.length : Int) := by omega
  have hat : L2.atI (L.map kP) i = some (kP (L[i.toNat]'(by omega))) := by
    have := atI_of (xs := L.map kP) i0 (by simpa using hi)
    simpa using this
  simp [hat]
  obtain ⟨h1, h2⟩ := hmem (L[i.toNat]'(by omega)) (List.getElem_mem _)
  refine hq _ _ h1 h2 B2 ((s1.mono (by simp)).trans ⟨by rw [s2.1]; exact Nat.le_refl _, fun j _ hj => ?_⟩)
  simp at hj
  exact s2.2 j hj.1 hj.2
end

end
section
theorem parts_up {R : Recs} : ∀ {d : Nat} {k : Kn}, KD R d k → partsD R (d + 1) k = partsD R d k := by
  intro d k h
  induction h with
  | num => rfl
  | row => rfl
  | @rc d w fs h1 h2 h3 _ ih =>
    show (((look R w).getD []).flatMap fun f => partsD R (d + 1) f.2) = ((look R w).getD []).flatMap fun f => partsD R d f.2
    rw [h1]
    simp only [Option.getD_some]
    rw [List.flatMap_def, List.flatMap_def, List.map_congr_left fun f hf => ih f hf]
theorem parts_upn {R : Recs} {d : Nat} {k : Kn} (h : KD R d k) : ∀ e, partsD R (d + e) k = partsD R d k
  | 0 => rfl
  | e + 1 => (parts_up (h.upn e)).trans (parts_upn h e)
theorem parts_eq {R : Recs} {d e : Nat} {k : Kn} (h : KD R d k) (g : KD R e k) : partsD R d k = partsD R e k := by
  have h1 := parts_upn h e
  have h2 := parts_upn g d
  rw [Nat.add_comm e d] at h2
  rw [← h1, h2]
theorem look_app {R S : Recs} {w : List Nat} {fs : List Fld} : look R w = some fs → look (R ++ S) w = some fs := by
  induction R with
  | nil => intro h; cases h
  | cons r R ih =>
    intro h
    simp only [List.cons_append, look] at h ⊢
    by_cases e : r.1 = w
    · rw [if_pos e] at h ⊢; exact h
    · rw [if_neg e] at h ⊢; exact ih h
theorem look_new {R : Recs} {w : List Nat} {fs : List Fld} (h : w ∉ R.map Prod.fst) : look (R ++ [(w, fs)]) w = some fs := by
  induction R with
  | nil => simp [look]
  | cons r R ih =>
    simp only [List.map_cons, List.mem_cons, not_or] at h
    simp only [List.cons_append, look]
    rw [if_neg (Ne.symm h.1)]
    exact ih h.2
theorem KD.app {R S : Recs} {d : Nat} {k : Kn} (h : KD R d k) : KD (R ++ S) d k := by
  induction h with
  | num => exact .num
  | row => exact .row
  | rc h1 h2 h3 _ ih => exact .rc (look_app h1) h2 h3 fun f hf => ih f hf
theorem parts_app {R S : Recs} : ∀ {d : Nat} {k : Kn}, KD R d k → partsD (R ++ S) d k = partsD R d k := by
  intro d k h
  induction h with
  | num => rfl
  | row => rfl
  | @rc d w fs h1 h2 h3 _ ih =>
    show (((look (R ++ S) w).getD []).flatMap fun f => partsD (R ++ S) d f.2) = ((look R w).getD []).flatMap fun f => partsD R d f.2
    rw [h1, look_app h1]
    simp only [Option.getD_some]
    rw [List.flatMap_def, List.flatMap_def, List.map_congr_left fun f hf => ih f hf]
theorem least_app {R S : Recs} : ∀ {d : Nat} {k : Kn}, KD R d k → leastD (R ++ S) d k = leastD R d k := by
  intro d k h
  induction h with
  | num => rfl
  | row => rfl
  | @rc d w fs h1 h2 h3 _ ih =>
    show 3 + (((look (R ++ S) w).getD []).map fun f => leastD (R ++ S) d f.2).sum = 3 + (((look R w).getD []).map fun f => leastD R d f.2).sum
    rw [h1, look_app h1]
    simp only [Option.getD_some]
    rw [List.map_congr_left fun f hf => ih f hf]
theorem least_eq {R : Recs} {d e : Nat} {k : Kn} (h : KD R d k) (g : KD R e k) : leastD R d k = leastD R e k := by
  have h1 := least_upn h e
  have h2 := least_upn g d
  rw [Nat.add_comm e d] at h2
  rw [← h1, h2]
noncomputable def KIn (R : Recs) (k : Kn) : Prop := k = .num ∨ k = .row ∨ ∃ r ∈ R, k = .rc r.1
noncomputable def fnm : List (List Nat) := [[120], [121], [97, 98], [110]]
structure RM (R : Recs) : Prop where
  nd : (R.map Prod.fst).Nodup
  nk : ∀ r ∈ R, r.1 ≠ [110, 117, 109] ∧ r.1 ≠ [114, 111, 119]
  fl : ∀ r ∈ R, r.2.length ≤ 4
  kd : ∀ r ∈ R, KD R (R.length + 1) (.rc r.1)
  pl : ∀ r ∈ R, (partsD R (R.length + 1) (.rc r.1)).length ≤ 4
  ls : ∀ r ∈ R, ∀ f ∈ r.2, ∃ d, KD R d f.2 ∧ leastD R d f.2 < 8
  fn : ∀ r ∈ R, (r.2.map Prod.fst).Sublist fnm
  ne : ∀ r ∈ R, r.2 ≠ []
  bk : ∀ i r, R[i]? = some r → ∀ f ∈ r.2, KIn (R.take i) f.2
theorem RM.kin {R : Recs} (h : RM R) {k : Kn} (hk : KIn R k) : KD R (R.length + 1) k := by
  rcases hk with rfl | rfl | ⟨r, hr, rfl⟩
  · exact .num
  · exact .row
  · exact h.kd r hr
theorem KD.kin {R : Recs} {d : Nat} {k : Kn} (h : KD R d k) : KIn R k := by
  cases h with
  | num => exact .inl rfl
  | row => exact .inr (.inl rfl)
  | rc h1 _ _ _ => exact .inr (.inr ⟨_, look_mem h1, rfl⟩)
theorem RM.p4 {R : Recs} (h : RM R) {k : Kn} (hk : KIn R k) : (partsD R (R.length + 1) k).length ≤ 4 := by
  rcases hk with rfl | rfl | ⟨r, hr, rfl⟩
  · show 1 ≤ 4; decide
  · show 1 ≤ 4; decide
  · exact h.pl r hr
theorem RM.rv {R : Recs} (h : RM R) (hl : R.length ≤ 7) : RV R where
  rg := ⟨h.nd, fun r hr => Nat.le_trans (h.fl r hr) (by decide), fun d k hk => by
    rw [parts_eq hk (h.kin hk.kin)]
    exact Nat.le_trans (h.p4 hk.kin) (by decide)⟩
  kd := fun r hr => by
    have := (h.kd r hr).upn (8 - (R.length + 1))
    rw [show R.length + 1 + (8 - (R.length + 1)) = 8 by omega] at this
    exact this
theorem RM.nil : RM [] := ⟨by simp, by simp, by simp, by simp, by simp, by simp, by simp, by simp, by simp⟩
theorem RM.add {R : Recs} (h : RM R) {w : List Nat} {fs : List Fld} (hw : w ∉ R.map Prod.fst) (h1 : w ≠ [110, 117, 109]) (h2 : w ≠ [114, 111, 119]) (hf : fs.length ≤ 4) (hk : ∀ f ∈ fs, KIn R f.2) (hls : ∀ f ∈ fs, ∃ d, KD R d f.2 ∧ leastD R d f.2 < 8) (hfn : (fs.map Prod.fst).Sublist fnm) (hne : fs ≠ []) (hp : (fs.flatMap fun f => partsD R (R.length + 1) f.2).length ≤ 4) : RM (R ++ [(w, fs)]) := by
  have hkd : KD (R ++ [(w, fs)]) (R.length + 2) (.rc w) := .rc (look_new hw) h1 h2 fun f hf => (h.kin (hk f hf)).app
  have hpd : partsD (R ++ [(w, fs)]) (R.length + 2) (.rc w) = fs.flatMap fun f => partsD R (R.length + 1) f.2 := by
    show (((look (R ++ [(w, fs)]) w).getD []).flatMap fun f => partsD (R ++ [(w, fs)]) (R.length + 1) f.2) = _
    rw [look_new hw]
    simp only [Option.getD_some]
    rw [List.flatMap_def, List.flatMap_def, List.map_congr_left fun f hf => parts_app (h.kin (hk f hf))]
  refine ⟨?_, ?_, ?_, ?_, ?_, ?_, ?_, ?_, ?_⟩
  · rw [List.map_append, List.nodup_append]
    refine ⟨h.nd, by simp, fun a ha b hb e => ?_⟩
    simp at hb
    subst hb
    exact hw (e ▸ ha)
  · intro r hr
    rcases List.mem_append.mp hr with hr | hr
    · exact h.nk r hr
    · simp at hr; subst hr; exact ⟨h1, h2⟩
  · intro r hr
    rcases List.mem_append.mp hr with hr | hr
    · exact h.fl r hr
    · simp at hr; subst hr; exact hf
  · intro r hr
    rw [List.length_append, List.length_singleton]
    rcases List.mem_append.mp hr with hr | hr
    · exact (h.kd r hr).app.up
    · simp at hr; subst hr; exact hkd
  · intro r hr
    rw [List.length_append, List.length_singleton]
    rcases List.mem_append.mp hr with hr | hr
    · rw [parts_up (h.kd r hr).app, parts_app (h.kd r hr)]; exact h.pl r hr
    · simp at hr; subst hr; rw [hpd]; exact hp
  · intro r hr f hf'
    rcases List.mem_append.mp hr with hr | hr
    · obtain ⟨d, h1, h2⟩ := h.ls r hr f hf'
      exact ⟨d, h1.app, by rw [least_app h1]; exact h2⟩
    · simp at hr; subst hr
      obtain ⟨d, h1, h2⟩ := hls f hf'
      exact ⟨d, h1.app, by rw [least_app h1]; exact h2⟩
  · intro r hr
    rcases List.mem_append.mp hr with hr | hr
    · exact h.fn r hr
    · simp at hr; subst hr; exact hfn
  · intro r hr
    rcases List.mem_append.mp hr with hr | hr
    · exact h.ne r hr
    · simp at hr; subst hr; exact hne
  · intro i r hr f hf'
    by_cases hi : i < R.length
    · rw [List.getElem?_append_left hi] at hr
      rw [List.take_append_of_le_length (Nat.le_of_lt hi)]
      exact h.bk i r hr f hf'
    · have hi2 := (List.getElem?_eq_some_iff.mp hr).1
      have e : i = R.length := by simp at hi2; omega
      subst e
      rw [List.getElem?_append_right (Nat.le_refl _)] at hr
      simp at hr
      subst hr
      rw [List.take_left]
      exact hk f hf'

end
section
section
variable {n : Nat} {R : Recs}
theorem BX.sv {st s : Sto} {b c : Nat} {K : Int} {X : List Nat} (B : BX st b c K) (h : Sv X st s) (h1 : b ∉ X) (h2 : c ∉ X) : BX s b c K := by
  obtain ⟨k, ⟨⟨d, hd⟩, ns, hn, hc⟩, h0, h1'⟩ := B
  exact ⟨k, ⟨⟨d, h.at hd h1⟩, ns, hn, h.at hc h2⟩, h0, h1'⟩
theorem Z_addCL {m : Nat} {xs ys : List PV} {st : Sto} {Q : PV → Sto → Prop} {E : Exn → Sto → Prop} (h : st[m]? = some (.lst xs)) (hz : xs.length + ys.length ≤ 1000000) : Z (addV (.loc m) (.lst ys) st) Q E = Q (.lst (xs ++ ys)) st := by
  unfold addV; dsimp only; unfold MP.listOf; dsimp only; rw [h]; dsimp only; rw [if_pos (Nat.le_trans hz (by decide))]; rfl
theorem fnm_at : ∀ k : Fin 4, L2.atI [PV.str [120], .str [121], .str [97, 98], .str [110]] (k.1 : Int) = some (.str (fnm.getD k.1 [])) ∧ fnm.take k.1 ++ [fnm.getD k.1 []] = fnm.take (k.1 + 1) := by
  intro k
  rw [atI_of (by omega) (by simp; omega)]
  match k with
  | ⟨0, _⟩ => exact ⟨rfl, rfl⟩
  | ⟨1, _⟩ => exact ⟨rfl, rfl⟩
  | ⟨2, _⟩ => exact ⟨rfl, rfl⟩
  | ⟨3, _⟩ => exact ⟨rfl, rfl⟩
structure Fds (R : Recs) (fs : List Fld) (j : Nat) : Prop where
  kin : ∀ g ∈ fs, KIn R g.2
  ls : ∀ g ∈ fs, ∃ d, KD R d g.2 ∧ leastD R d g.2 < 8
  fn : (fs.map Prod.fst).Sublist (fnm.take j)
  ne : 0 < j → fs ≠ []
theorem rec1_spec (hR : RM R) (hl : R.length ≤ 3) (hx : ([120] : List Nat) ∉ R.map Prod.fst) {st : Sto} {b c m f j : Nat} {K : Int} {fs : List Fld} {a2 a5 a6 : Option PV} {QF : Fl → Sto → Prop} {E : Exn → Sto → Prop} (B : BX st b c K) (hK : K < 10000000) (hm : st[m]? = some (.lst (R.map recP))) (hf : st[f]? = some (.lst (fs.map fldP))) (hj : j < 4) (hfl : fs.length ≤ j) (hk : Fds R fs j)
    (ap : f ≠ b ∧ f ≠ c ∧ f ≠ m ∧ m ≠ b ∧ m ≠ c)
    (hq : ∀ st' fs' a5 a6, BX st' b c (K + 1) → Sv [b, c, f] st st' → st'[f]? = some (.lst (fs'.map fldP)) → fs'.length ≤ j + 1 → Fds R fs' (j + 1) → (fs' = fs ∨ (fs'.flatMap fun g : Fld => partsD R (R.length + 1) g.2).length ≤ 4) → QF (.next [some (.loc b), some (.loc m), a2, some (.loc f), some (.int (j : Nat)), a5, a6]) st') :
    Z (L1__law_records n [some (.loc b), some (.loc m), a2, some (.loc f), some (.int (j : Nat)), a5, a6] st) QF E := by
  rw [zL1__law_records]
  simp
  refine kind_spec (hR.rv (by omega)) (by omega) B (by omega) hm fun k st1 hk1 hk2 B1 s1 => ?_
  have hm1 := s1.at hm (by simp; exact ⟨ap.2.2.2.1, ap.2.2.2.2⟩)
  have hf1 := s1.at hf (by simp; exact ⟨ap.1, ap.2.1⟩)
  have hmade : (R.map recP ++ [PV.tup [.str [120], .tup (fs.map fldP ++ [.tup [.str [120], kP k]])]]) = (R ++ [([120], fs ++ [([120], k)])]).map recP := by simp [recP, fldP]
  simp [Z_addCL hm1 (show (R.map recP).length + [PV.tup [.str [120], .tup (fs.map fldP ++ [.tup [.str [120], kP k]])]].length ≤ 1000000 by simp; omega), Z_addCL hf1 (show (fs.map fldP).length + [PV.tup [.str [120], kP k]].length ≤ 1000000 by simp; omega)]
  rw [hmade]
  have hkin : ∀ g ∈ fs ++ [([120], k)], KIn R g.2 := by
    intro g hg
    rcases List.mem_append.mp hg with h | h
    · exact hk.kin g h
    · simp at h; subst h; exact hk1
  have hkd : KD (R ++ [([120], fs ++ [([120], k)])]) (R.length + 2) (.rc [120]) := .rc (look_new hx) (by decide) (by decide) fun g hg => (hR.kin (hkin g hg)).app
  have hflat : ∀ l : List Fld, (∀ g ∈ l, KIn R g.2) → (l.flatMap fun g : Fld => partsD R (R.length + 1) g.2).length ≤ 4 * l.length := by
    intro l
    induction l with
    | nil => intro _; simp
    | cons g l ih =>
      intro h
      have h1 := hR.p4 (h g (by simp))
      have h2 := ih fun y hy => h y (by simp [hy])
      rw [List.flatMap_cons, List.length_append, List.length_cons]
      omega
  have hpd : partsD (R ++ [([120], fs ++ [([120], k)])]) (R.length + 2) (.rc [120]) = (fs ++ [([120], k)]).flatMap fun g : Fld => partsD R (R.length + 1) g.2 := by
    show (((look (R ++ [([120], fs ++ [([120], k)])]) [120]).getD []).flatMap fun g : Fld => partsD (R ++ [([120], fs ++ [([120], k)])]) (R.length + 1) g.2) = _
    rw [look_new hx]
    simp only [Option.getD_some]
    rw [List.flatMap_def, List.flatMap_def, List.map_congr_left fun g hg => parts_app (hR.kin (hkin g hg))]
  have hR' : RG (R ++ [([120], fs ++ [([120], k)])]) := by
    refine ⟨?_, ?_, ?_⟩
    · rw [List.map_append, List.nodup_append]
      refine ⟨hR.nd, by simp, fun a ha b' hb e => ?_⟩
      simp at hb
      subst hb
      exact hx (e ▸ ha)
    · intro r hr
      rcases List.mem_append.mp hr with hr | hr
      · exact Nat.le_trans (hR.fl r hr) (by decide)
      · simp at hr; subst hr; simp; omega
    · intro d k' hk'
      rcases hk'.kin with rfl | rfl | ⟨r, hr, rfl⟩
      · rw [parts_eq hk' (KD.num (d := 0))]; show 1 ≤ 100; decide
      · rw [parts_eq hk' (KD.row (d := 0))]; show 1 ≤ 100; decide
      · rcases List.mem_append.mp hr with hr | hr
        · rw [parts_eq hk' (hR.kd r hr).app, parts_app (hR.kd r hr)]
          exact Nat.le_trans (hR.pl r hr) (by decide)
        · simp at hr; subst hr
          rw [parts_eq hk' hkd, hpd]
          have := hflat _ hkin
          simp only [List.length_append, List.length_singleton] at this
          omega
  have hkd20 : KD (R ++ [([120], fs ++ [([120], k)])]) 20 (.rc [120]) := by
    have := hkd.upn (20 - (R.length + 2))
    rw [show R.length + 2 + (20 - (R.length + 2)) = 20 by omega] at this
    exact this
  refine parts_spec hR' 20 (.rc [120]) st1 _ _ hkd20 (.inl rfl) fun st2 s2 => ?_
  rw [parts_eq hkd20 hkd, hpd]
  have hf2 := s2.at hf1 (by simp)
  have B2 := B1.sv s2 (by simp) (by simp)
  have s12 : Sv [b, c, f] st st2 := (s1.mono (by simp)).trans (s2.mono (by simp))
  obtain ⟨hw0, hw1⟩ := fnm_at ⟨j, hj⟩
  dsimp only at hw0 hw1
  obtain ⟨w, hw⟩ : ∃ w, w = fnm.getD j [] := ⟨_, rfl⟩
  rw [← hw] at hw0 hw1
  have hkn : ∀ w' : List Nat, ∀ g ∈ fs ++ [(w', k)], ∃ d, KD R d g.2 ∧ leastD R d g.2 < 8 := by
    intro w' g hg
    rcases List.mem_append.mp hg with h | h
    · exact hk.ls g h
    · simp at h; subst h
      have h8 := (hR.kin hk1).upn (8 - (R.length + 1))
      rw [show R.length + 1 + (8 - (R.length + 1)) = 8 by omega] at h8
      exact ⟨8, h8, hk2⟩
  have hfs' : fs.length < 16777216 := by omega
  have hzl : ((fs ++ [([120], k)]).flatMap fun g : Fld => partsD R (R.length + 1) g.2).length ≤ 16777216 := by
    have := hflat _ hkin
    simp only [List.length_append, List.length_singleton] at this
    omega
  by_cases hlt : ((fs ++ [([120], k)]).flatMap fun g : Fld => partsD R (R.length + 1) g.2).length < 5
  · have hlt' : (((fs ++ [([120], k)]).flatMap fun g : Fld => partsD R (R.length + 1) g.2).length : Int) < 5 := by omega
    generalize ((fs ++ [([120], k)]).flatMap fun g : Fld => partsD R (R.length + 1) g.2) = zs at hlt' hzl ⊢
    simp [hlt', hzl, hf2, hw0, hfs']
    refine hq _ (fs ++ [(w, k)]) _ _ (B2.setN ap.1 ap.2.1) (s12.trans (Sv.set (by simp))) ?_ (by simp; omega) ?_ (.inr ?_)
    · rw [List.getElem?_set_self (getN hf2)]; simp [fldP]
    · refine ⟨fun g hg => ?_, hkn w, ?_, fun _ => by simp⟩
      · rcases List.mem_append.mp hg with h | h
        · exact hk.kin g h
        · simp at h; subst h; exact hk1
      · rw [List.map_append, ← hw1]
        exact List.Sublist.append hk.fn (List.Sublist.refl _)
    · rw [show ((fs ++ [(w, k)]).flatMap fun g : Fld => partsD R (R.length + 1) g.2) = (fs ++ [([120], k)]).flatMap fun g : Fld => partsD R (R.length + 1) g.2 by rw [List.flatMap_append, List.flatMap_append]; rfl]
      omega
  · have hlt' : ¬ (((fs ++ [([120], k)]).flatMap fun g : Fld => partsD R (R.length + 1) g.2).length : Int) < 5 := by omega
    have hne : fs ≠ [] := by
      intro e
      subst e
      have := hflat _ hkin
      simp only [List.nil_append, List.length_singleton] at this
      simp only [List.nil_append] at hlt
      omega
    generalize ((fs ++ [([120], k)]).flatMap fun g : Fld => partsD R (R.length + 1) g.2) = zs at hlt' hzl ⊢
    simp [hlt', hzl]
    refine hq _ fs _ _ B2 s12 hf2 (by omega) ⟨hk.kin, hk.ls, hk.fn.trans ?_, fun _ => hne⟩ (.inl rfl)
    rw [← hw1]
    exact List.sublist_append_left _ _
end

end
section
section
variable {n : Nat} {R : Recs}
theorem rec1_go (hR : RM R) (hl : R.length ≤ 3) (hx : ([120] : List Nat) ∉ R.map Prod.fst) {b c m f : Nat} {a2 : Option PV} {QF : Fl → Sto → Prop} {E : Exn → Sto → Prop} (ap : f ≠ b ∧ f ≠ c ∧ f ≠ m ∧ m ≠ b ∧ m ≠ c) :
    ∀ (cnt j : Nat) (fs : List Fld) (K : Int) (st : Sto) (a4 a5 a6 : Option PV), j + cnt ≤ 4 → BX st b c K → K + cnt < 10000000 → st[m]? = some (.lst (R.map recP)) → st[f]? = some (.lst (fs.map fldP)) → fs.length ≤ j → Fds R fs j → (fs.flatMap fun g : Fld => partsD R (R.length + 1) g.2).length ≤ 4 →
    (∀ st' (fs' : List Fld) a4 a5 a6, BX st' b c (K + cnt) → Sv [b, c, f] st st' → st'[f]? = some (.lst (fs'.map fldP)) → fs'.length ≤ 4 → Fds R fs' (j + cnt) → (fs'.flatMap fun g : Fld => partsD R (R.length + 1) g.2).length ≤ 4 → QF (.next [some (.loc b), some (.loc m), a2, some (.loc f), a4, a5, a6]) st') →
    Z (forL (gN 4) (L1__law_records n) ((List.range' j cnt).map fun i => PV.int (i : Nat)) [some (.loc b), some (.loc m), a2, some (.loc f), a4, a5, a6] st) QF E
  | 0, j, fs, K, st, a4, a5, a6, hj, B, hK, hm, hf, hfl, hk, hp, hq => by
    simp only [List.range'_zero, List.map_nil]
    rw [Z_forL_nil]
    exact hq st fs _ _ _ (B.mono (by omega)) (Sv.refl _ _) hf (by omega) hk hp
  | cnt + 1, j, fs, K, st, a4, a5, a6, hj, B, hK, hm, hf, hfl, hk, hp, hq => by
    rw [List.range'_succ, List.map_cons, Z_forL]
    simp
    refine rec1_spec hR hl hx B (by omega) hm hf (by omega) hfl hk ap fun st1 fs1 a5 a6 B1 s1 hf1 hl1 hk1 hp1 => ?_
    simp
    have hm1 := s1.at hm (by simp; exact ⟨ap.2.2.2.1, ap.2.2.2.2, Ne.symm ap.2.2.1⟩)
    have hp1' : (fs1.flatMap fun g : Fld => partsD R (R.length + 1) g.2).length ≤ 4 := by
      rcases hp1 with e | e
      · rw [e]; exact hp
      · exact e
    refine rec1_go hR hl hx ap cnt (j + 1) fs1 (K + 1) st1 _ _ _ (by omega) B1 (by omega) hm1 hf1 hl1 hk1 hp1' fun st2 fs2 a4 a5 a6 B2 s2 hf2 hl2 hk2 hp2 => ?_
    exact hq st2 fs2 _ _ _ (B2.mono (by omega)) (s1.trans s2) hf2 hl2 (by rw [show j + (cnt + 1) = j + 1 + cnt by omega]; exact hk2) hp2
noncomputable abbrev rnm : List (List Nat) := [[112, 97, 105, 114], [112], [110, 117, 109, 98, 101, 114, 115], [120, 121]]
theorem rnm_at : ∀ k : Fin 4, L2.atI [PV.str [112, 97, 105, 114], .str [112], .str [110, 117, 109, 98, 101, 114, 115], .str [120, 121]] (k.1 : Int) = some (.str (rnm.getD k.1 [])) := by
  intro k
  rw [atI_of (by omega) (by simp; omega)]
  match k with
  | ⟨0, _⟩ => rfl
  | ⟨1, _⟩ => rfl
  | ⟨2, _⟩ => rfl
  | ⟨3, _⟩ => rfl
theorem rnm_ok : ∀ k : Fin 4, rnm.getD k.1 [] ∉ rnm.take k.1 ∧ rnm.getD k.1 [] ≠ [110, 117, 109] ∧ rnm.getD k.1 [] ≠ [114, 111, 119] ∧ rnm.take k.1 ++ [rnm.getD k.1 []] = rnm.take (k.1 + 1) ∧ ([120] : List Nat) ∉ rnm.take k.1 := by decide
theorem rec0_spec (hR : RM R) (hl : R.length ≤ 3) (hn : R.map Prod.fst = rnm.take R.length) {st : Sto} {b c m : Nat} {K : Int} {a3 a4 a5 a6 : Option PV} {QF : Fl → Sto → Prop} {E : Exn → Sto → Prop} (B : BX st b c K) (hK : K < 1000000) (hm : st[m]? = some (.lst (R.map recP))) (mb : m ≠ b) (mc : m ≠ c)
    (hq : ∀ st' (R' : Recs) a3 a4 a5 a6, RM R' → R'.length = R.length + 1 → R'.map Prod.fst = rnm.take R'.length → BX st' b c (K + 5) → Sv [b, c, m] st st' → st'[m]? = some (.lst (R'.map recP)) → QF (.next [some (.loc b), some (.loc m), some (.int (R.length : Nat)), a3, a4, a5, a6]) st') :
    Z (L0__law_records n [some (.loc b), some (.loc m), some (.int (R.length : Nat)), a3, a4, a5, a6] st) QF E := by
  obtain ⟨n1, n2, n3, n4, n5⟩ := rnm_ok ⟨R.length, by omega⟩
  have hat := rnm_at ⟨R.length, by omega⟩
  dsimp only at n1 n2 n3 n4 n5 hat
  obtain ⟨w, hw⟩ : ∃ w, w = rnm.getD R.length [] := ⟨_, rfl⟩
  rw [← hw] at n1 n2 n3 n4 hat
  rw [← hn] at n1 n5
  have lb := B.bl
  have lc := B.cl
  have lm := getN hm
  rw [zL0__law_records]
  simp
  refine takeX (B.app _) (fun i st1 i0 i1 B1 s1 => ?_)
  have hm1 : st1[m]? = some (.lst (R.map recP)) := s1.at (by rw [List.getElem?_append_left lm, hm]) mb mc
  have hf1 : st1[st.length]? = some (.lst (([] : List Fld).map fldP)) := s1.at (by simp) (by omega) (by omega)
  have hr : rangeOk (1 + i) := ⟨by omega, by omega⟩
  simp [Z_range1 hr, List.range_eq_range']
  refine rec1_go hR hl n5 (f := st.length) ⟨by omega, by omega, by omega, mb, mc⟩ (1 + i).toNat 0 [] (K + 1) st1 _ _ _ (by omega) B1 (by omega) hm1 hf1 (by simp) ⟨by simp, by simp, by simp, fun h => absurd h (by omega)⟩ (by simp) fun st2 fs a4 a5 a6 B2 s2 hf2 hl2 hk2 hp2 => ?_
  have hm2 := s2.at hm1 (by simp; omega)
  have hrl : R.length < 16777216 := by omega
  simp [hm2, hat, hrl, seqOf_loc hf2]
  have e : R.map recP ++ [.tup [.str w, .tup (fs.map fldP)]] = (R ++ [(w, fs)]).map recP := by simp [recP]
  rw [e]
  refine hq _ (R ++ [(w, fs)]) _ _ _ _ (hR.add n1 n2 n3 hl2 hk2.kin hk2.ls (hk2.fn.trans (List.take_sublist _ _)) (hk2.ne (by omega)) hp2) (by simp) ?_ ((B2.setN mb mc).mono (by omega)) ?_ (List.getElem?_set_self (getN hm2))
  · rw [List.map_append, hn, List.length_append]; simpa using n4
  · have l1 : st1.length = st.length + 1 := by rw [s1.1]; simp
    refine ⟨by have := s2.len; simp; omega, fun i hi hx => ?_⟩
    simp at hx
    rw [List.getElem?_set_ne (Ne.symm hx.2.2), s2.keep i (by omega) (by simp; omega), s1.2 i hx.1 hx.2.1, List.getElem?_append_left hi]
end

end
section
section
variable {n : Nat}
theorem recs_go {b c m : Nat} {QF : Fl → Sto → Prop} {E : Exn → Sto → Prop} (mb : m ≠ b) (mc : m ≠ c) :
    ∀ (cnt : Nat) (R : Recs) (K : Int) (st : Sto) (a2 a3 a4 a5 a6 : Option PV), RM R → R.length + cnt ≤ 4 → R.map Prod.fst = rnm.take R.length → BX st b c K → K + 5 * cnt < 1000000 → st[m]? = some (.lst (R.map recP)) →
    (∀ st' (R' : Recs) a2 a3 a4 a5 a6, RM R' → R'.length = R.length + cnt → R'.map Prod.fst = rnm.take R'.length → BX st' b c (K + 5 * cnt) → Sv [b, c, m] st st' → st'[m]? = some (.lst (R'.map recP)) → QF (.next [some (.loc b), some (.loc m), a2, a3, a4, a5, a6]) st') →
    Z (forL (gN 2) (L0__law_records n) ((List.range' R.length cnt).map fun i => PV.int (i : Nat)) [some (.loc b), some (.loc m), a2, a3, a4, a5, a6] st) QF E
  | 0, R, K, st, a2, a3, a4, a5, a6, hR, hl, hn, B, hK, hm, hq => by
    simp only [List.range'_zero, List.map_nil]
    rw [Z_forL_nil]
    exact hq st R _ _ _ _ _ hR rfl hn (B.mono (by omega)) (Sv.refl _ _) hm
  | cnt + 1, R, K, st, a2, a3, a4, a5, a6, hR, hl, hn, B, hK, hm, hq => by
    rw [List.range'_succ, List.map_cons, Z_forL]
    simp
    refine rec0_spec hR (by omega) hn B (by omega) hm mb mc fun st1 R1 a3 a4 a5 a6 hR1 hl1 hn1 B1 s1 hm1 => ?_
    simp
    rw [← hl1]
    refine recs_go mb mc cnt R1 (K + 5) st1 _ _ _ _ _ hR1 (by omega) hn1 B1 (by omega) hm1 fun st2 R2 a2 a3 a4 a5 a6 hR2 hl2 hn2 B2 s2 hm2 => ?_
    exact hq st2 R2 _ _ _ _ _ hR2 (by omega) hn2 (B2.mono (by omega)) (s1.trans s2) hm2
theorem records_spec {st : Sto} {b c : Nat} {K : Int} {Q : PV → Sto → Prop} {E : Exn → Sto → Prop} (B : BX st b c K) (hK : K < 900000)
    (hq : ∀ st' (R : Recs), RM R → R.length ≤ 3 → R.map Prod.fst = rnm.take R.length → BX st' b c (K + 20) → Sv [b, c] st st' → st'[st.length]? = some (.lst (R.map recP)) → Q (.loc st.length) st') : Z (F__law_records n [.loc b] st) Q E := by
  have lb := B.bl
  have lc := B.cl
  rw [z__law_records, b__law_records]
  simp
  refine takeX (B.app _) (fun i st1 i0 i1 B1 s1 => ?_)
  have hm1 : st1[st.length]? = some (.lst (([] : Recs).map recP)) := s1.at (by simp) (by omega) (by omega)
  have hr : rangeOk i := ⟨by omega, by omega⟩
  have l1 : st1.length = st.length + 1 := by rw [s1.1]; simp
  simp [Z_range1 hr, List.range_eq_range']
  refine recs_go (m := st.length) (by omega) (by omega) i.toNat [] (K + 1) st1 _ _ _ _ _ RM.nil (by simp; omega) rfl B1 (by omega) hm1 fun st2 R a2 a3 a4 a5 a6 hR hl hn B2 s2 hm2 => ?_
  simp at hl
  simp
  refine hq st2 R hR (by omega) hn (B2.mono (by omega)) ⟨by have := s2.len; omega, fun j hj hx => ?_⟩ hm2
  simp at hx
  rw [s2.keep j (by omega) (by simp; omega), s1.2 j hx.1 hx.2, List.getElem?_append_left hj]
end
structure Hea where
  w : List Nat
  k : Kn
  ps : List Fld
noncomputable def prs (c : Bool) (xs : List PV) : PV := if c then .xt xs else .tup xs
@[simp] theorem wkP_prs {c : Bool} {xs : List PV} : wkP (prs c xs) = .tup xs := by cases c <;> rfl
noncomputable def headQ (c : Bool) (h : Hea) : PV := .tup [.str h.w, kP h.k, prs c (h.ps.map fldP)]
noncomputable abbrev headP : Hea → PV := headQ true
noncomputable def KOk (R : Recs) (k : Kn) : Prop := KIn R k ∧ leastD R 8 k < 8
noncomputable abbrev pnm : List (List Nat) := [[97], [97, 98], [120], [112, 97, 105, 114]]
noncomputable abbrev hnm : List (List Nat) := [[109, 97, 105, 110], [102], [112, 97, 105, 114]]
structure HOk (R : Recs) (h : Hea) : Prop where
  k : KOk R h.k
  nm : h.ps.map Prod.fst = pnm.take h.ps.length
  le : h.ps.length ≤ 4
  ps : ∀ f ∈ h.ps, KOk R f.2
theorem pnm_at : ∀ k : Fin 4, L2.atI [PV.str [97], .str [97, 98], .str [120], .str [112, 97, 105, 114]] (k.1 : Int) = some (.str (pnm.getD k.1 [])) ∧ pnm.take k.1 ++ [pnm.getD k.1 []] = pnm.take (k.1 + 1) := by
  intro k
  rw [atI_of (by omega) (by simp; omega)]
  match k with
  | ⟨0, _⟩ => exact ⟨rfl, rfl⟩
  | ⟨1, _⟩ => exact ⟨rfl, rfl⟩
  | ⟨2, _⟩ => exact ⟨rfl, rfl⟩
  | ⟨3, _⟩ => exact ⟨rfl, rfl⟩
theorem hnm_at : ∀ k : Fin 3, L2.atI [PV.str [109, 97, 105, 110], .str [102], .str [112, 97, 105, 114]] (k.1 : Int) = some (.str (hnm.getD k.1 [])) ∧ hnm.take k.1 ++ [hnm.getD k.1 []] = hnm.take (k.1 + 1) := by
  intro k
  rw [atI_of (by omega) (by simp; omega)]
  match k with
  | ⟨0, _⟩ => exact ⟨rfl, rfl⟩
  | ⟨1, _⟩ => exact ⟨rfl, rfl⟩
  | ⟨2, _⟩ => exact ⟨rfl, rfl⟩
section
variable {n : Nat} {R : Recs}
theorem par_go (hR : RM R) (hl : R.length ≤ 3) {b c m f : Nat} {a2 a3 : Option PV} {QF : Fl → Sto → Prop} {E : Exn → Sto → Prop} (ap : f ≠ b ∧ f ≠ c ∧ f ≠ m ∧ m ≠ b ∧ m ≠ c) :
    ∀ (cnt : Nat) (fs : List Fld) (K : Int) (st : Sto) (a5 : Option PV), fs.length + cnt ≤ 4 → BX st b c K → K + cnt < 10000000 → st[m]? = some (.lst (R.map recP)) → st[f]? = some (.lst (fs.map fldP)) → fs.map Prod.fst = pnm.take fs.length → (∀ g ∈ fs, KOk R g.2) →
    (∀ st' (fs' : List Fld) a5, BX st' b c (K + cnt) → Sv [b, c, f] st st' → st'[f]? = some (.lst (fs'.map fldP)) → fs'.length ≤ 4 → fs'.map Prod.fst = pnm.take fs'.length → (∀ g ∈ fs', KOk R g.2) → QF (.next [some (.loc b), some (.loc m), a2, a3, some (.loc f), a5]) st') →
    Z (forL (gN 5) (L1__law_heads n) ((List.range' fs.length cnt).map fun i => PV.int (i : Nat)) [some (.loc b), some (.loc m), a2, a3, some (.loc f), a5] st) QF E
  | 0, fs, K, st, a5, hj, B, hK, hm, hf, hn, hk, hq => by
    simp only [List.range'_zero, List.map_nil]
    rw [Z_forL_nil]
    exact hq st fs _ (B.mono (by omega)) (Sv.refl _ _) hf (by omega) hn hk
  | cnt + 1, fs, K, st, a5, hj, B, hK, hm, hf, hn, hk, hq => by
    obtain ⟨hat, htk⟩ := pnm_at ⟨fs.length, by omega⟩
    dsimp only at hat htk
    obtain ⟨w, hw⟩ : ∃ w, w = pnm.getD fs.length [] := ⟨_, rfl⟩
    rw [← hw] at hat htk
    have hfs : fs.length < 16777216 := by omega
    rw [List.range'_succ, List.map_cons, Z_forL]
    simp
    rw [zL1__law_heads]
    simp [hf, hat]
    refine kind_spec (hR.rv (by omega)) (by omega) B (by omega) hm fun k st1 hk1 hk2 B1 s1 => ?_
    have hm1 := s1.at hm (by simp; exact ⟨ap.2.2.2.1, ap.2.2.2.2⟩)
    have hf1 := s1.at hf (by simp; exact ⟨ap.1, ap.2.1⟩)
    simp [hf1, hfs]
    have e : fs.map fldP ++ [.tup [.str w, kP k]] = (fs ++ [(w, k)]).map fldP := by simp [fldP]
    rw [e]
    have e2 : fs.length + 1 = (fs ++ [(w, k)]).length := by simp
    rw [e2]
    refine par_go hR hl ap cnt (fs ++ [(w, k)]) (K + 1) _ _ (by simp; omega) (B1.setN ap.1 ap.2.1) (by omega) ((List.getElem?_set_ne ap.2.2.1).trans hm1) (List.getElem?_set_self (getN hf1)) (by rw [List.map_append, hn, List.length_append]; simpa using htk) ?_ fun st2 fs2 a5 B2 s2 hf2 hl2 hn2 hk2 => ?_
    · intro g hg
      rcases List.mem_append.mp hg with h | h
      · exact hk g h
      · simp at h; subst h; exact ⟨hk1, hk2⟩
    · exact hq st2 fs2 _ (B2.mono (by omega)) (((s1.mono (by simp)).trans (Sv.set (by simp))).trans s2) hf2 hl2 hn2 hk2
end

end
section
section
variable {n : Nat} {R : Recs}
theorem head0_spec (hR : RM R) (hl : R.length ≤ 3) {st : Sto} {b c m h : Nat} {K : Int} {hs : List Hea} {a4 a5 : Option PV} {QF : Fl → Sto → Prop} {E : Exn → Sto → Prop} (B : BX st b c K) (hK : K < 1000000) (hm : st[m]? = some (.lst (R.map recP))) (hh : st[h]? = some (.lst (hs.map headP))) (hl3 : hs.length < 3) (hn : hs.map Hea.w = hnm.take hs.length) (hok : ∀ x ∈ hs, HOk R x)
    (ap : h ≠ b ∧ h ≠ c ∧ h ≠ m ∧ m ≠ b ∧ m ≠ c)
    (hq : ∀ st' (hs' : List Hea) a4 a5, BX st' b c (K + 6) → Sv [b, c, h] st st' → st'[h]? = some (.lst (hs'.map headP)) → hs'.length = hs.length + 1 → hs'.map Hea.w = hnm.take hs'.length → (∀ x ∈ hs', HOk R x) → QF (.next [some (.loc b), some (.loc m), some (.loc h), some (.int (hs.length : Nat)), a4, a5]) st') :
    Z (L0__law_heads n [some (.loc b), some (.loc m), some (.loc h), some (.int (hs.length : Nat)), a4, a5] st) QF E := by
  obtain ⟨hat, htk⟩ := hnm_at ⟨hs.length, by omega⟩
  dsimp only at hat htk
  obtain ⟨w, hw⟩ : ∃ w, w = hnm.getD hs.length [] := ⟨_, rfl⟩
  rw [← hw] at hat htk
  have lb := B.bl
  have lc := B.cl
  have lm := getN hm
  have lh := getN hh
  rw [zL0__law_heads]
  simp
  refine takeX (B.app _) (fun i st1 i0 i1 B1 s1 => ?_)
  have hm1 : st1[m]? = some (.lst (R.map recP)) := s1.at (by rw [List.getElem?_append_left lm, hm]) ap.2.2.2.1 ap.2.2.2.2
  have hh1 : st1[h]? = some (.lst (hs.map headP)) := s1.at (by rw [List.getElem?_append_left lh, hh]) ap.1 ap.2.1
  have hf1 : st1[st.length]? = some (.lst (([] : List Fld).map fldP)) := s1.at (by simp) (by omega) (by omega)
  have l1 : st1.length = st.length + 1 := by rw [s1.1]; simp
  have hr : rangeOk i := ⟨by omega, by omega⟩
  simp [Z_range1 hr, List.range_eq_range']
  refine par_go hR hl (f := st.length) ⟨by omega, by omega, by omega, ap.2.2.2.1, ap.2.2.2.2⟩ i.toNat [] (K + 1) st1 _ (by simp; omega) B1 (by omega) hm1 hf1 rfl (by simp) fun st2 fs a5 B2 s2 hf2 hl2 hn2 hk2 => ?_
  have hm2 := s2.at hm1 (by simp; omega)
  have hh2 := s2.at hh1 (by simp; omega)
  have hsl : hs.length < 16777216 := by omega
  simp [hh2, hat]
  refine kind_spec (hR.rv (by omega)) (by omega) B2 (by omega) hm2 fun k st3 hk3 hk4 B3 s3 => ?_
  have hh3 := s3.at hh2 (by simp; exact ⟨ap.1, ap.2.1⟩)
  have hf3 := s3.at hf2 (by simp; omega)
  simp [Z_tupX hf3, hh3, hsl]
  have e : hs.map headP ++ [.tup [.str w, kP k, .xt (fs.map fldP)]] = (hs ++ [(⟨w, k, fs⟩ : Hea)]).map headP := by simp [headQ, prs]
  rw [e]
  refine hq _ (hs ++ [⟨w, k, fs⟩]) _ _ ((B3.setN ap.1 ap.2.1).mono (by omega)) ?_ (List.getElem?_set_self (getN hh3)) (by simp) ?_ ?_
  · have l2 := s2.len
    have l3 := s3.len
    refine ⟨by simp; omega, fun j hj hx => ?_⟩
    simp at hx
    rw [List.getElem?_set_ne (Ne.symm hx.2.2), s3.keep j (by omega) (by simp; exact ⟨hx.1, hx.2.1⟩), s2.keep j (by omega) (by simp; omega), s1.2 j hx.1 hx.2.1, List.getElem?_append_left hj]
  · rw [List.map_append, hn, List.length_append]; simpa using htk
  · intro x hx
    rcases List.mem_append.mp hx with h | h
    · exact hok x h
    · simp at h; subst h; exact ⟨⟨hk3, hk4⟩, hn2, hl2, hk2⟩
theorem heads_go (hR : RM R) (hl : R.length ≤ 3) {b c m h : Nat} {QF : Fl → Sto → Prop} {E : Exn → Sto → Prop} (ap : h ≠ b ∧ h ≠ c ∧ h ≠ m ∧ m ≠ b ∧ m ≠ c) :
    ∀ (cnt : Nat) (hs : List Hea) (K : Int) (st : Sto) (a3 a4 a5 : Option PV), hs.length + cnt ≤ 3 → BX st b c K → K + 6 * cnt < 1000000 → st[m]? = some (.lst (R.map recP)) → st[h]? = some (.lst (hs.map headP)) → hs.map Hea.w = hnm.take hs.length → (∀ x ∈ hs, HOk R x) →
    (∀ st' (hs' : List Hea) a3 a4 a5, BX st' b c (K + 6 * cnt) → Sv [b, c, h] st st' → st'[h]? = some (.lst (hs'.map headP)) → hs'.length = hs.length + cnt → hs'.map Hea.w = hnm.take hs'.length → (∀ x ∈ hs', HOk R x) → QF (.next [some (.loc b), some (.loc m), some (.loc h), a3, a4, a5]) st') →
    Z (forL (gN 3) (L0__law_heads n) ((List.range' hs.length cnt).map fun i => PV.int (i : Nat)) [some (.loc b), some (.loc m), some (.loc h), a3, a4, a5] st) QF E
  | 0, hs, K, st, a3, a4, a5, h3, B, hK, hm, hh, hn, hok, hq => by
    simp only [List.range'_zero, List.map_nil]
    rw [Z_forL_nil]
    exact hq st hs _ _ _ (B.mono (by omega)) (Sv.refl _ _) hh rfl hn hok
  | cnt + 1, hs, K, st, a3, a4, a5, h3, B, hK, hm, hh, hn, hok, hq => by
    rw [List.range'_succ, List.map_cons, Z_forL]
    simp
    refine head0_spec hR hl B (by omega) hm hh (by omega) hn hok ap fun st1 hs1 a4 a5 B1 s1 hh1 hl1 hn1 hok1 => ?_
    simp
    rw [← hl1]
    have hm1 := s1.at hm (by simp; exact ⟨ap.2.2.2.1, ap.2.2.2.2, Ne.symm ap.2.2.1⟩)
    refine heads_go hR hl ap cnt hs1 (K + 6) st1 _ _ _ (by omega) B1 (by omega) hm1 hh1 hn1 hok1 fun st2 hs2 a3 a4 a5 B2 s2 hh2 hl2 hn2 hok2 => ?_
    exact hq st2 hs2 _ _ _ (B2.mono (by omega)) (s1.trans s2) hh2 (by omega) hn2 hok2
theorem heads_spec (hR : RM R) (hl : R.length ≤ 3) {st : Sto} {b c m : Nat} {K : Int} {Q : PV → Sto → Prop} {E : Exn → Sto → Prop} (B : BX st b c K) (hK : K < 900000) (hm : st[m]? = some (.lst (R.map recP))) (mb : m ≠ b) (mc : m ≠ c)
    (hq : ∀ st' (hs : List Hea), BX st' b c (K + 20) → Sv [b, c] st st' → st'[st.length]? = some (.lst (hs.map headP)) → 1 ≤ hs.length → hs.length ≤ 3 → hs.map Hea.w = hnm.take hs.length → (∀ x ∈ hs, HOk R x) → Q (.loc st.length) st') : Z (F__law_heads n [.loc b, .loc m] st) Q E := by
  have lb := B.bl
  have lc := B.cl
  have lm := getN hm
  rw [z__law_heads, b__law_heads]
  simp
  refine takeX (B.app _) (fun i st1 i0 i1 B1 s1 => ?_)
  have hm1 : st1[m]? = some (.lst (R.map recP)) := s1.at (by rw [List.getElem?_append_left lm, hm]) mb mc
  have hh1 : st1[st.length]? = some (.lst (([] : List Hea).map headP)) := s1.at (by simp) (by omega) (by omega)
  have hr : rangeOk (1 + i) := ⟨by omega, by omega⟩
  have l1 : st1.length = st.length + 1 := by rw [s1.1]; simp
  simp [Z_range1 hr, List.range_eq_range']
  refine heads_go hR hl (h := st.length) ⟨by omega, by omega, by omega, mb, mc⟩ (1 + i).toNat [] (K + 1) st1 _ _ _ (by simp; omega) B1 (by omega) hm1 hh1 rfl (by simp) fun st2 hs a3 a4 a5 B2 s2 hh2 hl2 hn2 hok2 => ?_
  simp at hl2
  simp
  refine hq st2 hs (B2.mono (by omega)) ⟨by have := s2.len; omega, fun j hj hx => ?_⟩ hh2 (by omega) (by omega) hn2 hok2
  simp at hx
  rw [s2.keep j (by omega) (by simp; omega), s1.2 j hx.1 hx.2, List.getElem?_append_left hj]
end

end
section
noncomputable abbrev Kw := List (List Nat × Kn)
noncomputable def kwP (kw : Kw) : List (PV × PV) := kw.map fun x => (.str x.1, kP x.2)
noncomputable abbrev Way := List (List Nat) × Kn
noncomputable def wayP (x : Way) : PV := .tup [.tup (x.1.map .str), kP x.2]
inductive PW (R : Recs) (kw : Kw) : List (List Nat) → Kn → Prop
  | one {w : List Nat} {k : Kn} : (w, k) ∈ kw → PW R kw [w] k
  | more {p : List (List Nat)} {w : List Nat} {fs : List Fld} {f : Fld} : PW R kw p (.rc w) → look R w = some fs → f ∈ fs → PW R kw (p ++ [f.1]) f.2
theorem kw_strs : ∀ (kw : Kw), strsOf ((kwP kw).map Prod.fst) = some (kw.map Prod.fst)
  | [] => rfl
  | x :: kw => by
    show (strsOf ((kwP kw).map Prod.fst)).map _ = _
    rw [kw_strs kw]
    rfl
theorem kw_look : ∀ {kw : Kw} {w : List Nat} {k : Kn}, (kw.map Prod.fst).Nodup → (w, k) ∈ kw → lookP (kwP kw) (.str w) = some (kP k)
  | (w0, k0) :: kw, w, k, hn, h => by
    simp only [List.map_cons, List.nodup_cons] at hn
    rcases List.mem_cons.mp h with e | e
    · cases e; simp [kwP, lookP]
    · have hne : w0 ≠ w := fun z => hn.1 (by rw [z]; exact List.mem_map.mpr ⟨(w, k), e, rfl⟩)
      have ih := kw_look hn.2 e
      unfold kwP at ih ⊢
      simp [lookP, hne]
      exact ih
theorem mem_sortS {xs : List (List Nat)} {w : List Nat} : w ∈ sortS xs ↔ w ∈ xs := (List.mergeSort_perm xs _).mem_iff
noncomputable def GW (R : Recs) (kw : Kw) (x : Way) : Prop := PW R kw x.1 x.2 ∧ KOk R x.2 ∧ x.1.length ≤ 3
theorem RM.fk {R : Recs} (h : RM R) (hl : R.length ≤ 3) {w : List Nat} {fs : List Fld} (hw : look R w = some fs) {f : Fld} (hf : f ∈ fs) : KOk R f.2 := by
  obtain ⟨d, h1, h2⟩ := h.ls _ (look_mem hw) f hf
  have h8 := (h.kin h1.kin).upn (8 - (R.length + 1))
  rw [show R.length + 1 + (8 - (R.length + 1)) = 8 by omega] at h8
  exact ⟨h1.kin, by rw [least_eq h8 h1]; exact h2⟩
section
variable {n : Nat} {R : Recs} {kw : Kw}
theorem ways1_go {kc : Nat} {a0 a2 a3 a4 a5 a6 a8 : Option PV} {st : Sto} (hn : (kw.map Prod.fst).Nodup) (hk : st[kc]? = some (.dct (kwP kw))) (hkin : ∀ x ∈ kw, KOk R x.2) (QL : List PV → Sto → Prop) (E : Exn → Sto → Prop) :
    ∀ (ns : List (List Nat)) (acc : List Way), (∀ w ∈ ns, w ∈ kw.map Prod.fst) → (∀ x ∈ acc, GW R kw x) → acc.length + ns.length < 1000 → (∀ ws : List Way, (∀ x ∈ ws, GW R kw x) → ws.length = acc.length + ns.length → QL (ws.map wayP) st) →
    Z (lcL (gN 7) tYesM (eCall mkTup (aCons (eCall mkTup (aCons (eVar 7) aNil)) (aCons (eBin ixM (eVar 1) (eVar 7)) aNil))) [a0, some (.loc kc), a2, a3, a4, a5, a6, none, a8] (ns.map .str) (acc.map wayP) st) QL E
  | [], acc, hm, hg, hl, hq => by rw [List.map_nil, lc_nil]; exact hq acc hg (by simp)
  | w :: ns, acc, hm, hg, hl, hq => by
    obtain ⟨⟨w', k⟩, hmem, e⟩ := List.mem_map.mp (hm w (by simp))
    dsimp only at e
    subst e
    have hlk := kw_look hn hmem
    have ha : acc.length < 16777216 := by omega
    simp at hl
    rw [List.map_cons, lc_cons]
    simp [hk, hlk, ha]
    have e : acc.map wayP ++ [.tup [.tup [.str w'], kP k]] = (acc ++ [([w'], k)]).map wayP := by simp [wayP]
    rw [e]
    refine ways1_go hn hk hkin QL E ns (acc ++ [([w'], k)]) (fun y hy => hm y (by simp [hy])) ?_ (by simp; omega) fun ws h1 h2 => hq ws h1 (by simp at h2 ⊢; omega)
    intro x hx
    rcases List.mem_append.mp hx with h | h
    · exact hg x h
    · simp at h; subst h; exact ⟨.one hmem, hkin _ hmem, by simp⟩
theorem ext_go {p : List (List Nat)} {a0 a1 a2 a3 a4 a6 a7 : Option PV} {st : Sto} (hp : p.length < 3) (QL : List PV → Sto → Prop) (E : Exn → Sto → Prop) :
    ∀ (fs : List Fld) (acc : List Way), acc.length + fs.length < 1000 → QL ((acc ++ fs.map fun f => (p ++ [f.1], f.2)).map wayP) st →
    Z (lcL (gN 8) tYesM (eCall mkTup (aCons (eBin addV (eVar 5) (eCall mkTup (aCons (eBin ixM (eVar 8) (eC (.int 0))) aNil))) (aCons (eBin ixM (eVar 8) (eC (.int 1))) aNil))) [a0, a1, a2, a3, a4, some (.tup (p.map .str)), a6, a7, none] (fs.map fldP) (acc.map wayP) st) QL E
  | [], acc, hl, hq => by rw [List.map_nil, lc_nil]; simpa using hq
  | f :: fs, acc, hl, hq => by
    have ha : acc.length < 16777216 := by omega
    have hz : p.length + 1 ≤ 16777216 := by omega
    simp at hl
    rw [List.map_cons, lc_cons]
    simp [fldP, L2.ixN, ha, hz]
    have e : acc.map wayP ++ [.tup [.tup (p.map .str ++ [.str f.1]), kP f.2]] = (acc ++ [(p ++ [f.1], f.2)]).map wayP := by simp [wayP]
    rw [e]
    exact ext_go hp QL E fs _ (by simp; omega) (by simpa using hq)
theorem ways2_go (hR : RM R) (hRl : R.length ≤ 3) {rx : PV} {j : Nat} (hj : j < 2) {a1 a2 a7 : Option PV} {QF : Fl → Sto → Prop} {E : Exn → Sto → Prop} :
    ∀ (ws : List Way) (ms : List Way) (st : Sto) (a5 a6 : Option PV), RL rx st R → (∀ x ∈ ws, GW R kw x) → (∀ x ∈ ms, GW R kw x) → ms.length + 4 * ws.length < 1000 →
    (∀ st' (ms' : List Way) a5 a6, Sv [] st st' → (∀ x ∈ ms', GW R kw x) → ms'.length ≤ ms.length + 4 * ws.length → QF (.next [some rx, a1, a2, some (.int (j : Nat)), some (.lst (ms'.map wayP)), a5, a6, a7, none]) st') →
    Z (forL (gT 2 (gsCons (gN 5) (gsCons (gN 6) gsNil))) (L1__law_ways n) (ws.map wayP) [some rx, a1, a2, some (.int (j : Nat)), some (.lst (ms.map wayP)), a5, a6, a7, none] st) QF E
  | [], ms, st, a5, a6, hr, hw, hm, hl, hq => by
    rw [List.map_nil, Z_forL_nil]
    exact hq st ms _ _ (Sv.refl _ _) hm (by simp)
  | (p, k) :: ws, ms, st, a5, a6, hr, hw, hm, hl, hq => by
    obtain ⟨g1, g2, g3⟩ := hw (p, k) (by simp)
    simp at hl
    rw [List.map_cons, Z_forL]
    simp [wayP]
    rw [zL1__law_ways]
    have skip : ∀ (a5 a6 : Option PV), Z (forL (gT 2 (gsCons (gN 5) (gsCons (gN 6) gsNil))) (L1__law_ways n) (ws.map wayP) [some rx, a1, a2, some (.int (j : Nat)), some (.lst (ms.map wayP)), a5, a6, a7, none] st) QF E := fun a5 a6 =>
      ways2_go hR hRl hj ws ms st a5 a6 hr (fun y hy => hw y (by simp [hy])) hm (by omega) fun st' ms' a5 a6 s h1 h2 => hq st' ms' _ _ s h1 (by simp; omega)
    by_cases hlen : p.length = j + 1
    · have hlen' : (p.length : Int) = (j : Int) + 1 := by omega
      rcases g2.1 with rfl | rfl | ⟨r, hr', rfl⟩
      · simp [hlen', kP, Z_inT, flatP, ng, eqb]
        exact skip _ _
      · simp [hlen', kP, Z_inT, flatP, ng, eqb]
        exact skip _ _
      · obtain ⟨n1, n2⟩ := hR.nk r hr'
        have v1 : ([110, 117, 109] == r.1) = false := by simpa using Ne.symm n1
        have v2 : ([114, 111, 119] == r.1) = false := by simpa using Ne.symm n2
        have hkd := hR.kd r hr'
        cases hkd with
        | @rc _ _ fs hlk _ _ _ =>
          have hlkP := recs_look hR.nd hlk
          have hfl : fs.length ≤ 4 := hR.fl _ (look_mem hlk)
          have hmz : ms.length + fs.length ≤ 16777216 := by omega
          simp [hlen', kP, Z_inT, flatP, ng, eqb, v1, v2, hr.dict, hlkP]
          refine ext_go (by omega) _ _ fs [] (by simp; omega) ?_
          simp [hmz]
          have e : ms.map wayP ++ fs.map (wayP ∘ fun f => (p ++ [f.1], f.2)) = (ms ++ fs.map fun f => ((p ++ [f.1], f.2) : Way)).map wayP := by simp
          rw [e]
          refine ways2_go hR hRl hj ws _ _ _ _ (hr.keep Sv.app) (fun y hy => hw y (by simp [hy])) ?_ (by simp; omega) fun st' ms' a5 a6 s h1 h2 => hq st' ms' _ _ (Sv.trans Sv.app s) h1 (by simp at h2 ⊢; omega)
          intro x hx
          rcases List.mem_append.mp hx with h | h
          · exact hm x h
          · obtain ⟨f, hf, rfl⟩ := List.mem_map.mp h
            exact ⟨.more g1 hlk hf, hR.fk hRl hlk hf, by simp; omega⟩
    · have hlen' : ¬ (p.length : Int) = (j : Int) + 1 := by omega
      simp [hlen']
      exact skip _ _
theorem ways0_spec (hR : RM R) (hRl : R.length ≤ 3) {rx : PV} {j : Nat} (hj : j < 2) {ws : List Way} {st : Sto} {a1 a4 a5 a6 a7 : Option PV} {QF : Fl → Sto → Prop} {E : Exn → Sto → Prop} (hr : RL rx st R) (hw : ∀ x ∈ ws, GW R kw x) (hl : ws.length < 150)
    (hq : ∀ st' (ws' : List Way) a4 a5 a6, Sv [] st st' → (∀ x ∈ ws', GW R kw x) → ws.length ≤ ws'.length → ws'.length ≤ 5 * ws.length → QF (.next [some rx, a1, some (.lst (ws'.map wayP)), some (.int (j : Nat)), a4, a5, a6, a7, none]) st') :
    Z (L0__law_ways n [some rx, a1, some (.lst (ws.map wayP)), some (.int (j : Nat)), a4, a5, a6, a7, none] st) QF E := by
  rw [zL0__law_ways]
  simp
  refine ways2_go (kw := kw) hR hRl hj ws [] st _ _ hr hw (by simp) (by simp; omega) fun st1 ms a5 a6 s1 h1 h2 => ?_
  simp at h2
  have hz : ws.length + ms.length ≤ 16777216 := by omega
  simp [hz]
  have e : ws.map wayP ++ ms.map wayP = (ws ++ ms).map wayP := by simp
  rw [e]
  refine hq st1 (ws ++ ms) _ _ _ s1 ?_ (by simp) (by simp; omega)
  intro x hx
  rcases List.mem_append.mp hx with h | h
  · exact hw x h
  · exact h1 x h
theorem ways_spec (hR : RM R) (hRl : R.length ≤ 3) {rx : PV} {kc : Nat} {st : Sto} {Q : PV → Sto → Prop} {E : Exn → Sto → Prop} (hr : RL rx st R) (hk : st[kc]? = some (.dct (kwP kw))) (hn : (kw.map Prod.fst).Nodup) (hkin : ∀ x ∈ kw, KOk R x.2) (hl : kw.length ≤ 12)
    (hq : ∀ st' (ws : List Way), Sv [] st st' → (∀ x ∈ ws, GW R kw x) → kw.length ≤ ws.length → ws.length ≤ 400 → Q (.lst (ws.map wayP)) st') : Z (F__law_ways n [rx, .loc kc] st) Q E := by
  have hsl : (sortS (kw.map Prod.fst)).length = kw.length := by unfold sortS; rw [(List.mergeSort_perm _ _).length_eq, List.length_map]
  rw [z__law_ways, b__law_ways]
  simp [Z_sortedD hk (kw_strs kw) (by simp; omega)]
  refine ways1_go hn hk hkin _ _ (sortS (kw.map Prod.fst)) [] (fun w h => mem_sortS.mp h) (by simp) (by simp; omega) fun ws h1 h2 => ?_
  simp at h2
  simp [List.range, List.range.loop]
  rw [Z_forL]
  simp
  refine ways0_spec (kw := kw) (j := 0) hR hRl (by omega) hr h1 (by omega) fun st1 ws1 a4 a5 a6 s1 g1 g2 g3 => ?_
  simp
  rw [Z_forL]
  simp
  refine ways0_spec (kw := kw) (j := 1) hR hRl (by omega) (hr.keep s1) g1 (by omega) fun st2 ws2 a4 a5 a6 s2 k1 k2 k3 => ?_
  simp
  rw [Z_forL_nil]
  simp
  exact hq st2 ws2 (s1.trans s2) k1 (by omega) (by omega)
end

end
section
noncomputable abbrev gBox : PV := .str [98, 111, 120]
noncomputable abbrev gRec : PV := .str [114, 101, 99, 111, 114, 100, 115]
noncomputable abbrev gHea : PV := .str [104, 101, 97, 100, 115]
noncomputable abbrev gWay : PV := .str [119, 97, 121, 115]
noncomputable def gameP (b m h : Nat) (w : Int) (rest : List (PV × PV)) : List (PV × PV) := (gBox, .loc b) :: (gRec, .loc m) :: (gHea, .loc h) :: (gWay, .int w) :: rest
theorem game_box {b m h : Nat} {w : Int} {rest : List (PV × PV)} : lookP (gameP b m h w rest) gBox = some (.loc b) := by simp [gameP, lookP]
theorem game_rec {b m h : Nat} {w : Int} {rest : List (PV × PV)} : lookP (gameP b m h w rest) gRec = some (.loc m) := by simp [gameP, lookP]
theorem game_hea {b m h : Nat} {w : Int} {rest : List (PV × PV)} : lookP (gameP b m h w rest) gHea = some (.loc h) := by simp [gameP, lookP]
theorem game_way {b m h : Nat} {w : Int} {rest : List (PV × PV)} : lookP (gameP b m h w rest) gWay = some (.int w) := by simp [gameP, lookP]
structure Fm where
  hd : List (List Nat)
  ks : List Kn
noncomputable def formP (f : Fm) : PV := .tup (f.hd.map .str ++ [.lst (f.ks.map kP)])
noncomputable def numOps : List Fm := [⟨[[97, 100, 100]], [.num, .num]⟩, ⟨[[115, 117, 98]], [.num, .num]⟩, ⟨[[109, 117, 108]], [.num, .num]⟩, ⟨[[100, 105, 118]], [.num, .num]⟩, ⟨[[114, 101, 115, 116]], [.num, .num]⟩, ⟨[[108, 101, 115, 115]], [.num, .num]⟩, ⟨[[115, 97, 109, 101]], [.num, .num]⟩,
  ⟨[[112, 105, 99, 107]], [.num, .num, .num]⟩, ⟨[[97, 116]], [.row, .num]⟩, ⟨[[115, 105, 122, 101]], [.row]⟩, ⟨[[110, 111, 116]], [.num]⟩]
noncomputable def eithOps : List Fm := [⟨[[97, 110, 100]], [.num, .num]⟩, ⟨[[111, 114]], [.num, .num]⟩]
noncomputable def rowOps : List Fm := [⟨[[112, 117, 116]], [.row, .num, .num]⟩, ⟨[[109, 97, 110, 121]], [.num, .num]⟩, ⟨[[109, 97, 107, 101]], [.num]⟩, ⟨[[109, 97, 107, 101]], List.replicate 8 .num⟩]
inductive FO (R : Recs) (hs : List Hea) : Kn → Fm → Prop
  | num {f : Fm} : f ∈ numOps ++ eithOps → FO R hs .num f
  | row {f : Fm} : f ∈ rowOps → FO R hs .row f
  | new {w : List Nat} {fs : List Fld} : look R w = some fs → FO R hs (.rc w) ⟨[[110, 101, 119], w], fs.map Prod.snd⟩
  | call {x : Hea} : x ∈ hs → FO R hs x.k ⟨[[99, 97, 108, 108], x.w], x.ps.map Prod.snd⟩
noncomputable abbrev wMake : List Nat := [109, 97, 107, 101]
noncomputable abbrev wCall : List Nat := [99, 97, 108, 108]
noncomputable abbrev wNew : List Nat := [110, 101, 119]
noncomputable abbrev wAnd : List Nat := [97, 110, 100]
noncomputable abbrev wOr : List Nat := [111, 114]
noncomputable def cntW (hd : List (List Nat)) : Bool := decide (hd.headD [] = wMake ∨ hd.headD [] = wCall ∨ hd.headD [] = wNew)
noncomputable def wayW (hd : List (List Nat)) : Bool := decide (hd.headD [] = wAnd ∨ hd.headD [] = wOr ∨ hd.headD [] = wCall)
noncomputable def FW (wy : Int) (R : Recs) (hs : List Hea) (k : Kn) (f : Fm) : Prop := FO R hs k f ∧ (wayW f.hd = true → 0 < wy)
theorem seconds_go {ρ : Rho} (hj : 8 < ρ.length) : ∀ (ps : List Fld) (acc : List Kn) (st : Sto) (QL : List PV → Sto → Prop) (E : Exn → Sto → Prop), acc.length + ps.length < 1000 → QL ((acc ++ ps.map Prod.snd).map kP) st →
    Z (lcL (gN 8) tYesM (eBin ixM (eVar 8) (eC (.int 1))) ρ (ps.map fldP) (acc.map kP) st) QL E
  | [], acc, st, QL, E, hl, hq => by rw [List.map_nil, lc_nil]; simpa using hq
  | x :: ps, acc, st, QL, E, hl, hq => by
    have h1 : acc.length < 16777216 := by omega
    rw [List.map_cons, lc_cons]
    simp at hl
    simp [fldP, L2.ixN, h1, hj]
    have e : acc.map kP ++ [kP x.2] = (acc ++ [x.2]).map kP := by simp
    rw [e]
    exact seconds_go hj ps _ _ _ _ (by simp; omega) (by simpa using hq)
section
variable {n : Nat} {R : Recs} {hs : List Hea}
theorem forms0_go {wy : Int} (hR : RM R) {k : Kn} (hk : KIn R k) {m fc : Nat} {a0 a5 a6 a7 : Option PV} {QF : Fl → Sto → Prop} {E : Exn → Sto → Prop} (nf : fc ≠ m) :
    ∀ (rs : Recs) (fl : List Fm) (st : Sto) (a3 a4 : Option PV), (∀ r ∈ rs, r ∈ R) → st[m]? = some (.lst (R.map recP)) → st[fc]? = some (.lst (fl.map formP)) → fl.length + rs.length < 1000 → (∀ f ∈ fl, FW wy R hs k f) →
    (∀ st' (fl' : List Fm) a3 a4, Sv [fc] st st' → st'.length = st.length → st'[fc]? = some (.lst (fl'.map formP)) → fl'.length ≤ fl.length + rs.length → (∀ f ∈ fl', FW wy R hs k f) → QF (.next [a0, some (kP k), some (.loc fc), a3, a4, a5, a6, a7, none]) st') →
    Z (forG (gd m (R.map recP)) (gT 2 (gsCons (gN 3) (gsCons (gN 4) gsNil))) (L0__law_forms n) (rs.map recP) [a0, some (kP k), some (.loc fc), a3, a4, a5, a6, a7, none] st) QF E
  | [], fl, st, a3, a4, hrs, hm, hf, hl, hfo, hq => by
    rw [List.map_nil, Z_forG_nil (gd_of hm)]
    exact hq st fl _ _ (Sv.refl _ _) rfl hf (by simp) hfo
  | r :: rs, fl, st, a3, a4, hrs, hm, hf, hl, hfo, hq => by
    have hr := hrs r (by simp)
    obtain ⟨n1, n2⟩ := hR.nk r hr
    have hfl : r.2.length ≤ 4 := hR.fl r hr
    have hfz : fl.length < 16777216 := by omega
    simp at hl
    rw [List.map_cons, Z_forG (gd_of hm)]
    simp [recP]
    rw [zL0__law_forms]
    have skip : ∀ (a3 a4 : Option PV), Z (forG (gd m (R.map recP)) (gT 2 (gsCons (gN 3) (gsCons (gN 4) gsNil))) (L0__law_forms n) (rs.map recP) [a0, some (kP k), some (.loc fc), a3, a4, a5, a6, a7, none] st) QF E := fun a3 a4 =>
      forms0_go hR hk nf rs fl st a3 a4 (fun y hy => hrs y (by simp [hy])) hm hf (by omega) hfo fun st' fl' a3 a4 s l h1 h2 h3 => hq st' fl' _ _ s l h1 (by simp; omega) h3
    by_cases he : k = .rc r.1
    · subst he
      have hlk : look R r.1 = some r.2 := by
        have := hR.kd r hr
        cases this with
        | @rc _ _ fs h1 _ _ _ =>
          have hm2 := look_mem h1
          have : fs = r.2 := by
            have hnd := hR.nd
            obtain ⟨i, hi⟩ := List.mem_iff_getElem?.mp hm2
            obtain ⟨i', hi'⟩ := List.mem_iff_getElem?.mp hr
            have e1 : (R.map Prod.fst)[i]? = some r.1 := by simp [hi]
            have e2 : (R.map Prod.fst)[i']? = some r.1 := by simp [hi']
            have : i = i' := by
              have l1 := (List.getElem?_eq_some_iff.mp e1).1
              exact (List.getElem?_inj l1 hnd).mp (e1.trans e2.symm)
            subst this
            rw [hi] at hi'
            have h := congrArg Prod.snd (Option.some.inj hi')
            exact h
          rw [this] at h1
          exact h1
      simp [kP, hf]
      refine seconds_go (by simp) r.2 [] st _ _ (by simp; omega) ?_
      simp [hf, hfz]
      have e : fl.map formP ++ [.tup [.str [110, 101, 119], .str r.1, .lst (r.2.map (kP ∘ Prod.snd))]] = (fl ++ [(⟨[[110, 101, 119], r.1], r.2.map Prod.snd⟩ : Fm)]).map formP := by simp [formP]
      rw [e]
      refine forms0_go hR hk nf rs _ _ _ _ (fun y hy => hrs y (by simp [hy])) ((List.getElem?_set_ne nf).trans hm) (List.getElem?_set_self (getN hf)) (by simp; omega) ?_ fun st' fl' a3 a4 s l h1 h2 h3 => hq st' fl' _ _ ((Sv.set (by simp)).trans s) (by simpa using l) h1 (by simp at h2 ⊢; omega) h3
      intro f hf'
      rcases List.mem_append.mp hf' with h | h
      · exact hfo f h
      · simp at h; subst h; exact ⟨.new hlk, fun e => absurd e (by simp [wayW])⟩
    · have hne : ∀ (s : Sto) (Q : PV → Sto → Prop) (E : Exn → Sto → Prop), Z (eqM (.str r.1) (kP k) s) Q E = Q (.bl false) s := by
        intro s Q E
        rcases hk with rfl | rfl | ⟨r', hr', rfl⟩
        · simp [kP, n1]
        · simp [kP, n2]
        · have : r.1 ≠ r'.1 := fun z => he (by rw [z])
          simp [kP, this]
      simp [hne]
      exact skip _ _
end

end
section
theorem kP_eq {R : Recs} (hR : RM R) {a b : Kn} (ha : KIn R a) (hb : KIn R b) {st : Sto} {Q : PV → Sto → Prop} {E : Exn → Sto → Prop} : (a = b ∧ Z (eqM (kP a) (kP b) st) Q E = Q (.bl true) st) ∨ (a ≠ b ∧ Z (eqM (kP a) (kP b) st) Q E = Q (.bl false) st) := by
  have key : (a = b ∧ kP a = kP b) ∨ (a ≠ b ∧ kP a ≠ kP b) := by
    rcases ha with rfl | rfl | ⟨r, hr, rfl⟩ <;> rcases hb with rfl | rfl | ⟨r', hr', rfl⟩
    · exact .inl ⟨rfl, rfl⟩
    · exact .inr ⟨by simp, by simp [kP]⟩
    · exact .inr ⟨by simp, by simp [kP]; exact Ne.symm (hR.nk r' hr').1⟩
    · exact .inr ⟨by simp, by simp [kP]⟩
    · exact .inl ⟨rfl, rfl⟩
    · exact .inr ⟨by simp, by simp [kP]; exact Ne.symm (hR.nk r' hr').2⟩
    · exact .inr ⟨by simp, by simp [kP]; exact (hR.nk r hr).1⟩
    · exact .inr ⟨by simp, by simp [kP]; exact (hR.nk r hr).2⟩
    · by_cases h : r.1 = r'.1
      · exact .inl ⟨by rw [h], by rw [h]⟩
      · exact .inr ⟨by simpa using h, by simpa [kP] using h⟩
  have hs : ∀ k : Kn, ∃ w, kP k = .str w := fun k => by cases k <;> exact ⟨_, rfl⟩
  obtain ⟨x, hx⟩ := hs a
  obtain ⟨y, hy⟩ := hs b
  rcases key with ⟨h1, h2⟩ | ⟨h1, h2⟩
  · refine .inl ⟨h1, ?_⟩
    rw [hx, hy] at h2 ⊢
    injection h2 with h2
    simp [h2]
  · refine .inr ⟨h1, ?_⟩
    rw [hx, hy] at h2 ⊢
    have : x ≠ y := fun z => h2 (by rw [z])
    simp [this]
section
variable {n : Nat} {R : Recs} {hs : List Hea}
theorem forms1_go (hR : RM R) {cc : Bool} {k : Kn} (hk : KIn R k) {gc b m h fc : Nat} {wy : Int} {rest : List (PV × PV)} {a7 : Option PV} {a4 : Option PV} {QF : Fl → Sto → Prop} {E : Exn → Sto → Prop} (nf : fc ≠ h) (ng' : fc ≠ gc) (hok : ∀ x ∈ hs, HOk R x) :
    ∀ (xs : List Hea) (fl : List Fm) (st : Sto) (a3 a5 a6 : Option PV), (∀ x ∈ xs, x ∈ hs) → st[h]? = some (.lst (hs.map (headQ cc))) → st[gc]? = some (.dct (gameP b m h wy rest)) → st[fc]? = some (.lst (fl.map formP)) → fl.length + xs.length < 1000 → (∀ f ∈ fl, FW wy R hs k f) →
    (∀ st' (fl' : List Fm) a3 a5 a6, Sv [fc] st st' → st'.length = st.length → st'[fc]? = some (.lst (fl'.map formP)) → fl'.length ≤ fl.length + xs.length → (∀ f ∈ fl', FW wy R hs k f) → QF (.next [some (.loc gc), some (kP k), some (.loc fc), a3, a4, a5, a6, a7, none]) st') →
    Z (forG (gd h (hs.map (headQ cc))) (gT 3 (gsCons (gN 3) (gsCons (gN 5) (gsCons (gN 6) gsNil)))) (L1__law_forms n) (xs.map (headQ cc)) [some (.loc gc), some (kP k), some (.loc fc), a3, a4, a5, a6, a7, none] st) QF E
  | [], fl, st, a3, a5, a6, hrs, hm, hg, hf, hl, hfo, hq => by
    rw [List.map_nil, Z_forG_nil (gd_of hm)]
    exact hq st fl _ _ _ (Sv.refl _ _) rfl hf (by simp) hfo
  | x :: xs, fl, st, a3, a5, a6, hrs, hm, hg, hf, hl, hfo, hq => by
    have hx := hrs x (by simp)
    have ho := hok x hx
    have hfz : fl.length < 16777216 := by omega
    have hpl := ho.le
    simp at hl
    rw [List.map_cons, Z_forG (gd_of hm)]
    simp [headQ]
    rw [zL1__law_forms]
    have skip : ∀ (a3 a5 a6 : Option PV), Z (forG (gd h (hs.map (headQ cc))) (gT 3 (gsCons (gN 3) (gsCons (gN 5) (gsCons (gN 6) gsNil)))) (L1__law_forms n) (xs.map (headQ cc)) [some (.loc gc), some (kP k), some (.loc fc), a3, a4, a5, a6, a7, none] st) QF E := fun a3 a5 a6 =>
      forms1_go hR hk nf ng' hok xs fl st a3 a5 a6 (fun y hy => hrs y (by simp [hy])) hm hg hf (by omega) hfo fun st' fl' a3 a5 a6 s l h1 h2 h3 => hq st' fl' _ _ _ s l h1 (by simp; omega) h3
    have keq := fun (s : Sto) (Q : PV → Sto → Prop) (E : Exn → Sto → Prop) => kP_eq hR ho.k.1 hk (st := s) (Q := Q) (E := E)
    by_cases he : x.k = k
    · have keq1 : ∀ (s : Sto) (Q : PV → Sto → Prop) (E : Exn → Sto → Prop), Z (eqM (kP x.k) (kP k) s) Q E = Q (.bl true) s := fun s Q E => by
        rcases keq s Q E with h | h
        · exact h.2
        · exact absurd he h.1
      by_cases hw : 0 < wy
      · simp [keq1, hg, game_way, hw, hf]
        refine seconds_go (by simp) x.ps [] st _ _ (by simp; omega) ?_
        simp [hf, hfz]
        have e : fl.map formP ++ [.tup [.str [99, 97, 108, 108], .str x.w, .lst (x.ps.map (kP ∘ Prod.snd))]] = (fl ++ [(⟨[[99, 97, 108, 108], x.w], x.ps.map Prod.snd⟩ : Fm)]).map formP := by simp [formP]
        rw [e]
        refine forms1_go hR hk nf ng' hok xs _ _ _ _ _ (fun y hy => hrs y (by simp [hy])) ((List.getElem?_set_ne nf).trans hm) ((List.getElem?_set_ne ng').trans hg) (List.getElem?_set_self (getN hf)) (by simp; omega) ?_ fun st' fl' a3 a5 a6 s l h1 h2 h3 => hq st' fl' _ _ _ ((Sv.set (by simp)).trans s) (by simpa using l) h1 (by simp at h2 ⊢; omega) h3
        intro f hf'
        rcases List.mem_append.mp hf' with h' | h'
        · exact hfo f h'
        · simp at h'; subst h'; rw [← he]; exact ⟨.call hx, fun _ => hw⟩
      · simp [keq1, hg, game_way, hw]
        exact skip _ _ _
    · have keq1 : ∀ (s : Sto) (Q : PV → Sto → Prop) (E : Exn → Sto → Prop), Z (eqM (kP x.k) (kP k) s) Q E = Q (.bl false) s := fun s Q E => by
        rcases keq s Q E with h | h
        · exact absurd h.1 he
        · exact h.2
      simp [keq1]
      exact skip _ _ _
end

end
section
noncomputable def tailF (n : Nat) : Rho → M Fl :=
  (sSeq (sForC id (iCell (eBin ixM (eVar 0) (eC (.str [114, 101, 99, 111, 114, 100, 115])))) (gT 2 (gsCons (gN 3) (gsCons (gN 4) gsNil))) (L0__law_forms n))
  (sSeq (sForC id (iCell (eBin ixM (eVar 0) (eC (.str [104, 101, 97, 100, 115])))) (gT 3 (gsCons (gN 3) (gsCons (gN 5) (gsCons (gN 6) gsNil)))) (L1__law_forms n))
  (sRet (eVar 2))))
theorem forms_eq (n : Nat) : b__law_forms n = (sSeq (sSet 2 (eCall mkLstN aNil))
  (sSeq (sIf (eB (eBin eqM (eVar 1) (eC (.str [110, 117, 109])))) (sSeq (sSet 2 (eLc lcN (iSeq (eCall mkLst (aCons (eC (.str [97, 100, 100])) (aCons (eC (.str [115, 117, 98])) (aCons (eC (.str [109, 117, 108])) (aCons (eC (.str [100, 105, 118])) (aCons (eC (.str [114, 101, 115, 116])) (aCons (eC (.str [108, 101, 115, 115])) (aCons (eC (.str [115, 97, 109, 101])) aNil))))))))) (gN 7) tYesM (eCall mkTup (aCons (eVar 7) (aCons (eCall mkLst (aCons (eC (.str [110, 117, 109])) (aCons (eC (.str [110, 117, 109])) aNil))) aNil))) [7]))
  (sSeq (sSet 2 (eBin addN (eVar 2) (eCall mkLst (aCons (eCall mkTup (aCons (eC (.str [112, 105, 99, 107])) (aCons (eCall mkLst (aCons (eC (.str [110, 117, 109])) (aCons (eC (.str [110, 117, 109])) (aCons (eC (.str [110, 117, 109])) aNil)))) aNil))) (aCons (eCall mkTup (aCons (eC (.str [97, 116])) (aCons (eCall mkLst (aCons (eC (.str [114, 111, 119])) (aCons (eC (.str [110, 117, 109])) aNil))) aNil))) (aCons (eCall mkTup (aCons (eC (.str [115, 105, 122, 101])) (aCons (eCall mkLst (aCons (eC (.str [114, 111, 119])) aNil)) aNil))) aNil))))))
  (sSeq (sDrop (eMeth "list" appendM (eVar 2) (aCons (eCall mkTup (aCons (eC (.str [110, 111, 116])) (aCons (eCall mkLst (aCons (eC (.str [110, 117, 109])) aNil)) aNil))) aNil)))
  (sIf (eB (eBin gtI (eBin ixM (eVar 0) (eC (.str [119, 97, 121, 115]))) (eC (.int 0)))) (sSet 2 (eBin addN (eVar 2) (eCall mkLst (aCons (eCall mkTup (aCons (eC (.str [97, 110, 100])) (aCons (eCall mkLst (aCons (eC (.str [110, 117, 109])) (aCons (eC (.str [110, 117, 109])) aNil))) aNil))) (aCons (eCall mkTup (aCons (eC (.str [111, 114])) (aCons (eCall mkLst (aCons (eC (.str [110, 117, 109])) (aCons (eC (.str [110, 117, 109])) aNil))) aNil))) aNil))))) sNext)))) sNext)
  (sSeq (sIf (eB (eBin eqM (eVar 1) (eC (.str [114, 111, 119])))) (sSet 2 (eCall mkLstN (aCons (eCall mkTup (aCons (eC (.str [112, 117, 116])) (aCons (eCall mkLst (aCons (eC (.str [114, 111, 119])) (aCons (eC (.str [110, 117, 109])) (aCons (eC (.str [110, 117, 109])) aNil)))) aNil))) (aCons (eCall mkTup (aCons (eC (.str [109, 97, 110, 121])) (aCons (eCall mkLst (aCons (eC (.str [110, 117, 109])) (aCons (eC (.str [110, 117, 109])) aNil))) aNil))) (aCons (eCall mkTup (aCons (eC (.str [109, 97, 107, 101])) (aCons (eCall mkLst (aCons (eC (.str [110, 117, 109])) aNil)) aNil))) (aCons (eCall mkTup (aCons (eC (.str [109, 97, 107, 101])) (aCons (eBin mulL (eCall mkLst (aCons (eC (.str [110, 117, 109])) aNil)) (eC (.int 8))) aNil))) aNil)))))) sNext)
  (tailF n)))) := by unfold b__law_forms tailF; rfl
theorem no_num : ∀ f ∈ numOps, wayW f.hd = false := by decide
theorem no_row : ∀ f ∈ rowOps, wayW f.hd = false := by decide
section
variable {n : Nat} {R : Recs} {hs : List Hea}
theorem tailF_spec (hR : RM R) {cc : Bool} (hl : R.length ≤ 3) (hl3 : hs.length ≤ 3) (hok : ∀ x ∈ hs, HOk R x) {k : Kn} (hk : KIn R k) {gc b m h fc : Nat} {wy : Int} {rest : List (PV × PV)} {fl : List Fm} {st : Sto} {a7 : Option PV} {QF : Fl → Sto → Prop} {E : Exn → Sto → Prop}
    (hg : st[gc]? = some (.dct (gameP b m h wy rest))) (hm : st[m]? = some (.lst (R.map recP))) (hh : st[h]? = some (.lst (hs.map (headQ cc)))) (hf : st[fc]? = some (.lst (fl.map formP))) (n1 : fc ≠ gc) (n2 : fc ≠ m) (n3 : fc ≠ h) (hfl : fl.length ≤ 20) (hfo : ∀ f ∈ fl, FW wy R hs k f)
    (hq : ∀ st' (fl' : List Fm), Sv [fc] st st' → st'[fc]? = some (.lst (fl'.map formP)) → fl'.length ≤ 30 → (∀ f ∈ fl', FW wy R hs k f) → QF (.ret (.loc fc)) st') :
    Z (tailF n [some (.loc gc), some (kP k), some (.loc fc), none, none, none, none, a7, none] st) QF E := by
  unfold tailF
  simp [hg, game_rec, kCell_at hm]
  refine forms0_go (hs := hs) hR hk n2 R fl st _ _ (fun r h => h) hm hf (by omega) hfo fun st1 fl1 a3 a4 s1 l1 hf1 hl1 hfo1 => ?_
  have hg1 := s1.at hg (by simp; exact Ne.symm n1)
  have hh1 := s1.at hh (by simp; exact Ne.symm n3)
  simp [hg1, game_hea, kCell_at hh1]
  refine forms1_go hR hk n3 n1 hok hs fl1 st1 _ _ _ (fun x h => h) hh1 hg1 hf1 (by omega) hfo1 fun st2 fl2 a3 a5 a6 s2 l2 hf2 hl2 hfo2 => ?_
  simp
  exact hq st2 fl2 (s1.trans s2) hf2 (by omega) hfo2
theorem forms_spec (hR : RM R) {cc : Bool} (hl : R.length ≤ 3) (hl3 : hs.length ≤ 3) (hok : ∀ x ∈ hs, HOk R x) {k : Kn} (hk : KIn R k) {gc b m h : Nat} {wy : Int} {rest : List (PV × PV)} {st : Sto} {Q : PV → Sto → Prop} {E : Exn → Sto → Prop}
    (hg : st[gc]? = some (.dct (gameP b m h wy rest))) (hm : st[m]? = some (.lst (R.map recP))) (hh : st[h]? = some (.lst (hs.map (headQ cc))))
    (hq : ∀ st' (fc : Nat) (fl : List Fm), Sv [] st st' → st.length ≤ fc → st'[fc]? = some (.lst (fl.map formP)) → fl.length ≤ 30 → (∀ f ∈ fl, FW wy R hs k f) → Q (.loc fc) st') : Z (F__law_forms n [.loc gc, kP k] st) Q E := by
  have lg := getN hg
  have lm := getN hm
  have lh := getN hh
  have fin : ∀ (st1 : Sto) (fc : Nat) (fl : List Fm) (a7 : Option PV) (E' : Exn → Sto → Prop), Sv [] st st1 → st.length ≤ fc → st1[fc]? = some (.lst (fl.map formP)) → fl.length ≤ 20 → (∀ f ∈ fl, FW wy R hs k f) → Z (tailF n [some (.loc gc), some (kP k), some (.loc fc), none, none, none, none, a7, none] st1) (runQ Q E) E' := by
    intro st1 fc fl a7 E' s1 hfc hf hfl hfo
    refine tailF_spec hR hl hl3 hok hk (s1.at hg (by simp)) (s1.at hm (by simp)) (s1.at hh (by simp)) hf (by omega) (by omega) (by omega) hfl hfo fun st2 fl2 s2 hf2 hl2 hfo2 => ?_
    simp
    refine hq st2 fc fl2 ⟨by have := s1.len; have := s2.len; omega, fun i hi _ => ?_⟩ hfc hf2 hl2 hfo2
    have := s1.len
    rw [s2.keep i (by omega) (by simp; omega), s1.keep i hi (by simp)]
  rw [z__law_forms, forms_eq]
  have hk' := hk
  rcases hk with rfl | rfl | ⟨r, hr, rfl⟩
  · have hgA : ∀ t : Sto, (st ++ t)[gc]? = some (.dct (gameP b m h wy rest)) := fun t => by rw [List.getElem?_append_left lg, hg]
    simp [kP, lc_cons, lc_nil]
    generalize hst1 : st ++ [Cell.lst [], Cell.lst [PV.tup [.str [97, 100, 100], .lst [.str [110, 117, 109], .str [110, 117, 109]]], .tup [.str [115, 117, 98], .lst [.str [110, 117, 109], .str [110, 117, 109]]], .tup [.str [109, 117, 108], .lst [.str [110, 117, 109], .str [110, 117, 109]]], .tup [.str [100, 105, 118], .lst [.str [110, 117, 109], .str [110, 117, 109]]], .tup [.str [114, 101, 115, 116], .lst [.str [110, 117, 109], .str [110, 117, 109]]], .tup [.str [108, 101, 115, 115], .lst [.str [110, 117, 109], .str [110, 117, 109]]], .tup [.str [115, 97, 109, 101], .lst [.str [110, 117, 109], .str [110, 117, 109]]]]] = st1
    have l1 : st1.length = st.length + 2 := by rw [← hst1]; simp
    have c1 : st1[st.length + 1]? = some (.lst ((numOps.take 7).map formP)) := by rw [← hst1, List.getElem?_append_right (by omega)]; simp [numOps, formP, kP]
    have s1 : Sv [] st st1 := by rw [← hst1]; exact Sv.app
    have hL : MP.listOf (.loc (st.length + 1)) st1 = some ((numOps.take 7).map formP) := by unfold MP.listOf; dsimp only; rw [c1]
    rw [Z_addN hL (b := ((numOps.drop 7).take 3).map formP) (by unfold MP.listOf; rfl) (by decide)]
    have c2 : (st1 ++ [Cell.lst ((numOps.take 7).map formP ++ ((numOps.drop 7).take 3).map formP)])[st1.length]? = some (.lst ((numOps.take 10).map formP)) := by simp; rfl
    have g2 : ∀ x : Cell, ((st1 ++ [Cell.lst ((numOps.take 7).map formP ++ ((numOps.drop 7).take 3).map formP)]).set st1.length x)[gc]? = some (.dct (gameP b m h wy rest)) := fun x => by
      rw [List.getElem?_set_ne (by omega), List.getElem?_append_left (by omega)]
      exact s1.at hg (by simp)
    have s2 : ∀ x : Cell, Sv [] st ((st1 ++ [Cell.lst ((numOps.take 7).map formP ++ ((numOps.drop 7).take 3).map formP)]).set st1.length x) := fun x => ⟨by simp; omega, fun i hi _ => by
      rw [List.getElem?_set_ne (by omega), List.getElem?_append_left (by omega)]
      exact s1.keep i hi (by simp)⟩
    have c3 : ∀ x : Cell, ((st1 ++ [Cell.lst ((numOps.take 7).map formP ++ ((numOps.drop 7).take 3).map formP)]).set st1.length x)[st1.length]? = some x := fun x => List.getElem?_set_self (by simp)
    generalize st1 ++ [Cell.lst ((numOps.take 7).map formP ++ ((numOps.drop 7).take 3).map formP)] = st2 at c2 g2 s2 c3 ⊢
    have e11 : (numOps.take 10).map formP ++ [.tup [.str [110, 111, 116], .lst [.str [110, 117, 109]]]] = numOps.map formP := rfl
    have hz : ((numOps.take 10).map formP).length < 16777216 := by decide
    simp [c2]
    rw [Z_append c2 hz, e11]
    simp only [kDrop_at, seqQ_next]
    by_cases hw : 0 < wy
    · have hL2 : MP.listOf (.loc st1.length) (st2.set st1.length (.lst (numOps.map formP))) = some (numOps.map formP) := by unfold MP.listOf; dsimp only; rw [c3]
      have l3 := (s2 (.lst (numOps.map formP))).len
      simp [g2, game_way, hw]
      rw [Z_addN hL2 (b := eithOps.map formP) (by unfold MP.listOf; rfl) (by decide)]
      simp
      refine fin _ _ (numOps ++ eithOps) _ _ ((s2 _).trans Sv.app) (by simpa using l3) ?_ (by decide) fun f hf => ⟨.num hf, fun _ => hw⟩
      simp
    · simp [g2, game_way, hw]
      exact fin _ _ numOps _ _ (s2 _) (by omega) (c3 _) (by decide) fun f hf => ⟨.num (List.mem_append_left _ hf), fun e => absurd e (by rw [no_num f hf]; decide)⟩
  · simp [kP]
    refine fin _ (st.length + 1) rowOps _ _ Sv.app (by omega) (by simp [rowOps, formP, kP, List.replicate]) (by decide) fun f hf => ⟨.row hf, fun e => absurd e (by rw [no_row f hf]; decide)⟩
  · obtain ⟨n1, n2⟩ := hR.nk r hr
    simp [kP, n1, n2]
    exact fin _ st.length [] _ _ Sv.app (by omega) (by simp) (by simp) (by simp)
end

end
section
theorem number_spec {n : Nat} {st : Sto} {b c : Nat} {K : Int} {Q : PV → Sto → Prop} {E : Exn → Sto → Prop} (B : BX st b c K) (h : ∀ i s, -32768 ≤ i → i ≤ 32767 → BX s b c (K + 2) → S2 b c st s → Q (.int i) s) (hk2 : K < 100000000000) : Z (F__law_number n [.loc b] st) Q E := by
  rw [z__law_number]
  unfold b__law_number
  simp
  refine takeX B fun i s h0 h1 B1 s1 => ?_
  simp
  by_cases e0 : i = 0
  · simp [e0]
    refine takeX B1 fun i s h0 h1 B2 s2 => ?_
    simp
    exact h _ _ (by omega) (by omega) (B2.mono (by omega)) (s1.trans s2)
  by_cases e1 : i = 1
  · simp [e1]
    refine takeX B1 fun i s h0 h1 B2 s2 => ?_
    obtain ⟨x, hx, y, rfl, y0, y1⟩ := atI_all (P := fun x => ∃ z, x = .int z ∧ -32768 ≤ z ∧ z ≤ 32767) (xs := [PV.int (-32768), PV.int 32767, PV.int 255, PV.int (-256), PV.int 181, PV.int 182, PV.int 40, PV.int 41]) h0 (by simpa using h1) (by simp)
    simp [hx]
    exact h _ _ y0 y1 (B2.mono (by omega)) (s1.trans s2)
  simp [e0, e1]
  refine takeX B1 fun i s h0 h1 B2 s2 => ?_
  simp
  exact h _ _ (by omega) (by omega) (B2.mono (by omega)) (s1.trans s2)
inductive Ex where
  | num (i : Int)
  | of_ (p : List (List Nat))
  | op (hd : List (List Nat)) (es : List Ex)
mutual
noncomputable def encE : Ex → PV
  | .num i => .int i
  | .of_ p => .tup [.str [111, 102], .tup (p.map .str)]
  | .op hd es => .tup (hd.map .str ++ encEs es)
noncomputable def encEs : List Ex → List PV
  | [] => []
  | e :: es => encE e :: encEs es
end
mutual
noncomputable def wsE : Ex → List (List Nat)
  | .num i => [intS i]
  | .of_ p => [TL.joinL [46] p]
  | .op hd es => hd ++ (if cntW hd = true then [intS (es.length : Nat)] else []) ++ wsEs es
noncomputable def wsEs : List Ex → List (List Nat)
  | [] => []
  | e :: es => wsE e ++ wsEs es
end
mutual
noncomputable def wdE : Ex → Nat
  | .num _ => 1
  | .of_ _ => 1
  | .op hd es => hd.length + (if cntW hd = true then 1 else 0) + wdEs es
noncomputable def wdEs : List Ex → Nat
  | [] => 0
  | e :: es => wdE e + wdEs es
end
mutual
theorem wsE_len : ∀ e : Ex, (wsE e).length = wdE e
  | .num _ => by simp [wsE, wdE]
  | .of_ _ => by simp [wsE, wdE]
  | .op hd es => by
    rw [wsE, wdE, List.length_append, List.length_append, wsEs_len es]
    cases cntW hd <;> simp
theorem wsEs_len : ∀ es : List Ex, (wsEs es).length = wdEs es
  | [] => by simp [wsEs, wdEs]
  | e :: es => by rw [wsEs, wdEs, List.length_append, wsE_len e, wsEs_len es]
end
mutual
noncomputable def nwE : Ex → Nat
  | .num _ => 0
  | .of_ _ => 0
  | .op hd es => (if wayW hd = true then 1 else 0) + nwEs es
noncomputable def nwEs : List Ex → Nat
  | [] => 0
  | e :: es => nwE e + nwEs es
end
theorem encEs_len : ∀ es : List Ex, (encEs es).length = es.length
  | [] => rfl
  | e :: es => by rw [encEs, List.length_cons, List.length_cons, encEs_len es]
theorem encEs_app : ∀ a b : List Ex, encEs (a ++ b) = encEs a ++ encEs b
  | [], b => rfl
  | e :: a, b => by rw [List.cons_append, encEs, encEs, encEs_app a b]; rfl
theorem wdEs_app : ∀ a b : List Ex, wdEs (a ++ b) = wdEs a + wdEs b
  | [], b => by simp [wdEs]
  | e :: a, b => by rw [List.cons_append, wdEs, wdEs, wdEs_app a b]; omega
inductive TE (R : Recs) (kw : Kw) (hs : List Hea) : Ex → Kn → Prop
  | num {i : Int} : -32768 ≤ i → i ≤ 32767 → TE R kw hs (.num i) .num
  | of_ {p : List (List Nat)} {k : Kn} : PW R kw p k → KOk R k → p.length ≤ 3 → TE R kw hs (.of_ p) k
  | op {k : Kn} {f : Fm} {es : List Ex} : FO R hs k f → es.length = f.ks.length → (∀ x ∈ es.zip f.ks, TE R kw hs x.1 x.2) → TE R kw hs (.op f.hd es) k
  | make0 : TE R kw hs (.op [wMake] []) .row
noncomputable abbrev lnm : List (List Nat) := [[98], [108, 101, 116, 116, 101, 114], [99], [114, 111, 119, 115], [113]]
noncomputable def nmAll : List (List Nat) := fnm ++ pnm ++ hnm ++ rnm ++ lnm
structure KwOk (R : Recs) (kw : Kw) : Prop where
  nd : (kw.map Prod.fst).Nodup
  ok : ∀ x ∈ kw, KOk R x.2
  nm : ∀ x ∈ kw, x.1 ∈ nmAll
  le : kw.length ≤ 12
structure EV (R : Recs) (kw : Kw) (hs : List Hea) : Prop where
  R_ : RM R
  Rl : R.length ≤ 3
  kw_ : KwOk R kw
  hl : hs.length ≤ 3
  ho : ∀ x ∈ hs, HOk R x
section
variable {n : Nat} {R : Recs} {kw : Kw} {hs : List Hea}
theorem paths_go (hR : RM R) {k : Kn} (hk : KIn R k) {a0 a1 a3 a4 : Option PV} (st : Sto) (QL : List PV → Sto → Prop) (E : Exn → Sto → Prop) :
    ∀ (ws : List Way) (acc : List (List (List Nat))), (∀ x ∈ ws, GW R kw x) → acc.length + ws.length < 1000 → (∀ p ∈ acc, PW R kw p k ∧ KOk R k ∧ p.length ≤ 3) → (∀ ps : List (List (List Nat)), (∀ p ∈ ps, PW R kw p k ∧ KOk R k ∧ p.length ≤ 3) → ps.length ≤ acc.length + ws.length → QL (ps.map fun p => .tup (p.map .str)) st) →
    Z (lcL (gT 2 (gsCons (gN 5) (gsCons (gN 6) gsNil))) (eB (eBin eqM (eVar 6) (eVar 2))) (eVar 5) [a0, a1, some (kP k), a3, a4, none, none] (ws.map wayP) (acc.map fun p => .tup (p.map .str)) st) QL E
  | [], acc, hw, hl, ha, hq => by rw [List.map_nil, lc_nil]; exact hq acc ha (by simp)
  | (p, k') :: ws, acc, hw, hl, ha, hq => by
    obtain ⟨g1, g2, g3⟩ := hw (p, k') (by simp)
    have hz : acc.length < 16777216 := by omega
    simp at hl
    rw [List.map_cons, lc_cons]
    have keq := fun (s : Sto) (Q : PV → Sto → Prop) (E : Exn → Sto → Prop) => kP_eq hR g2.1 hk (st := s) (Q := Q) (E := E)
    by_cases he : k' = k
    · have keq1 : ∀ (s : Sto) (Q : PV → Sto → Prop) (E : Exn → Sto → Prop), Z (eqM (kP k') (kP k) s) Q E = Q (.bl true) s := fun s Q E => by
        rcases keq s Q E with h | h
        · exact h.2
        · exact absurd he h.1
      simp [wayP, keq1, hz]
      have e : (acc.map fun p => PV.tup (p.map .str)) ++ [.tup (p.map .str)] = (acc ++ [p]).map fun p => PV.tup (p.map .str) := by simp
      rw [e]
      refine paths_go hR hk st QL E ws (acc ++ [p]) (fun y hy => hw y (by simp [hy])) (by simp; omega) ?_ fun ps h1 h2 => hq ps h1 (by simp at h2 ⊢; omega)
      intro q hq'
      rcases List.mem_append.mp hq' with h | h
      · exact ha q h
      · simp at h; subst h; rw [← he]; exact ⟨g1, g2, g3⟩
    · have keq1 : ∀ (s : Sto) (Q : PV → Sto → Prop) (E : Exn → Sto → Prop), Z (eqM (kP k') (kP k) s) Q E = Q (.bl false) s := fun s Q E => by
        rcases keq s Q E with h | h
        · exact absurd h.1 he
        · exact h.2
      simp [wayP, keq1]
      exact paths_go hR hk st QL E ws acc (fun y hy => hw y (by simp [hy])) (by omega) ha fun ps h1 h2 => hq ps h1 (by simp; omega)
end

end
section
structure Ad where
  gc : Nat
  kc : Nat
  b : Nat
  c : Nat
  m : Nat
  h : Nat
structure GT (st : Sto) (A : Ad) (cc : Bool) (wy : Int) (rest : List (PV × PV)) (R : Recs) (kw : Kw) (hs : List Hea) (K : Int) : Prop where
  B : BX st A.b A.c K
  g : st[A.gc]? = some (.dct (gameP A.b A.m A.h wy rest))
  k : st[A.kc]? = some (.dct (kwP kw))
  m_ : st[A.m]? = some (.lst (R.map recP))
  h_ : st[A.h]? = some (.lst (hs.map (headQ cc)))
  a1 : A.gc ≠ A.b ∧ A.gc ≠ A.c ∧ A.gc ≠ A.kc ∧ A.gc ≠ A.m ∧ A.gc ≠ A.h
  a2 : A.kc ≠ A.b ∧ A.kc ≠ A.c ∧ A.kc ≠ A.m ∧ A.kc ≠ A.h
  a3 : A.m ≠ A.b ∧ A.m ≠ A.c ∧ A.h ≠ A.b ∧ A.h ≠ A.c
section
variable {st s : Sto} {A : Ad} {cc : Bool} {wy wy' : Int} {rest : List (PV × PV)} {R : Recs} {kw : Kw} {hs : List Hea} {K K' : Int}
theorem GT.sv (G : GT st A cc wy rest R kw hs K) (v : Sv [A.b, A.c] st s) (B : BX s A.b A.c K') : GT s A cc wy rest R kw hs K' :=
  ⟨B, v.at G.g (by simp; exact ⟨G.a1.1, G.a1.2.1⟩), v.at G.k (by simp; exact ⟨G.a2.1, G.a2.2.1⟩), v.at G.m_ (by simp; exact ⟨G.a3.1, G.a3.2.1⟩), v.at G.h_ (by simp; exact ⟨G.a3.2.2.1, G.a3.2.2.2⟩), G.a1, G.a2, G.a3⟩
theorem GT.grow (G : GT st A cc wy rest R kw hs K) (v : Sv [] st s) : GT s A cc wy rest R kw hs K := G.sv (v.mono (by simp)) (G.B.sv v (by simp) (by simp))
theorem GT.mono (G : GT st A cc wy rest R kw hs K) (h : K ≤ K') : GT st A cc wy rest R kw hs K' := ⟨G.B.mono h, G.g, G.k, G.m_, G.h_, G.a1, G.a2, G.a3⟩
end
theorem S2.sv {b c : Nat} {st s : Sto} (h : S2 b c st s) : Sv [b, c] st s := ⟨by rw [h.1]; exact Nat.le_refl _, fun i _ hx => by simp at hx; exact h.2 i hx.1 hx.2⟩
theorem leastD_pos {R : Recs} : ∀ {d : Nat} {k : Kn}, KD R d k → 1 ≤ leastD R d k := by
  intro d k h
  induction h with
  | num => exact Int.le_refl _
  | row => show (1 : Int) ≤ 2; decide
  | @rc d w fs h1 h2 h3 h4 ih =>
    show 1 ≤ 3 + (((look R w).getD []).map fun f => leastD R d f.2).sum
    rw [h1, Option.getD_some]
    have : ∀ l : List Fld, (∀ f ∈ l, 1 ≤ leastD R d f.2) → 0 ≤ (l.map fun f => leastD R d f.2).sum := by
      intro l
      induction l with
      | nil => intro _; simp
      | cons f l ih2 =>
        intro h
        have g1 := h f (by simp)
        have g2 := ih2 fun y hy => h y (by simp [hy])
        simp only [List.map_cons, List.sum_cons]
        omega
    have := this fs ih
    omega
theorem leastD_sum {R : Recs} {d : Nat} : ∀ l : List Fld, (∀ f ∈ l, KD R d f.2) → 0 ≤ (l.map fun f => leastD R d f.2).sum
  | [], _ => by simp
  | f :: l, h => by
    have g1 := leastD_pos (h f (by simp))
    have g2 := leastD_sum l fun y hy => h y (by simp [hy])
    simp only [List.map_cons, List.sum_cons]
    omega
section
variable {n : Nat} {R : Recs} {kw : Kw} {hs : List Hea} {A : Ad} {cc : Bool} {wy : Int} {rest : List (PV × PV)}
theorem plain_go {d : Nat} {k0 : PV} {a3 a4 a5 : Option PV} (ih : ∀ (k : Kn) (st : Sto) (K : Int) (Q : PV → Sto → Prop) (E : Exn → Sto → Prop), KD R d k → GT st A cc wy rest R kw hs K → K + 3 * leastD R d k < 900000000 → (∀ e st', TE R kw hs e k → (wdE e : Int) ≤ leastD R d k → nwE e = 0 → GT st' A cc wy rest R kw hs (K + 3 * (wdE e : Int)) → Sv [A.b, A.c] st st' → Q (encE e) st') → Z (F__law_plain n d [.loc A.gc, .loc A.kc, kP k] st) Q E) :
    ∀ (fs : List Fld) (acc : List PV) (st : Sto) (K : Int) (QL : List PV → Sto → Prop) (E : Exn → Sto → Prop), (∀ f ∈ fs, KD R d f.2) → GT st A cc wy rest R kw hs K → K + 3 * (fs.map fun f => leastD R d f.2).sum < 900000000 → acc.length + fs.length < 1000 →
    (∀ es st', es.length = fs.length → (∀ x ∈ es.zip (fs.map Prod.snd), TE R kw hs x.1 x.2) → (wdEs es : Int) ≤ (fs.map fun f => leastD R d f.2).sum → nwEs es = 0 → GT st' A cc wy rest R kw hs (K + 3 * (wdEs es : Int)) → Sv [A.b, A.c] st st' → QL (acc ++ encEs es) st') →
    Z (lcL (gN 6) tYesM (eCall (F__law_plain n d) (aCons (eVar 0) (aCons (eVar 1) (aCons (eBin ixM (eVar 6) (eC (.int 1))) aNil)))) [some (.loc A.gc), some (.loc A.kc), some k0, a3, a4, a5, none] (fs.map fldP) acc st) QL E
  | [], acc, st, K, QL, E, hk, G, hK, hl, hq => by
    rw [List.map_nil, lc_nil]
    have := hq [] st rfl (by simp) (by simp [wdEs]) (by simp [nwEs]) (by simpa [wdEs] using G) (Sv.refl _ _)
    simpa [encEs] using this
  | f :: fs, acc, st, K, QL, E, hk, G, hK, hl, hq => by
    have hz : acc.length < 16777216 := by omega
    have lp := leastD_pos (hk f (by simp))
    have lps := leastD_sum fs fun y hy => hk y (by simp [hy])
    simp only [List.length_cons, List.map_cons, List.sum_cons] at hK hl hq
    rw [List.map_cons, lc_cons]
    simp [fldP, L2.ixN]
    refine ih f.2 st K _ _ (hk f (by simp)) G (by omega) fun e st1 he hw hn G1 s1 => ?_
    simp [hz]
    refine plain_go ih fs (acc ++ [encE e]) st1 (K + 3 * (wdE e : Int)) QL E (fun y hy => hk y (by simp [hy])) G1 (by omega) (by simp; omega) fun es st2 h1 h2 h3 h4 G2 s2 => ?_
    have := hq (e :: es) st2 (by simp [h1]) (by
      intro x hx
      simp only [List.zip_cons_cons] at hx
      rcases List.mem_cons.mp hx with rfl | hx
      · exact he
      · exact h2 x hx) (by simp only [wdEs]; omega) (by simp only [nwEs]; omega) (G2.mono (by simp only [wdEs]; omega)) (s1.trans s2)
    simpa [encEs] using this
end

end
section
section
variable {n : Nat} {R : Recs} {kw : Kw} {hs : List Hea} {A : Ad} {cc : Bool} {wy : Int} {rest : List (PV × PV)}
theorem plain_spec (V : EV R kw hs) : ∀ (d : Nat) (k : Kn) (st : Sto) (K : Int) (Q : PV → Sto → Prop) (E : Exn → Sto → Prop), KD R d k → GT st A cc wy rest R kw hs K → K + 3 * leastD R d k < 900000000 → (∀ e st', TE R kw hs e k → (wdE e : Int) ≤ leastD R d k → nwE e = 0 → GT st' A cc wy rest R kw hs (K + 3 * (wdE e : Int)) → Sv [A.b, A.c] st st' → Q (encE e) st') → Z (F__law_plain n d [.loc A.gc, .loc A.kc, kP k] st) Q E
  | 0, k, st, K, Q, E, hk, G, hK, hq => by cases hk
  | d + 1, k, st, K, Q, E, hk, G, hK, hq => by
    have hR := V.R_
    have hki := hk.kin
    have lp := leastD_pos hk
    -- behind the paths
    have rest_ : ∀ (st1 : Sto) (K1 : Int) (a3 : Option PV) (QF : Fl → Sto → Prop) (E' : Exn → Sto → Prop), GT st1 A cc wy rest R kw hs K1 → K1 ≤ K + 1 → Sv [A.b, A.c] st st1 → (∀ e st', TE R kw hs e k → (wdE e : Int) ≤ leastD R (d + 1) k → nwE e = 0 → GT st' A cc wy rest R kw hs (K + 3 * (wdE e : Int)) → Sv [A.b, A.c] st st' → QF (.ret (encE e)) st') →
        Z ((sSeq (sIf (eB (eBin eqM (eVar 2) (eC (.str [110, 117, 109])))) (sRet (eCall (F__law_number n) (aCons (eBin ixM (eVar 0) (eC (.str [98, 111, 120]))) aNil))) sNext)
  (sSeq (sIf (eB (eBin eqM (eVar 2) (eC (.str [114, 111, 119])))) (sRet (eCall mkTup (aCons (eC (.str [109, 97, 107, 101])) aNil))) sNext)
  (sSeq (sSet 4 (eBin ixM (eCall dictM (aCons (eBin ixM (eVar 0) (eC (.str [114, 101, 99, 111, 114, 100, 115]))) aNil)) (eVar 2)))
  (sRet (eBin addV (eCall mkTup (aCons (eC (.str [110, 101, 119])) (aCons (eVar 2) aNil))) (eCall tupleM (aCons (eLc lcV (iSeq (eVar 4)) (gN 6) tYesM (eCall (F__law_plain n d) (aCons (eVar 0) (aCons (eVar 1) (aCons (eBin ixM (eVar 6) (eC (.int 1))) aNil)))) [6]) aNil))))))) [some (.loc A.gc), some (.loc A.kc), some (kP k), a3, none, none, none] st1) QF E' := by
      intro st1 K1 a3 QF E' G1 hK1 s1 hq1
      cases hk with
      | num =>
        simp [kP, G1.g, game_box]
        refine number_spec G1.B (fun i st2 i0 i1 B2 s2 => ?_) (by omega)
        simp
        exact hq1 (.num i) _ (.num i0 i1) (Int.le_refl _) rfl (G1.sv s2.sv (B2.mono (by simp only [wdE]; omega))) (s1.trans s2.sv)
      | row =>
        simp [kP]
        exact hq1 (.op [wMake] []) _ .make0 (Int.le_refl _) rfl (G1.mono (by rw [show wdE (.op [wMake] []) = 2 from rfl]; omega)) s1
      | @rc _ w fs hlk n1 n2 hfs =>
        have hlkP := recs_look hR.nd hlk
        have hfl : fs.length ≤ 4 := hR.fl _ (look_mem hlk)
        have hRL : RL (.loc A.m) st1 R := .inr ⟨A.m, rfl, G1.m_⟩
        have hls : leastD R (d + 1) (.rc w) = 3 + (fs.map fun f => leastD R d f.2).sum := by
          show 3 + (((look R w).getD []).map fun f => leastD R d f.2).sum = _
          rw [hlk]; rfl
        have lps := leastD_sum fs hfs
        simp [kP, n1, n2, G1.g, game_rec, hRL.dict, hlkP]
        have G2 : GT (st1 ++ [Cell.dct (mergeP [] (recKV R))]) A cc wy rest R kw hs K1 := G1.sv Sv.app (G1.B.app _)
        refine plain_go (hs := hs) (fun k st K Q E h1 h2 h3 h4 => plain_spec V d k st K Q E h1 h2 h3 h4) fs [] _ K1 _ _ hfs G2 (by omega) (by simp; omega) fun es st2 h1 h2 h3 h4 G3 s2 => ?_
        have hz : 1 + 1 + (encEs es).length ≤ 16777216 := by rw [encEs_len]; omega
        simp
        refine ⟨by omega, ?_⟩
        have hf : FO R hs (.rc w) ⟨[[110, 101, 119], w], fs.map Prod.snd⟩ := .new hlk
        have hwd : wdE (.op [[110, 101, 119], w] es) = 3 + wdEs es := by simp only [wdE]; simp [cntW]
        have := hq1 _ st2 (TE.op (kw := kw) (es := es) hf (by simp [h1]) h2) (by rw [hls, hwd]; omega) (by simp only [nwE]; simp [wayW]; exact h4) (G3.mono (by rw [hwd]; omega)) ((s1.trans Sv.app).trans s2)
        simpa [encE] using this
    rw [z__law_plain, b__law_plain]
    simp [G.g, game_rec]
    refine ways_spec (kw := kw) hR V.Rl (.inr ⟨A.m, rfl, G.m_⟩) G.k V.kw_.nd V.kw_.ok V.kw_.le fun st1 ws s1 hw _ hwl => ?_
    have sv1 : Sv [A.b, A.c] st st1 := s1.mono (by simp)
    have G1 : GT st1 A cc wy rest R kw hs K := G.grow s1
    simp
    refine paths_go hR hki st1 _ _ ws [] hw (by simp; omega) (by simp) fun ps hps hpl => ?_
    simp at hpl
    have fin : ∀ (st2 : Sto) (K2 : Int) (a3 : Option PV), GT st2 A cc wy rest R kw hs K2 → K2 ≤ K + 1 → Sv [A.b, A.c] st st2 → _ := fun st2 K2 a3 G2 h2 s2 => rest_ st2 K2 a3 (runQ Q E) E0 G2 h2 s2 fun e st' h1 h3 h4 h5 h6 => by simp; exact hq e st' h1 h3 h4 h5 h6
    by_cases hp : ps = []
    · subst hp
      simp
      simpa using fin st1 K (some (.lst [])) G1 (by omega) sv1
    · have hpos : 0 < ps.length := List.length_pos_iff.mpr hp
      simp [hpos, G1.g, game_box]
      refine takeX G1.B (fun i st2 i0 i1 B2 s2 => ?_)
      have G2 := G1.sv s2.sv B2
      have sv2 := sv1.trans s2.sv
      by_cases hi : 0 < i
      · simp [hi, G2.g, game_box]
        refine takeX B2 (fun j st3 j0 j1 B3 s3 => ?_) (by omega) (by omega) (Nat.lt_of_le_of_lt (Nat.log2_le_self _) (by omega))
        have hat := atI_of (xs := ps.map fun p => PV.tup (p.map .str)) j0 (by simpa using j1)
        simp at hat
        simp [hat]
        obtain ⟨q1, q2, q3⟩ := hps (ps[j.toNat]'(by omega)) (List.getElem_mem _)
        exact hq (.of_ _) _ (.of_ q1 q2 q3) (by simp only [wdE]; omega) rfl (G2.sv s3.sv (B3.mono (by simp only [wdE]; omega))) (sv2.trans s3.sv)
      · simp [hi]
        simpa using fin st2 (K + 1) _ G2 (by omega) sv2
end

end
section
section
variable {st : Sto} {Q : PV → Sto → Prop} {E : Exn → Sto → Prop} {m : Nat} {xs : List PV}
theorem Z_eqE (h : st[m]? = some (.lst [])) : Z (eqM (.loc m) (.lst []) st) Q E = Q (.bl true) st := by
  have e : shal (.loc m) st = .lst [] := by unfold shal; dsimp only; rw [h]
  have e' : shal (.lst []) st = .lst [] := rfl
  rw [Z_eq (by unfold cmpOk; rw [e, e']; exact Bool.or_eq_true_iff.mpr (.inr (by decide +kernel))), e, e']
  rfl
theorem Z_eqC {z : PV} {zs : List PV} (h : st[m]? = some (.lst (z :: zs))) : Z (eqM (.loc m) (.lst []) st) Q E = Q (.bl false) st := by
  have e : shal (.loc m) st = .lst (z :: zs) := by unfold shal; dsimp only; rw [h]
  have e' : shal (.lst []) st = .lst [] := rfl
  by_cases hc : cmpOk (.loc m) (.lst []) st = true
  · rw [Z_eq hc, e, e', show eqb (.lst (z :: zs)) (.lst []) = false from by simp [eqb, eqbs]]
  · unfold eqM
    rw [if_neg hc, if_pos (by unfold lenNe; rw [e, e']; simp)]
    rfl
theorem Z_eqL (h : st[m]? = some (.lst xs)) : Z (eqM (.loc m) (.lst []) st) Q E = Q (.bl xs.isEmpty) st := by
  cases xs with
  | nil => rw [Z_eqE h]; rfl
  | cons z zs => rw [Z_eqC h]; rfl
end
noncomputable abbrev opA : List (List Nat × Option Nat) := [([97, 100, 100], some 2), ([115, 117, 98], some 2), ([109, 117, 108], some 2), ([100, 105, 118], some 2), ([114, 101, 115, 116], some 2), ([108, 101, 115, 115], some 2), ([115, 97, 109, 101], some 2), ([112, 105, 99, 107], some 3), ([97, 116], some 2), ([115, 105, 122, 101], some 1), ([110, 111, 116], some 1), ([97, 110, 100], some 2), ([111, 114], some 2), ([112, 117, 116], some 3), ([109, 97, 110, 121], some 2), ([109, 97, 107, 101], none)]
inductive WE : Ex → Prop
  | num {i : Int} : -32768 ≤ i → i ≤ 32767 → WE (.num i)
  | of_ {p : List (List Nat)} : p.length ≤ 3 → p ≠ [] → (∀ w ∈ p, w ∈ nmAll) → WE (.of_ p)
  | op1 {o : List Nat} {a : Option Nat} {es : List Ex} : (o, a) ∈ opA → (∀ k, a = some k → es.length = k) → es.length ≤ 8 → (∀ e ∈ es, WE e) → WE (.op [o] es)
  | op2 {o w : List Nat} {es : List Ex} : (o = wCall ∨ o = wNew) → w ∈ nmAll → es.length ≤ 8 → (∀ e ∈ es, WE e) → WE (.op [o, w] es)
theorem nm_len : ∀ w ∈ nmAll, w.length ≤ 8 := by decide
theorem PW.nm {R : Recs} {kw : Kw} {p : List (List Nat)} {k : Kn} (hR : RM R) (hk : ∀ x ∈ kw, x.1 ∈ nmAll) (h : PW R kw p k) : p ≠ [] ∧ ∀ w ∈ p, w ∈ nmAll := by
  induction h with
  | one h => exact ⟨by simp, fun w hw => by simp at hw; subst hw; exact hk _ h⟩
  | @more p w fs f h1 h2 h3 ih =>
    refine ⟨by simp, fun x hx => ?_⟩
    rcases List.mem_append.mp hx with h | h
    · exact ih.2 x h
    · simp at h; subst h
      have := (hR.fn _ (look_mem h2)).subset (List.mem_map.mpr ⟨f, h3, rfl⟩)
      unfold nmAll
      simp only [List.append_assoc]
      exact List.mem_append_left _ this
theorem look_rnm {R : Recs} {w : List Nat} {fs : List Fld} (hn : R.map Prod.fst = rnm.take R.length) (h : look R w = some fs) : w ∈ nmAll := by
  have h1 : w ∈ R.map Prod.fst := List.mem_map.mpr ⟨(w, fs), look_mem h, rfl⟩
  rw [hn] at h1
  have h2 := List.mem_of_mem_take h1
  unfold nmAll
  exact List.mem_append_left _ (List.mem_append_right _ h2)
theorem heads_hnm {hs : List Hea} {x : Hea} (hn : hs.map Hea.w = hnm.take hs.length) (h : x ∈ hs) : x.w ∈ nmAll := by
  have h1 : x.w ∈ hs.map Hea.w := List.mem_map.mpr ⟨x, h, rfl⟩
  rw [hn] at h1
  have h2 := List.mem_of_mem_take h1
  unfold nmAll
  exact List.mem_append_left _ (List.mem_append_left _ (List.mem_append_right _ h2))
theorem FO.we {R : Recs} {hs : List Hea} {k : Kn} {f : Fm} (hRn : R.map Prod.fst = rnm.take R.length) (hR : RM R) (hh : hs.map Hea.w = hnm.take hs.length) (ho : ∀ x ∈ hs, HOk R x) (h : FO R hs k f) :
    (∃ o a, f.hd = [o] ∧ (o, a) ∈ opA ∧ (∀ k, a = some k → f.ks.length = k) ∧ f.ks.length ≤ 8) ∨ (∃ o w, f.hd = [o, w] ∧ (o = wCall ∨ o = wNew) ∧ w ∈ nmAll ∧ f.ks.length ≤ 8) := by
  cases h with
  | num h =>
    refine .inl ?_
    have : ∀ f ∈ numOps ++ eithOps, ∃ o a, f.hd = [o] ∧ (o, a) ∈ opA ∧ (∀ k, a = some k → f.ks.length = k) ∧ f.ks.length ≤ 8 := by
      intro f hf
      simp only [numOps, eithOps, List.cons_append, List.nil_append, List.mem_cons, List.not_mem_nil, or_false] at hf
      rcases hf with rfl | rfl | rfl | rfl | rfl | rfl | rfl | rfl | rfl | rfl | rfl | rfl | rfl
      all_goals first
        | exact ⟨_, some 2, rfl, by decide, fun k e => by cases e; rfl, by decide⟩
        | exact ⟨_, some 3, rfl, by decide, fun k e => by cases e; rfl, by decide⟩
        | exact ⟨_, some 1, rfl, by decide, fun k e => by cases e; rfl, by decide⟩
    exact this f h
  | row h =>
    refine .inl ?_
    simp only [rowOps, List.mem_cons, List.not_mem_nil, or_false] at h
    rcases h with rfl | rfl | rfl | rfl
    · exact ⟨_, some 3, rfl, by decide, fun k e => by cases e; rfl, by decide⟩
    · exact ⟨_, some 2, rfl, by decide, fun k e => by cases e; rfl, by decide⟩
    · exact ⟨_, none, rfl, by decide, fun k e => (by cases e), by decide⟩
    · exact ⟨_, none, rfl, by decide, fun k e => (by cases e), by simp⟩
  | @new w fs h =>
    refine .inr ⟨_, _, rfl, .inr rfl, look_rnm hRn h, ?_⟩
    have h4 : fs.length ≤ 4 := hR.fl _ (look_mem h)
    simp; omega
  | @call x h =>
    refine .inr ⟨_, _, rfl, .inl rfl, heads_hnm hh h, ?_⟩
    have := (ho x h).le
    simp; omega
theorem zip_all {α β : Type} {P : α → Prop} : ∀ {as : List α} {bs : List β}, as.length = bs.length → (∀ x ∈ as.zip bs, P x.1) → ∀ a ∈ as, P a
  | [], _, _, _, a, h => by cases h
  | a :: as, [], h, _, _, _ => by simp at h
  | a :: as, b :: bs, h, hp, x, hx => by
    rcases List.mem_cons.mp hx with rfl | hx
    · exact hp (x, b) (by simp)
    · exact zip_all (by simpa using h) (fun y hy => hp y (by simp [hy])) x hx
theorem TE.we {R : Recs} {kw : Kw} {hs : List Hea} (V : EV R kw hs) (hRn : R.map Prod.fst = rnm.take R.length) (hh : hs.map Hea.w = hnm.take hs.length) {e : Ex} {k : Kn} (h : TE R kw hs e k) : WE e := by
  induction h with
  | num h1 h2 => exact .num h1 h2
  | of_ h1 h2 h3 => exact .of_ h3 (h1.nm V.R_ V.kw_.nm).1 (h1.nm V.R_ V.kw_.nm).2
  | @op k f es h1 h2 h3 ih =>
    have ih' : ∀ e ∈ es, WE e := zip_all h2 ih
    rcases h1.we hRn V.R_ hh V.ho with ⟨o, a, e1, e2, e3, e4⟩ | ⟨o, w, e1, e2, e3, e4⟩
    · rw [e1]; exact .op1 e2 (fun k hk => h2.trans (e3 k hk)) (by omega) ih'
    · rw [e1]; exact .op2 e2 e3 (by omega) ih'
  | make0 => exact .op1 (a := none) (by decide) (fun k e => by cases e) (by simp) (by simp)
noncomputable def LLs (x : PV) (st : Sto) (ws : List (List Nat)) : Prop := x = .lst (ws.map .str) ∨ ∃ m, x = .loc m ∧ st[m]? = some (.lst (ws.map .str))
theorem LLs.get {x : PV} {st : Sto} {ws : List (List Nat)} (h : LLs x st ws) : MP.listOf x st = some (ws.map .str) := by
  rcases h with rfl | ⟨m, rfl, e⟩
  · unfold MP.listOf; rfl
  · unfold MP.listOf; dsimp only; rw [e]
theorem LLs.keep {x : PV} {st st' : Sto} {ws : List (List Nat)} (h : LLs x st ws) (s : Sv [] st st') : LLs x st' ws := by
  rcases h with rfl | ⟨m, rfl, e⟩
  · exact .inl rfl
  · exact .inr ⟨m, rfl, s.at e (by simp)⟩
theorem LLs.len {x : PV} {st : Sto} {ws : List (List Nat)} {Q : PV → Sto → Prop} {E : Exn → Sto → Prop} (h : LLs x st ws) : Z (lenM [x] st) Q E = Q (.int (ws.length : Nat)) st := by
  rcases h with rfl | ⟨m, rfl, e⟩
  · simp
  · simp [e]
theorem lg_small {m : Int} (h : m.natAbs < 1000000) : m.natAbs.log2 < 1920 := by
  by_cases h0 : m.natAbs = 0
  · rw [h0]; decide
  · exact Nat.lt_of_lt_of_le ((Nat.log2_lt h0).mpr (show m.natAbs < 2 ^ 20 by omega)) (by decide)
section
variable {n : Nat}
theorem words_go {d : Nat} {a0 a2 : Option PV} {QF : Fl → Sto → Prop} {E : Exn → Sto → Prop} (ih : ∀ (e : Ex) (st : Sto) (Q : PV → Sto → Prop) (E : Exn → Sto → Prop), WE e → wdE e ≤ d → (∀ x st', Sv [] st st' → LLs x st' (wsE e) → Q x st') → Z (F__law_words_of n d [encE e] st) Q E) :
    ∀ (es : List Ex) (m : Nat) (ws : List (List Nat)) (st : Sto) (a3 : Option PV), (∀ e ∈ es, WE e) → wdEs es ≤ d → st[m]? = some (.lst (ws.map .str)) → ws.length + wdEs es ≤ 100000 →
    (∀ m' st' a3, Sv [] st st' → st'[m']? = some (.lst ((ws ++ wsEs es).map .str)) → QF (.next [a0, some (.loc m'), a2, a3]) st') →
    Z (forL (gN 3) (L0__law_words_of n (F__law_words_of n d)) (encEs es) [a0, some (.loc m), a2, a3] st) QF E
  | [], m, ws, st, a3, he, hd, hm, hl, hq => by rw [encEs, Z_forL_nil]; exact hq m st _ (Sv.refl _ _) (by simpa [wsEs] using hm)
  | e :: es, m, ws, st, a3, he, hd, hm, hl, hq => by
    simp only [wdEs] at hd hl
    rw [encEs, Z_forL]
    simp
    rw [zL0__law_words_of]
    simp
    refine ih e st _ _ (he e (by simp)) (by omega) fun y st1 s1 hy => ?_
    have hm1 := s1.at hm (by simp)
    have g1 : MP.listOf (.loc m) st1 = some (ws.map .str) := by unfold MP.listOf; dsimp only; rw [hm1]
    have hlen := wsE_len e
    rw [kB2_at, Z_addN g1 hy.get (by simp; omega)]
    simp
    refine words_go ih es st1.length (ws ++ wsE e) _ _ (fun y hy => he y (by simp [hy])) (by omega) (by simp) (by simp; omega) fun m' st2 a3 s2 h2 => hq m' st2 _ ((s1.trans Sv.app).trans s2) (by simpa [wsEs] using h2)
theorem joinL_len {a : List Nat} : ∀ (p : List (List Nat)), (∀ w ∈ p, w.length ≤ 8) → (p.map (·.length)).sum ≤ 8 * p.length
  | [], _ => by simp
  | w :: p, h => by
    have h1 := h w (by simp)
    have h2 := joinL_len (a := a) p fun y hy => h y (by simp [hy])
    simp only [List.map_cons, List.sum_cons, List.length_cons]
    omega
theorem op_ne : ∀ x ∈ opA, x.1 ≠ [111, 102] ∧ x.1 ≠ wCall ∧ x.1 ≠ wNew := by decide
theorem words_spec : ∀ (d : Nat) (e : Ex) (st : Sto) (Q : PV → Sto → Prop) (E : Exn → Sto → Prop), WE e → wdE e ≤ d → d ≤ 10000 → (∀ x st', Sv [] st st' → LLs x st' (wsE e) → Q x st') → Z (F__law_words_of n d [encE e] st) Q E
  | 0, e, st, Q, E, he, hd, h0, hq => by cases he <;> simp [wdE] at hd
  | d + 1, e, st, Q, E, he, hd, h0, hq => by
    have ih := fun (e : Ex) (st : Sto) (Q : PV → Sto → Prop) (E : Exn → Sto → Prop) (h1 : WE e) (h2 : wdE e ≤ d) h3 => words_spec d e st Q E h1 h2 (by omega) h3
    rw [z__law_words_of]
    unfold b__law_words_of
    cases he with
    | @num i h1 h2 =>
      simp [encE]
      rw [Z_strI (lg_small (by omega))]
      simp
      exact hq _ _ (Sv.refl _ _) (.inl rfl)
    | @of_ p h1 h2 h3 =>
      have hz : (p.map (·.length)).sum + p.length * ([46] : List Nat).length ≤ 16777216 := by
        have := joinL_len (a := []) p fun w hw => nm_len w (h3 w hw)
        simp only [List.length_singleton]
        omega
      simp [encE]
      rw [Z_join (zs := p) (by rfl) hz]
      simp
      exact hq _ _ (Sv.refl _ _) (.inl rfl)
    | @op1 o a es h1 h2 h3 h4 =>
      obtain ⟨n1, n2, n3⟩ := op_ne _ h1
      dsimp only at n1 n2 n3
      have hwd : wdEs es ≤ d := by simp only [wdE, List.length_singleton] at hd; omega
      have hlen := encEs_len es
      have hcut : cutL (.str o :: encEs es) (some (1 : Int)) none = encEs es := by
        rw [cut_from (by omega) (by simp; omega)]; rfl
      have hin : ∀ (s : Sto) (Q : PV → Sto → Prop) (E : Exn → Sto → Prop), Z (inM false (.str o) (.tup [.str wMake, .str wCall, .str wNew]) s) Q E = Q (.bl (decide (o = wMake))) s := fun s Q E => by
        rw [Z_inP (xs := [.str wMake, .str wCall, .str wNew]) rfl rfl rfl]
        simp [n2, n3]
      simp [encE, n1, n2, n3, hcut, hin]
      by_cases hm : o = wMake
      · subst hm
        simp [hlen]
        rw [Z_strI (lg_small (by omega))]
        simp
        refine words_go ih es st.length [wMake, intS (es.length : Nat)] _ _ h4 (by omega) (by simp) (by simp; omega) fun m' st2 a3 s2 hm2 => ?_
        simp
        refine hq _ _ (Sv.trans Sv.app s2) (.inr ⟨m', rfl, ?_⟩)
        rw [hm2]
        simp [wsE, cntW]
      · simp [hm]
        refine words_go ih es st.length [o] _ _ h4 (by omega) (by simp) (by simp; omega) fun m' st2 a3 s2 hm2 => ?_
        simp
        refine hq _ _ (Sv.trans Sv.app s2) (.inr ⟨m', rfl, ?_⟩)
        rw [hm2]
        simp [wsE, cntW, hm, n2, n3]
    | @op2 o w es h1 h2 h3 h4 =>
      have hwd : wdEs es ≤ d := by simp only [wdE, List.length_cons] at hd; omega
      have hlen := encEs_len es
      have hcut : cutL (.str o :: .str w :: encEs es) (some (2 : Int)) none = encEs es := by
        rw [cut_from (by omega) (by simp; omega)]; rfl
      have hin : ∀ (s : Sto) (Q : PV → Sto → Prop) (E : Exn → Sto → Prop), Z (inM false (.str o) (.tup [.str wMake, .str wCall, .str wNew]) s) Q E = Q (.bl true) s := fun s Q E => by
        rw [Z_inP (xs := [.str wMake, .str wCall, .str wNew]) rfl rfl rfl]
        rcases h1 with rfl | rfl <;> simp
      have hc : cntW [o, w] = true := by rcases h1 with rfl | rfl <;> simp [cntW]
      have fin : ∀ (st1 : Sto) (a : Option PV), Sv [] st st1 → st1[st.length]? = some (.lst ([o, w, intS (es.length : Nat)].map .str)) → Z (forL (gN 3) (L0__law_words_of n (F__law_words_of n d)) (encEs es) [some (encE (.op [o, w] es)), some (.loc st.length), a, none] st1) (seqQ (sRet (eVar 1)) (runQ Q E) E0) E0 := fun st1 a s1 hm1 => by
        refine words_go ih es st.length [o, w, intS (es.length : Nat)] _ _ h4 (by omega) hm1 (by simp; omega) fun m' st2 a3 s2 hm2 => ?_
        simp
        refine hq _ _ (s1.trans s2) (.inr ⟨m', rfl, ?_⟩)
        rw [hm2]
        simp [wsE, hc]
      rcases h1 with rfl | rfl
      · simp [encE, hcut, hin, hlen]
        rw [Z_strI (lg_small (by omega))]
        simp
        simpa [encE] using fin (st ++ [Cell.lst [.str wCall, .str w, .str (intS (es.length : Nat))]]) _ Sv.app (by simp)
      · simp [encE, hcut, hin, hlen]
        rw [Z_strI (lg_small (by omega))]
        simp
        simpa [encE] using fin (st ++ [Cell.lst [.str wNew, .str w, .str (intS (es.length : Nat))]]) _ Sv.app (by simp)
end

end
section
theorem atI_m2 {α : Type} {a b : α} : L2.atI [a, b] (-1) = some b := rfl
theorem atI_m3 {α : Type} {a b c : α} : L2.atI [a, b, c] (-1) = some c := rfl
theorem cut_m2 {α : Type} {a b : α} : cutL [a, b] none (some (-1)) = [a] := rfl
theorem cut_m3 {α : Type} {a b c : α} : cutL [a, b, c] none (some (-1)) = [a, b] := rfl
noncomputable def lsK (R : Recs) (ks : List Kn) : Int := (ks.map fun k => leastD R 8 k).sum
noncomputable def lsF (R : Recs) (f : Fm) : Int := (f.hd.length : Int) + lsK R f.ks + (if cntW f.hd = true then 1 else 0)
noncomputable def lfP (R : Recs) (f : Fm) : PV := .tup [formP f, .int (lsF R f)]
theorem EV.kd8 {R : Recs} {kw : Kw} {hs : List Hea} (V : EV R kw hs) {k : Kn} (h : KIn R k) : KD R 8 k := by
  have h8 := (V.R_.kin h).upn (8 - (R.length + 1))
  have := V.Rl
  rw [show R.length + 1 + (8 - (R.length + 1)) = 8 by omega] at h8
  exact h8
theorem EV.l20 {R : Recs} {kw : Kw} {hs : List Hea} (V : EV R kw hs) {k : Kn} (h : KIn R k) : leastD R 20 k = leastD R 8 k := least_upn (V.kd8 h) 12
theorem EV.lpos {R : Recs} {kw : Kw} {hs : List Hea} (V : EV R kw hs) {k : Kn} (h : KIn R k) : 1 ≤ leastD R 8 k := leastD_pos (V.kd8 h)
theorem EV.lsk {R : Recs} {kw : Kw} {hs : List Hea} (V : EV R kw hs) : ∀ {ks : List Kn}, (∀ k ∈ ks, KIn R k) → 0 ≤ lsK R ks
  | [], _ => by simp [lsK]
  | k :: ks, h => by
    have h1 := V.lpos (h k (by simp))
    have h2 := V.lsk (ks := ks) fun y hy => h y (by simp [hy])
    simp only [lsK, List.map_cons, List.sum_cons] at h2 ⊢
    omega
theorem FO.kin {R : Recs} {kw : Kw} {hs : List Hea} (V : EV R kw hs) {k : Kn} {f : Fm} (h : FO R hs k f) : ∀ k' ∈ f.ks, KOk R k' := by
  have n0 : KOk R .num := ⟨.inl rfl, by show (1 : Int) < 8; decide⟩
  have r0 : KOk R .row := ⟨.inr (.inl rfl), by show (2 : Int) < 8; decide⟩
  have e : ∀ f : Fm, f ∈ numOps ++ eithOps ++ rowOps → ∀ k' ∈ f.ks, k' = .num ∨ k' = .row := by
    intro f hf
    simp only [numOps, eithOps, rowOps, List.cons_append, List.nil_append, List.mem_cons, List.not_mem_nil, or_false] at hf
    rcases hf with rfl | rfl | rfl | rfl | rfl | rfl | rfl | rfl | rfl | rfl | rfl | rfl | rfl | rfl | rfl | rfl | rfl <;> (intro k' hk'; simp at hk'; (try rcases hk' with rfl | rfl) <;> (try subst hk') <;> simp)
  have e' : ∀ f : Fm, f ∈ numOps ++ eithOps ++ rowOps → ∀ k' ∈ f.ks, KOk R k' := fun f hf k' hk' => by
    rcases e f hf k' hk' with rfl | rfl
    · exact n0
    · exact r0
  cases h with
  | num h => exact e' f (List.mem_append_left _ h)
  | row h => exact e' f (List.mem_append_right _ h)
  | @new w fs h =>
    intro k' hk'
    obtain ⟨f, hf, rfl⟩ := List.mem_map.mp hk'
    exact V.R_.fk V.Rl h hf
  | @call x h =>
    intro k' hk'
    obtain ⟨f, hf, rfl⟩ := List.mem_map.mp hk'
    exact (V.ho x h).ps f hf
theorem FO.hd {R : Recs} {hs : List Hea} {k : Kn} {f : Fm} (h : FO R hs k f) : (∃ o, f.hd = [o]) ∨ ∃ o w, f.hd = [o, w] := by
  have e : ∀ f : Fm, f ∈ numOps ++ eithOps ++ rowOps → ∃ o, f.hd = [o] := by
    intro f hf
    simp only [numOps, eithOps, rowOps, List.cons_append, List.nil_append, List.mem_cons, List.not_mem_nil, or_false] at hf
    rcases hf with rfl | rfl | rfl | rfl | rfl | rfl | rfl | rfl | rfl | rfl | rfl | rfl | rfl | rfl | rfl | rfl | rfl <;> exact ⟨_, rfl⟩
  cases h with
  | num h => exact .inl (e f (List.mem_append_left _ h))
  | row h => exact .inl (e f (List.mem_append_right _ h))
  | new h => exact .inr ⟨_, _, rfl⟩
  | call h => exact .inr ⟨_, _, rfl⟩
theorem FO.ksl {R : Recs} {kw : Kw} {hs : List Hea} (V : EV R kw hs) {k : Kn} {f : Fm} (h : FO R hs k f) : f.ks.length ≤ 8 := by
  have e : ∀ f ∈ numOps ++ eithOps ++ rowOps, f.ks.length ≤ 8 := by decide
  cases h with
  | num h => exact e f (List.mem_append_left _ h)
  | row h => exact e f (List.mem_append_right _ h)
  | @new w fs h =>
    have h4 : fs.length ≤ 4 := V.R_.fl _ (look_mem h)
    simp; omega
  | @call x h =>
    have := (V.ho x h).le
    simp; omega
section
variable {n : Nat} {R : Recs} {kw : Kw} {hs : List Hea} {A : Ad} {cc : Bool} {wy : Int} {rest : List (PV × PV)}
theorem GT.setN {st : Sto} {K : Int} {i : Nat} {x : Cell} (G : GT st A cc wy rest R kw hs K) (h : i ≠ A.gc ∧ i ≠ A.kc ∧ i ≠ A.b ∧ i ≠ A.c ∧ i ≠ A.m ∧ i ≠ A.h) : GT (st.set i x) A cc wy rest R kw hs K :=
  ⟨G.B.setN h.2.2.1 h.2.2.2.1, (List.getElem?_set_ne h.1).trans G.g, (List.getElem?_set_ne h.2.1).trans G.k, (List.getElem?_set_ne h.2.2.2.2.1).trans G.m_, (List.getElem?_set_ne h.2.2.2.2.2).trans G.h_, G.a1, G.a2, G.a3⟩
theorem GT.lt {st : Sto} {K : Int} (G : GT st A cc wy rest R kw hs K) : A.gc < st.length ∧ A.kc < st.length ∧ A.b < st.length ∧ A.c < st.length ∧ A.m < st.length ∧ A.h < st.length := ⟨getN G.g, getN G.k, G.B.bl, G.B.cl, getN G.m_, getN G.h_⟩
theorem lsum_go (V : EV R kw hs) {a1 a2 a3 a4 a5 a6 a7 a9 : Option PV} {K : Int} : ∀ (ks : List Kn) (acc : List Int) (st : Sto) (QL : List PV → Sto → Prop) (E : Exn → Sto → Prop), (∀ k ∈ ks, KIn R k) → GT st A cc wy rest R kw hs K → acc.length + ks.length < 1000 → (∀ st', Sv [] st st' → QL ((acc ++ ks.map fun k => leastD R 8 k).map .int) st') →
    Z (lcL (gN 8) tYesM (eCall (F__law_least n 20) (aCons (eBin ixM (eVar 0) (eC (.str [114, 101, 99, 111, 114, 100, 115]))) (aCons (eVar 8) aNil))) [some (.loc A.gc), a1, a2, a3, a4, a5, a6, a7, none, a9] (ks.map kP) (acc.map .int) st) QL E
  | [], acc, st, QL, E, hk, G, hl, hq => by rw [List.map_nil, lc_nil]; simpa using hq st (Sv.refl _ _)
  | k :: ks, acc, st, QL, E, hk, G, hl, hq => by
    have hz : acc.length < 16777216 := by omega
    have hk1 := hk k (by simp)
    simp at hl
    rw [List.map_cons, lc_cons]
    simp [G.g, game_rec]
    refine least_spec (V.R_.rv (by have := V.Rl; omega)).rg 20 k st _ _ ((V.kd8 hk1).upn 12) (.inr ⟨A.m, rfl, G.m_⟩) fun st1 s1 => ?_
    rw [V.l20 hk1]
    simp [hz]
    have e : acc.map PV.int ++ [.int (leastD R 8 k)] = (acc ++ [leastD R 8 k]).map .int := by simp
    rw [e]
    exact lsum_go V ks _ st1 QL E (fun y hy => hk y (by simp [hy])) (G.grow s1) (by simp; omega) fun st2 s2 => by simpa using hq st2 (s1.trans s2)
theorem lform_spec (V : EV R kw hs) {k : Kn} {K room : Int} {gl : Nat} {f : Fm} {got : List Fm} {st : Sto} {a5 a6 : Option PV} {fr : List PV → M PV} {QF : Fl → Sto → Prop} {E : Exn → Sto → Prop} (hf : FW wy R hs k f) (G : GT st A cc wy rest R kw hs K) (hgl : st[gl]? = some (.lst (got.map (lfP R)))) (hl : got.length < 1000)
    (hq1 : lsF R f ≤ room → ∀ st', Sv [] st st' → QF (.next [some (.loc A.gc), some (.loc A.kc), some (kP k), some (.int room), some (.loc gl), some (formP f), some (.int (lsF R f)), none, none, none]) (st'.set gl (.lst ((got ++ [f]).map (lfP R)))))
    (hq2 : ∀ st', Sv [] st st' → QF (.next [some (.loc A.gc), some (.loc A.kc), some (kP k), some (.int room), some (.loc gl), some (formP f), some (.int (lsF R f)), none, none, none]) st') :
    Z (L0__law_expr n fr [some (.loc A.gc), some (.loc A.kc), some (kP k), some (.int room), some (.loc gl), some (formP f), a6, none, none, none] st) QF E := by
  have hz : got.length < 16777216 := by omega
  have hks := hf.1.kin V
  have hkl := hf.1.ksl V
  have hin : ∀ (o : List Nat) (s : Sto) (Q : PV → Sto → Prop) (E : Exn → Sto → Prop), Z (inM false (.str o) (.tup [.str wMake, .str wCall, .str wNew]) s) Q E = Q (.bl (decide (o = wMake ∨ o = wCall ∨ o = wNew))) s := fun o s Q E => by
    rw [Z_inP (xs := [.str wMake, .str wCall, .str wNew]) rfl rfl rfl]
    simp
  have hif : ∀ hd : List (List Nat), (if (decide (hd.headD [] = wMake ∨ hd.headD [] = wCall ∨ hd.headD [] = wNew)) = true then (1 : Int) else 0) = if cntW hd = true then 1 else 0 := fun hd => rfl
  rw [zL0__law_expr]
  rcases hf.1.hd with ⟨o, ho⟩ | ⟨o, w, ho⟩
  · have hfp : formP f = .tup [.str o, .lst (f.ks.map kP)] := by simp [formP, ho]
    have hF : (1 : Int) + lsK R f.ks + (if o = wMake ∨ o = wCall ∨ o = wNew then 1 else 0) = lsF R f := by unfold lsF; rw [ho]; simp [cntW]
    simp [hfp, atI_m2]
    refine lsum_go V f.ks [] st _ _ (fun k hk => (hks k hk).1) G (by simp; omega) fun st1 s1 => ?_
    have hgl1 := s1.at hgl (by simp)
    have hsum : (([] : List Int) ++ f.ks.map fun k => leastD R 8 k) = f.ks.map fun k => leastD R 8 k := rfl
    rw [hsum]
    have hlk : (f.ks.map fun k => leastD R 8 k).sum = lsK R f.ks := rfl
    generalize (f.ks.map fun k => leastD R 8 k) = zs at hlk ⊢
    simp [Z_sumL, hin]
    rw [hlk, hF]
    by_cases hr : lsF R f ≤ room
    · simp [hr, hgl1, hz]
      have := hq1 hr st1 s1
      simpa [lfP, hfp] using this
    · simp [hr]
      simpa [hfp] using hq2 st1 s1
  · have hfp : formP f = .tup [.str o, .str w, .lst (f.ks.map kP)] := by simp [formP, ho]
    have hF : (2 : Int) + lsK R f.ks + (if o = wMake ∨ o = wCall ∨ o = wNew then 1 else 0) = lsF R f := by unfold lsF; rw [ho]; simp [cntW]
    simp [hfp, atI_m3]
    refine lsum_go V f.ks [] st _ _ (fun k hk => (hks k hk).1) G (by simp; omega) fun st1 s1 => ?_
    have hgl1 := s1.at hgl (by simp)
    have hsum : (([] : List Int) ++ f.ks.map fun k => leastD R 8 k) = f.ks.map fun k => leastD R 8 k := rfl
    rw [hsum]
    have hlk : (f.ks.map fun k => leastD R 8 k).sum = lsK R f.ks := rfl
    generalize (f.ks.map fun k => leastD R 8 k) = zs at hlk ⊢
    simp [Z_sumL, hin]
    rw [hlk, hF]
    by_cases hr : lsF R f ≤ room
    · simp [hr, hgl1, hz]
      have := hq1 hr st1 s1
      simpa [lfP, hfp] using this
    · simp [hr]
      simpa [hfp] using hq2 st1 s1
end

end
section
section
variable {n : Nat} {R : Recs} {kw : Kw} {hs : List Hea} {A : Ad} {cc : Bool} {wy : Int} {rest : List (PV × PV)}
theorem lform_go (V : EV R kw hs) {k : Kn} {K room : Int} {fc gl : Nat} {fl : List Fm} {fr : List PV → M PV} {QF : Fl → Sto → Prop} {E : Exn → Sto → Prop} (ng : gl ≠ fc) (na : gl ≠ A.gc ∧ gl ≠ A.kc ∧ gl ≠ A.b ∧ gl ≠ A.c ∧ gl ≠ A.m ∧ gl ≠ A.h) :
    ∀ (fs : List Fm) (got : List Fm) (st : Sto) (a5 a6 : Option PV), (∀ f ∈ fs, FW wy R hs k f) → GT st A cc wy rest R kw hs K → st[fc]? = some (.lst (fl.map formP)) → st[gl]? = some (.lst (got.map (lfP R))) → got.length + fs.length < 1000 → (∀ f ∈ got, FW wy R hs k f ∧ lsF R f ≤ room) →
    (∀ st' (got' : List Fm) a5 a6, GT st' A cc wy rest R kw hs K → Sv [gl] st st' → st'[gl]? = some (.lst (got'.map (lfP R))) → got'.length ≤ got.length + fs.length → (∀ f ∈ got', FW wy R hs k f ∧ lsF R f ≤ room) → QF (.next [some (.loc A.gc), some (.loc A.kc), some (kP k), some (.int room), some (.loc gl), a5, a6, none, none, none]) st') →
    Z (forG (gd fc (fl.map formP)) (gN 5) (L0__law_expr n fr) (fs.map formP) [some (.loc A.gc), some (.loc A.kc), some (kP k), some (.int room), some (.loc gl), a5, a6, none, none, none] st) QF E
  | [], got, st, a5, a6, hf, G, hfc, hgl, hl, hg, hq => by
    rw [List.map_nil, Z_forG_nil (gd_of hfc)]
    exact hq st got _ _ G (Sv.refl _ _) hgl (by simp) hg
  | f :: fs, got, st, a5, a6, hf, G, hfc, hgl, hl, hg, hq => by
    simp at hl
    rw [List.map_cons, Z_forG (gd_of hfc)]
    simp
    refine lform_spec (a5 := none) V (hf f (by simp)) G hgl (by omega) (fun hr st1 s1 => ?_) fun st1 s1 => ?_
    · simp
      have e : got.map (lfP R) ++ [lfP R f] = (got ++ [f]).map (lfP R) := by simp
      rw [e]
      refine lform_go V ng na fs (got ++ [f]) _ _ _ (fun y hy => hf y (by simp [hy])) ((G.grow s1).setN na) ((List.getElem?_set_ne ng).trans (s1.at hfc (by simp))) (List.getElem?_set_self (getN (s1.at hgl (by simp)))) (by simp; omega) ?_ fun st2 got2 a5 a6 G2 s2 h2 l2 g2 => ?_
      · intro y hy
        rcases List.mem_append.mp hy with h | h
        · exact hg y h
        · simp at h; subst h; exact ⟨hf y (by simp), hr⟩
      · exact hq st2 got2 _ _ G2 (((s1.mono (by simp)).trans (Sv.set (by simp))).trans s2) h2 (by simp at l2 ⊢; omega) g2
    · simp
      exact lform_go V ng na fs got _ _ _ (fun y hy => hf y (by simp [hy])) (G.grow s1) (s1.at hfc (by simp)) (s1.at hgl (by simp)) (by omega) hg fun st2 got2 a5 a6 G2 s2 h2 l2 g2 => hq st2 got2 _ _ G2 ((s1.mono (by simp)).trans s2) h2 (by simp; omega) g2
noncomputable def XPost (st : Sto) (A : Ad) (cc : Bool) (wy : Int) (rest : List (PV × PV)) (R : Recs) (kw : Kw) (hs : List Hea) (K room : Int) (k : Kn) (Q : PV → Sto → Prop) : Prop :=
  ∀ e st', TE R kw hs e k → (wdE e : Int) ≤ room → (nwE e : Int) ≤ wy → GT st' A cc (wy - nwE e) rest R kw hs (K + 4 * wdE e) → Sv [A.b, A.c, A.gc] st st' → Q (encE e) st'
theorem args_go (V : EV R kw hs) (hRn : R.map Prod.fst = rnm.take R.length) (hhn : hs.map Hea.w = hnm.take hs.length) {d : Nat} {room c0 : Int} {wc : Nat} {a2 a4 a5 : Option PV} (hc0 : 1 ≤ c0) (hrd : room ≤ d + 1) (hr12 : room ≤ 12) (nw : wc ≠ A.gc ∧ wc ≠ A.kc ∧ wc ≠ A.b ∧ wc ≠ A.c ∧ wc ≠ A.m ∧ wc ≠ A.h)
    (ih : ∀ (k : Kn) (room : Int) (st : Sto) (wy K : Int) (Q : PV → Sto → Prop) (E : Exn → Sto → Prop), KIn R k → leastD R 8 k ≤ room → room ≤ d → room ≤ 12 → GT st A cc wy rest R kw hs K → 0 ≤ wy → K + 4 * room < 500000000 → XPost st A cc wy rest R kw hs K room k Q → Z (F__law_expr n d [.loc A.gc, .loc A.kc, kP k, .int room] st) Q E) {QF : Fl → Sto → Prop} {E : Exn → Sto → Prop} :
    ∀ (ks : List Kn) (es : List Ex) (L : Int) (st : Sto) (wy K : Int) (a8 a9 : Option PV), (∀ k ∈ ks, KIn R k) → GT st A cc wy rest R kw hs K → 0 ≤ wy → K + 4 * (room - c0 - wdEs es) < 500000000 → st[wc]? = some (.lst (encEs es)) → L = c0 + wdEs es + lsK R ks → L ≤ room → es.length + ks.length < 1000 →
    (∀ st' (es' : List Ex) a8 a9, es'.length = ks.length → (∀ x ∈ es'.zip ks, TE R kw hs x.1 x.2) → c0 + wdEs es + wdEs es' ≤ room → (nwEs es' : Int) ≤ wy → GT st' A cc (wy - nwEs es') rest R kw hs (K + 4 * wdEs es') → Sv [A.b, A.c, A.gc, wc] st st' → st'[wc]? = some (.lst (encEs (es ++ es'))) → QF (.next [some (.loc A.gc), some (.loc A.kc), a2, some (.int room), a4, a5, some (.int (c0 + wdEs es + wdEs es')), some (.loc wc), a8, a9]) st') →
    Z (forL (gN 8) (L1__law_expr n (F__law_expr n d)) (ks.map kP) [some (.loc A.gc), some (.loc A.kc), a2, some (.int room), a4, a5, some (.int L), some (.loc wc), a8, a9] st) QF E
  | [], es, L, st, wy, K, a8, a9, hk, G, h0, hK, hw, hL, hLr, hl, hq => by
    rw [List.map_nil, Z_forL_nil]
    have hs0 : lsK R [] = 0 := rfl
    have := hq st [] a8 a9 rfl (by simp) (by simp only [wdEs]; omega) (by simp only [nwEs]; omega) (by simpa [nwEs, wdEs] using G) (Sv.refl _ _) (by simpa using hw)
    rw [show L = c0 + wdEs es + wdEs ([] : List Ex) by simp only [wdEs]; omega]
    exact this
  | k :: ks, es, L, st, wy, K, a8, a9, hk, G, h0, hK, hw, hL, hLr, hl, hq => by
    have hk1 := hk k (by simp)
    have hks := fun y (hy : y ∈ ks) => hk y (List.mem_cons_of_mem _ hy)
    have e1 : lsK R (k :: ks) = leastD R 8 k + lsK R ks := by simp [lsK]
    have p1 := V.lpos hk1
    have p2 := V.lsk hks
    have hz : (encEs es).length < 16777216 := by rw [encEs_len]; simp at hl; omega
    simp at hl
    rw [List.map_cons, Z_forL]
    simp
    rw [zL1__law_expr]
    simp [G.g, game_rec]
    refine least_spec (V.R_.rv (by have := V.Rl; omega)).rg 20 k st _ _ ((V.kd8 hk1).upn 12) (.inr ⟨A.m, rfl, G.m_⟩) fun st1 s1 => ?_
    rw [V.l20 hk1]
    have G1 := G.grow s1
    simp
    refine ih k (room - (L - leastD R 8 k)) st1 wy K _ _ hk1 (by omega) (by omega) (by omega) G1 h0 (by omega) fun e st2 he hwd hnw G2 s2 => ?_
    have hw1 := s1.at hw (by simp)
    have hw2 := s2.at hw1 (by simp; exact ⟨nw.2.2.1, nw.2.2.2.1, nw.1⟩)
    simp [hw2, hz]
    have hw3 : (st2.set wc (.lst (encEs es ++ [encE e])))[wc]? = some (.lst (encEs (es ++ [e]))) := by
      rw [List.getElem?_set_self (getN hw2), encEs_app]; rfl
    refine words_spec 20 e _ _ _ (he.we V hRn hhn) (by omega) (by omega) fun y st3 s3 hy => ?_
    simp
    rw [hy.len, wsE_len]
    simp
    refine args_go V hRn hhn hc0 hrd hr12 nw ih ks (es ++ [e]) _ st3 (wy - nwE e) (K + 4 * wdE e) _ _ hks ((G2.setN nw).grow s3) (by omega) (by rw [wdEs_app]; simp only [wdEs]; omega) (s3.at hw3 (by simp)) (by rw [wdEs_app]; simp only [wdEs]; omega) (by omega) (by simp; omega) fun st4 es4 a8 a9 q1 q2 q3 q4 G4 s4 q5 => ?_
    rw [wdEs_app] at q3
    simp only [wdEs] at q3
    have hqq := hq st4 (e :: es4) a8 a9 (by simp [q1]) (by
      intro x hx
      simp only [List.zip_cons_cons] at hx
      rcases List.mem_cons.mp hx with rfl | hx
      · exact he
      · exact q2 x hx) (by simp only [wdEs]; omega) (by simp only [nwEs]; omega) (by
        have e2 : wy - ((nwEs (e :: es4) : Nat) : Int) = wy - nwE e - nwEs es4 := by simp only [nwEs]; omega
        rw [e2]
        exact G4.mono (by simp only [wdEs]; omega)) ((((s1.mono (by simp)).trans (s2.mono (by simp <;> omega))).trans (Sv.set (by simp))).trans ((s3.mono (by simp)).trans s4)) (by simpa using q5)
    have e3 : c0 + ((wdEs (es ++ [e]) : Nat) : Int) + wdEs es4 = c0 + wdEs es + ((wdEs (e :: es4) : Nat) : Int) := by rw [wdEs_app]; simp only [wdEs]; omega
    rw [e3]
    exact hqq
end

end
section
noncomputable def RO (rest : List (PV × PV)) : Prop := (∀ p ∈ rest, p.1 ≠ gWay) ∧ rest.length ≤ 10
theorem game_put {b m h : Nat} {w w' : Int} {rest : List (PV × PV)} (hr : ∀ p ∈ rest, p.1 ≠ gWay) : putP (gameP b m h w rest) gWay (.int w') = gameP b m h w' rest := by
  have e : rest.map (fun kv => if kv.1 = gWay then (kv.1, PV.int w') else kv) = rest := by
    refine (List.map_congr_left fun x hx => ?_).trans (List.map_id _)
    simp [hr x hx]
  simp [putP, gameP, e]
section
variable {n : Nat} {R : Recs} {kw : Kw} {hs : List Hea} {A : Ad} {cc : Bool} {wy : Int} {rest : List (PV × PV)}
theorem GT.way {st : Sto} {K : Int} (wy' : Int) (G : GT st A cc wy rest R kw hs K) : GT (st.set A.gc (.dct (gameP A.b A.m A.h wy' rest))) A cc wy' rest R kw hs K :=
  ⟨G.B.setN G.a1.1 G.a1.2.1, List.getElem?_set_self (getN G.g), (List.getElem?_set_ne G.a1.2.2.1).trans G.k, (List.getElem?_set_ne G.a1.2.2.2.1).trans G.m_, (List.getElem?_set_ne G.a1.2.2.2.2).trans G.h_, G.a1, G.a2, G.a3⟩
noncomputable def xtail (n d : Nat) : Rho → M Fl :=
  (sSeq (sSet 7 (eCall mkLstN aNil))
  (sSeq (sFor (iSeq (eBin ixM (eVar 5) (eUn negV (eC (.int 1))))) (gN 8) (L1__law_expr n (F__law_expr n d)))
  (sRet (eBin addV (eSl slM (eVar 5) oNone (oSome (eUn negV (eC (.int 1))))) (eCall tupleM (aCons (eVar 7) aNil))))))
theorem xtail_spec (V : EV R kw hs) (hRn : R.map Prod.fst = rnm.take R.length) (hhn : hs.map Hea.w = hnm.take hs.length) {d : Nat}
    (ih : ∀ (k : Kn) (room : Int) (st : Sto) (wy K : Int) (Q : PV → Sto → Prop) (E : Exn → Sto → Prop), KIn R k → leastD R 8 k ≤ room → room ≤ d → room ≤ 12 → GT st A cc wy rest R kw hs K → 0 ≤ wy → K + 4 * room < 500000000 → XPost st A cc wy rest R kw hs K room k Q → Z (F__law_expr n d [.loc A.gc, .loc A.kc, kP k, .int room] st) Q E)
    {k : Kn} {f : Fm} {room K : Int} {st : Sto} {a4 : Option PV} {QF : Fl → Sto → Prop} {E : Exn → Sto → Prop} (hf : FO R hs k f) (hls : lsF R f ≤ room) (hrd : room ≤ d + 1) (hr12 : room ≤ 12) (G : GT st A cc wy rest R kw hs K) (h0 : 0 ≤ wy) (hK : K + 4 * (room - 1) < 500000000)
    (hq : ∀ es st', TE R kw hs (.op f.hd es) k → (wdE (.op f.hd es) : Int) ≤ room → (nwEs es : Int) ≤ wy → GT st' A cc (wy - nwEs es) rest R kw hs (K + 4 * wdEs es) → Sv [A.b, A.c, A.gc] st st' → QF (.ret (encE (.op f.hd es))) st') :
    Z (xtail n d [some (.loc A.gc), some (.loc A.kc), some (kP k), some (.int room), a4, some (formP f), some (.int (lsF R f)), none, none, none] st) QF E := by
  have hks := hf.kin V
  have hkl := hf.ksl V
  have lt := G.lt
  have hc : (0 : Int) ≤ (if cntW f.hd = true then 1 else 0) := by split <;> omega
  have h1 : 1 ≤ f.hd.length := by rcases hf.hd with ⟨o, h⟩ | ⟨o, w, h⟩ <;> rw [h] <;> simp
  have key : ∀ (QF' : Fl → Sto → Prop) (E' : Exn → Sto → Prop), (∀ es st' a8 a9 L, TE R kw hs (.op f.hd es) k → (wdE (.op f.hd es) : Int) ≤ room → (nwEs es : Int) ≤ wy → es.length ≤ 8 → GT st' A cc (wy - nwEs es) rest R kw hs (K + 4 * wdEs es) → Sv [A.b, A.c, A.gc] st st' → st'[st.length]? = some (.lst (encEs es)) → QF' (.next [some (.loc A.gc), some (.loc A.kc), some (kP k), some (.int room), a4, some (formP f), some (.int L), some (.loc st.length), a8, a9]) st') →
      Z (forL (gN 8) (L1__law_expr n (F__law_expr n d)) (f.ks.map kP) [some (.loc A.gc), some (.loc A.kc), some (kP k), some (.int room), a4, some (formP f), some (.int (lsF R f)), some (.loc st.length), none, none] (st ++ [.lst []])) QF' E' := fun QF' E' hq' => by
    refine args_go V hRn hhn (c0 := (f.hd.length : Int) + (if cntW f.hd = true then 1 else 0)) (by omega) hrd hr12 ⟨by omega, by omega, by omega, by omega, by omega, by omega⟩ ih f.ks [] _ _ wy K _ _ (fun y hy => (hks y hy).1) (G.grow Sv.app) h0 (by simp only [wdEs]; omega) (by simp [encEs]) (by unfold lsF; simp only [wdEs]; omega) hls (by simp; omega) fun st' es a8 a9 q1 q2 q3 q4 G' s' q5 => ?_
    simp only [wdEs] at q3
    refine hq' es st' a8 a9 _ (.op hf q1 q2) ?_ q4 (by omega) G' ?_ (by simpa using q5)
    · simp only [wdE]
      cases hcw : cntW f.hd <;> simp [hcw] at q3 ⊢ <;> omega
    · exact ⟨by have := s'.len; simp at this; omega, fun i hi hx => by
        rw [s'.keep i (by simp; omega) (by simp at hx ⊢; omega), List.getElem?_append_left hi]⟩
  unfold xtail
  rcases hf.hd with ⟨o, ho⟩ | ⟨o, w, ho⟩
  · have hfp : formP f = .tup [.str o, .lst (f.ks.map kP)] := by simp [formP, ho]
    simp [hfp, atI_m2]
    rw [hfp] at key
    refine key _ _ fun es st' a8 a9 L q1 q2 q3 q4 G' s' q5 => ?_
    have hz : 1 + (encEs es).length ≤ 16777216 := by rw [encEs_len]; omega
    simp [cut_m2, q5, hz]
    have := hq es st' q1 q2 q3 G' s'
    simpa [encE, ho] using this
  · have hfp : formP f = .tup [.str o, .str w, .lst (f.ks.map kP)] := by simp [formP, ho]
    simp [hfp, atI_m3]
    rw [hfp] at key
    refine key _ _ fun es st' a8 a9 L q1 q2 q3 q4 G' s' q5 => ?_
    have hz : 2 + (encEs es).length ≤ 16777216 := by rw [encEs_len]; omega
    simp [cut_m3, q5, hz]
    have := hq es st' q1 q2 q3 G' s'
    simpa [encE, ho] using this
end

end
section
section
variable {n : Nat} {R : Recs} {kw : Kw} {hs : List Hea} {A : Ad} {cc : Bool} {rest : List (PV × PV)}
theorem expr_eq (n d : Nat) : b__law_expr n (F__law_expr n d) = (sSeq (sSet 4 (eCall mkLstN aNil))
  (sSeq (sForC id (iCell (eCall (F__law_forms n) (aCons (eVar 0) (aCons (eVar 2) aNil)))) (gN 5) (L0__law_expr n (F__law_expr n d)))
  (sSeq (sIf (tOrM (eB (eBin eqM (eVar 4) (eCall mkLst aNil))) (eB (eBin eqM (eCall (F__law_take n) (aCons (eBin ixM (eVar 0) (eC (.str [98, 111, 120]))) (aCons (eC (.int 3)) aNil))) (eC (.int 0))))) (sRet (eCall (F__law_plain n 20) (aCons (eVar 0) (aCons (eVar 1) (aCons (eVar 2) aNil))))) sNext)
  (sSeq (sAsg (eBin ixM (eVar 4) (eCall (F__law_take n) (aCons (eBin ixM (eVar 0) (eC (.str [98, 111, 120]))) (aCons (eCall lenM (aCons (eVar 4) aNil)) aNil)))) (gT 2 (gsCons (gN 5) (gsCons (gN 6) gsNil))))
  (sSeq (sIf (eB (eBin (inM false) (eBin ixM (eVar 5) (eC (.int 0))) (eCall mkTup (aCons (eC (.str [97, 110, 100])) (aCons (eC (.str [111, 114])) (aCons (eC (.str [99, 97, 108, 108])) aNil)))))) (sAsg (eBin subV (eBin ixM (eVar 0) (eC (.str [119, 97, 121, 115]))) (eC (.int 1))) (gSubM (eVar 0) (eC (.str [119, 97, 121, 115])))) sNext)
  (xtail n d)))))) := by unfold b__law_expr xtail; rfl
theorem expr_spec (V : EV R kw hs) (hRn : R.map Prod.fst = rnm.take R.length) (hhn : hs.map Hea.w = hnm.take hs.length) (hrw : RO rest) : ∀ (d : Nat) (k : Kn) (room : Int) (st : Sto) (wy K : Int) (Q : PV → Sto → Prop) (E : Exn → Sto → Prop), KIn R k → leastD R 8 k ≤ room → room ≤ d → room ≤ 12 → GT st A cc wy rest R kw hs K → 0 ≤ wy → K + 4 * room < 500000000 → XPost st A cc wy rest R kw hs K room k Q → Z (F__law_expr n d [.loc A.gc, .loc A.kc, kP k, .int room] st) Q E
  | 0, k, room, st, wy, K, Q, E, hk, hlr, hrd, hr12, G, h0, hK, hq => by
    have := V.lpos hk
    omega
  | d + 1, k, room, st, wy, K, Q, E, hk, hlr, hrd, hr12, G, h0, hK, hq => by
    have lp := V.lpos hk
    have pl : ∀ (st1 : Sto) (K1 : Int) (Q' : PV → Sto → Prop) (E' : Exn → Sto → Prop), GT st1 A cc wy rest R kw hs K1 → K1 ≤ K + 1 → Sv [A.b, A.c, A.gc] st st1 → (∀ v s, Q v s → Q' v s) → Z (F__law_plain n 20 [.loc A.gc, .loc A.kc, kP k] st1) Q' E' := fun st1 K1 Q' E' G1 h1 s1 hQ => by
      refine plain_spec V 20 k st1 K1 _ _ ((V.kd8 hk).upn 12) G1 (by rw [V.l20 hk]; omega) fun e st2 he hw hn G2 s2 => ?_
      rw [V.l20 hk] at hw
      have hp : 1 ≤ wdE e := by
        have := he.we V hRn hhn
        cases this <;> simp only [wdE, List.length_cons] <;> omega
      exact hQ _ _ (hq e st2 he (by omega) (by omega) (by rw [hn]; simpa using G2.mono (by omega)) (s1.trans (s2.mono (by simp <;> omega))))
    have lt := G.lt
    have Ga : GT (st ++ [.lst []]) A cc wy rest R kw hs K := G.grow Sv.app
    rw [z__law_expr, expr_eq]
    simp
    refine forms_spec V.R_ V.Rl V.hl V.ho hk Ga.g Ga.m_ Ga.h_ fun st1 fc fl s1 hfc hf hfl hfo => ?_
    have G1 : GT st1 A cc wy rest R kw hs K := Ga.grow s1
    have hgl1 : st1[st.length]? = some (.lst (([] : List Fm).map (lfP R))) := s1.at (by simp) (by simp)
    have l1 := s1.len
    simp at hfc l1
    simp [kCell_at hf]
    refine lform_go V (gl := st.length) (by omega) ⟨by omega, by omega, by omega, by omega, by omega, by omega⟩ fl [] st1 _ _ hfo G1 hf hgl1 (by simp; omega) (by simp) fun st2 got a5 a6 G2 s2 hgl2 hl2 hgot => ?_
    have l2 := s2.len
    simp at hl2
    simp [Z_eqL hgl2]
    have sv2 : Sv [A.b, A.c, A.gc] st st2 := ⟨by omega, fun i hi hx => by
      rw [s2.keep i (by omega) (by simp; omega), s1.keep i (by simp; omega) (by simp), List.getElem?_append_left hi]⟩
    by_cases hge : got = []
    · subst hge
      simp
      exact pl st2 K _ _ G2 (by omega) sv2 fun v s h => by simpa using h
    · have hpos := List.length_pos_iff.mpr hge
      have hemp : got.isEmpty = false := by cases got with | nil => exact absurd rfl hge | cons _ _ => rfl
      simp [hemp, G2.g, game_box]
      refine takeX G2.B (fun i st3 i0 i1 B3 s3 => ?_)
      have G3 := G2.sv s3.sv B3
      have hgl3 : st3[st.length]? = some (.lst (got.map (lfP R))) := s3.at hgl2 (by omega) (by omega)
      have sv3 : Sv [A.b, A.c, A.gc] st st3 := sv2.trans (s3.sv.mono (by simp <;> omega))
      by_cases hi : i = 0
      · simp [hi]
        exact pl st3 (K + 1) _ _ G3 (by omega) sv3 fun v s h => by simpa using h
      · simp [hi, hgl3, G3.g, game_box]
        refine takeX B3 (fun j st4 j0 j1 B4 s4 => ?_) (by omega) (by omega) (Nat.lt_of_le_of_lt (Nat.log2_le_self _) (by omega))
        have G4 := G3.sv s4.sv B4
        have sv4 : Sv [A.b, A.c, A.gc] st st4 := sv3.trans (s4.sv.mono (by simp <;> omega))
        have hgl4 : st4[st.length]? = some (.lst (got.map (lfP R))) := s4.at hgl3 (by omega) (by omega)
        have hat := atI_of (xs := got.map (lfP R)) j0 (by simpa using j1)
        simp at hat
        obtain ⟨f, hfe⟩ : ∃ f, f = got[j.toNat]'(by omega) := ⟨_, rfl⟩
        obtain ⟨hfw, hfr⟩ := hgot _ (List.getElem_mem (show j.toNat < got.length by omega))
        rw [← hfe] at hat hfw hfr
        have hin : ∀ (o : List Nat) (s : Sto) (Q : PV → Sto → Prop) (E : Exn → Sto → Prop), Z (inM false (.str o) (.tup [.str wAnd, .str wOr, .str wCall]) s) Q E = Q (.bl (decide (o = wAnd ∨ o = wOr ∨ o = wCall))) s := fun o s Q E => by
          rw [Z_inP (xs := [.str wAnd, .str wOr, .str wCall]) rfl rfl rfl]
          simp
        have h0f : ∃ o, (∃ xs, formP f = .tup (.str o :: xs)) ∧ wayW f.hd = decide (o = wAnd ∨ o = wOr ∨ o = wCall) := by
          rcases hfw.1.hd with ⟨o, ho⟩ | ⟨o, w, ho⟩
          · exact ⟨o, ⟨[.lst (f.ks.map kP)], by simp [formP, ho]⟩, by rw [ho]; rfl⟩
          · exact ⟨o, ⟨[.str w, .lst (f.ks.map kP)], by simp [formP, ho]⟩, by rw [ho]; rfl⟩
        obtain ⟨o, ⟨xs, hfp⟩, hway⟩ := h0f
        simp [hgl4, hat, lfP, hfp, hin]
        have fin : ∀ (st5 : Sto) (wy5 : Int) (E' : Exn → Sto → Prop), GT st5 A cc wy5 rest R kw hs (K + 2) → 0 ≤ wy5 → wy5 = wy - (if wayW f.hd = true then 1 else 0) → Sv [A.b, A.c, A.gc] st st5 → Z (xtail n d [some (.loc A.gc), some (.loc A.kc), some (kP k), some (.int room), some (.loc st.length), some (formP f), some (.int (lsF R f)), none, none, none] st5) (runQ Q E) E' := fun st5 wy5 E' G5 w0 w1 s5 => by
          refine xtail_spec V hRn hhn (fun k room st wy K Q E h1 h2 h3 h4 h5 h6 h7 h8 => expr_spec V hRn hhn hrw d k room st wy K Q E h1 h2 h3 h4 h5 h6 h7 h8) hfw.1 hfr (by omega) hr12 G5 w0 (by omega) fun es st6 q1 q2 q3 G6 s6 => ?_
          simp
          have hnw : ((nwE (.op f.hd es) : Nat) : Int) = (if wayW f.hd = true then 1 else 0) + nwEs es := by simp only [nwE]; split <;> simp
          have hwd : (wdEs es : Int) + 1 ≤ wdE (.op f.hd es) := by
            simp only [wdE]
            have : 1 ≤ f.hd.length := by rcases hfw.1.hd with ⟨o, h⟩ | ⟨o, w, h⟩ <;> rw [h] <;> simp
            omega
          refine hq _ st6 q1 q2 (by omega) ?_ (s5.trans s6)
          rw [show wy - ((nwE (.op f.hd es) : Nat) : Int) = wy5 - nwEs es by omega]
          exact G6.mono (by omega)
        rw [← hfp]
        have hb : (decide (o = wAnd) || (decide (o = wOr) || decide (o = wCall))) = wayW f.hd := by rw [hway]; simp
        rw [hb]
        by_cases hw : wayW f.hd = true
        · have h1 := hfw.2 hw
          have hgl5 : (gameP A.b A.m A.h wy rest).length < 16777216 := by have := hrw.2; simp [gameP]; omega
          simp [hw, G4.g, game_way, game_put hrw.1, hgl5]
          refine fin _ (wy - 1) _ ((G4.way (wy - 1)).mono (by omega)) (by omega) (by rw [if_pos hw]) (sv4.trans (Sv.set (by simp)))
        · simp [hw]
          exact fin _ wy _ (G4.mono (by omega)) h0 (by rw [if_neg hw]; omega) sv4
end

end
section
inductive Stm where
  | let_ (w : List Nat) (e : Ex)
  | set_ (p : List (List Nat)) (e : Ex)
  | put (p : List (List Nat)) (i e : Ex)
  | give (e : Ex)
  | if_ (t : Ex) (b c : List Stm)
  | while_ (t : Ex) (b : List Stm)
mutual
noncomputable def encS : Stm → PV
  | .let_ w e => .tup [.str [108, 101, 116], .str w, encE e]
  | .set_ p e => .tup [.str [115, 101, 116], .tup (p.map .str), encE e]
  | .put p i e => .tup [.str [112, 117, 116], .tup (p.map .str), encE i, encE e]
  | .give e => .tup [.str [103, 105, 118, 101], encE e]
  | .if_ t b c => .tup [.str [105, 102], encE t, .tup (encB b), .tup (encB c)]
  | .while_ t b => .tup [.str [119, 104, 105, 108, 101], encE t, .tup (encB b)]
noncomputable def encB : List Stm → List PV
  | [] => []
  | s :: ss => encS s :: encB ss
end
mutual
noncomputable def nSS : Stm → Nat
  | .if_ _ b c => 1 + nSB b + nSB c
  | .while_ _ b => 1 + nSB b
  | .let_ _ _ => 1
  | .set_ _ _ => 1
  | .put _ _ _ => 1
  | .give _ => 1
noncomputable def nSB : List Stm → Nat
  | [] => 0
  | s :: ss => nSS s + nSB ss
end
mutual
noncomputable def nWS : Stm → Nat
  | .if_ t b c => 1 + nwE t + nWB b + nWB c
  | .while_ t b => 1 + nwE t + nWB b
  | .let_ _ e => nwE e
  | .set_ _ e => nwE e
  | .put _ i e => nwE i + nwE e
  | .give e => nwE e
noncomputable def nWB : List Stm → Nat
  | [] => 0
  | s :: ss => nWS s + nWB ss
end
theorem encB_app : ∀ a b : List Stm, encB (a ++ b) = encB a ++ encB b
  | [], b => rfl
  | e :: a, b => by rw [List.cons_append, encB, encB, encB_app a b]; rfl
theorem encB_len : ∀ a : List Stm, (encB a).length = a.length
  | [] => rfl
  | e :: a => by rw [encB, List.length_cons, List.length_cons, encB_len a]
theorem nSB_app : ∀ a b : List Stm, nSB (a ++ b) = nSB a + nSB b
  | [], b => by simp [nSB]
  | e :: a, b => by rw [List.cons_append, nSB, nSB, nSB_app a b]; omega
theorem nWB_app : ∀ a b : List Stm, nWB (a ++ b) = nWB a + nWB b
  | [], b => by simp [nWB]
  | e :: a, b => by rw [List.cons_append, nWB, nWB, nWB_app a b]; omega
inductive TS (R : Recs) (hs : List Hea) (due : Kn) : Nat → Kw → List Stm → Nat → Kw → Bool → Prop
  | nil {l : Nat} {kw : Kw} : TS R hs due l kw [] l kw false
  | let_ {l l' : Nat} {kw kw' : Kw} {e : Ex} {k : Kn} {ss : List Stm} {en : Bool} : TE R kw hs e k → KOk R k → wdE e ≤ 12 → TS R hs due l (kw ++ [(lnm.getD l [], k)]) ss l' kw' en → TS R hs due (l + 1) kw (.let_ (lnm.getD l []) e :: ss) l' kw' en
  | set_ {l l' : Nat} {kw kw' : Kw} {p : List (List Nat)} {e : Ex} {k : Kn} {ss : List Stm} {en : Bool} : PW R kw p k → KOk R k → p.length ≤ 3 → TE R kw hs e k → wdE e ≤ 12 → TS R hs due l kw ss l' kw' en → TS R hs due l kw (.set_ p e :: ss) l' kw' en
  | put {l l' : Nat} {kw kw' : Kw} {p : List (List Nat)} {i e : Ex} {ss : List Stm} {en : Bool} : PW R kw p .row → p.length ≤ 3 → TE R kw hs i .num → wdE i ≤ 6 → TE R kw hs e .num → wdE e ≤ 6 → TS R hs due l kw ss l' kw' en → TS R hs due l kw (.put p i e :: ss) l' kw' en
  | while_ {l l1 l' : Nat} {kw kw1 kw' : Kw} {t : Ex} {b ss : List Stm} {eb en : Bool} : TE R kw hs t .num → wdE t ≤ 12 → b ≠ [] → TS R hs due l kw b l1 kw1 eb → TS R hs due l1 kw ss l' kw' en → TS R hs due l kw (.while_ t b :: ss) l' kw' en
  | if_ {l l1 l2 l' : Nat} {kw kw1 kw2 kw' : Kw} {t : Ex} {b c ss : List Stm} {eb ec en : Bool} : TE R kw hs t .num → wdE t ≤ 12 → b ≠ [] → TS R hs due l kw b l1 kw1 eb → TS R hs due l1 kw c l2 kw2 ec → (eb && ec) = false → TS R hs due l2 kw ss l' kw' en → TS R hs due l kw (.if_ t b c :: ss) l' kw' en
  | give {l : Nat} {kw : Kw} {e : Ex} : TE R kw hs e due → wdE e ≤ 12 → TS R hs due l kw [.give e] l kw true
  | both {l l1 l2 : Nat} {kw kw1 kw2 : Kw} {t : Ex} {b c : List Stm} : TE R kw hs t .num → wdE t ≤ 12 → b ≠ [] → c ≠ [] → TS R hs due l kw b l1 kw1 true → TS R hs due l1 kw c l2 kw2 true → TS R hs due l kw [.if_ t b c] l2 kw true
theorem TS.app {R : Recs} {hs : List Hea} {due : Kn} {l l1 : Nat} {kw kw1 : Kw} {ss : List Stm} {e0 : Bool} (h : TS R hs due l kw ss l1 kw1 e0) : e0 = false → ∀ {tt : List Stm} {l' : Nat} {kw' : Kw} {en : Bool}, TS R hs due l1 kw1 tt l' kw' en → TS R hs due l kw (ss ++ tt) l' kw' en := by
  induction h with
  | nil => exact fun _ {_ _ _ _} g => g
  | let_ h1 h2 h3 _ ih => exact fun e {_ _ _ _} g => .let_ h1 h2 h3 (ih e g)
  | set_ h1 h2 h3 h4 h5 _ ih => exact fun e {_ _ _ _} g => .set_ h1 h2 h3 h4 h5 (ih e g)
  | put h1 h2 h3 h4 h5 h6 _ ih => exact fun e {_ _ _ _} g => .put h1 h2 h3 h4 h5 h6 (ih e g)
  | while_ h1 h2 h3 h4 _ _ ih => exact fun e {_ _ _ _} g => .while_ h1 h2 h3 h4 (ih e g)
  | if_ h1 h2 h3 h4 h5 h6 _ _ _ ih => exact fun e {_ _ _ _} g => .if_ h1 h2 h3 h4 h5 h6 (ih e g)
  | give => exact fun e => nomatch e
  | both => exact fun e => nomatch e
structure EW (R : Recs) (hs : List Hea) : Prop where
  R_ : RM R
  Rl : R.length ≤ 3
  Rn : R.map Prod.fst = rnm.take R.length
  hl : hs.length ≤ 3
  ho : ∀ x ∈ hs, HOk R x
  hn : hs.map Hea.w = hnm.take hs.length
theorem EW.ev {R : Recs} {hs : List Hea} {kw : Kw} (W : EW R hs) (k : KwOk R kw) : EV R kw hs := ⟨W.R_, W.Rl, k, W.hl, W.ho⟩
structure KwL (R : Recs) (l : Nat) (kw : Kw) : Prop where
  ok : KwOk R kw
  fresh : ∀ i, i < l → lnm.getD i [] ∉ kw.map Prod.fst
  le : kw.length + l ≤ 9
  l5 : l ≤ 5
  ne : kw ≠ []
theorem KwL.mono {R : Recs} {l l' : Nat} {kw : Kw} (h : KwL R l kw) (hl : l' ≤ l) : KwL R l' kw := ⟨h.ok, fun i hi => h.fresh i (by omega), by have := h.le; omega, by have := h.l5; omega, h.ne⟩
theorem lnm_in : ∀ l : Fin 5, lnm.getD l.1 [] ∈ nmAll := by decide
theorem lnm_inj : ∀ i j : Fin 5, lnm.getD i.1 [] = lnm.getD j.1 [] → i = j := by decide
theorem kwok_add {R : Recs} {kw : Kw} {w : List Nat} {k : Kn} (h : KwOk R kw) (hw : w ∉ kw.map Prod.fst) (hn : w ∈ nmAll) (hk : KOk R k) (hl : kw.length < 12) : KwOk R (kw ++ [(w, k)]) := by
  refine ⟨?_, ?_, ?_, by simp; omega⟩
  · rw [List.map_append, List.nodup_append]
    refine ⟨h.nd, by simp, fun a ha b hb e => ?_⟩
    simp at hb; subst hb; subst e
    exact hw ha
  · intro x hx
    rcases List.mem_append.mp hx with h' | h'
    · exact h.ok x h'
    · simp at h'; subst h'; exact hk
  · intro x hx
    rcases List.mem_append.mp hx with h' | h'
    · exact h.nm x h'
    · simp at h'; subst h'; exact hn
theorem kwl_add {R : Recs} {l : Nat} {kw : Kw} {k : Kn} (ok : KwOk R kw) (fresh : ∀ i, i < l + 1 → lnm.getD i [] ∉ kw.map Prod.fst) (le : kw.length + l ≤ 8) (l5 : l + 1 ≤ 5) (hk : KOk R k) : KwL R l (kw ++ [(lnm.getD l [], k)]) := by
  refine ⟨kwok_add ok (fresh l (by omega)) (lnm_in ⟨l, by omega⟩) hk (by omega), fun i hi => ?_, by simp; omega, by omega, by simp⟩
  rw [List.map_append, List.mem_append]
  rintro (h' | h')
  · exact fresh i (by omega) h'
  · simp only [List.map_cons, List.map_nil, List.mem_singleton] at h'
    have := lnm_inj ⟨i, by omega⟩ ⟨l, by omega⟩ h'
    injection this with this
    omega
theorem kwP_put {kw : Kw} {w : List Nat} {k : Kn} (hw : w ∉ kw.map Prod.fst) : putP (kwP kw) (.str w) (kP k) = kwP (kw ++ [(w, k)]) := by
  have h : ¬ ((kwP kw).any fun kv => decide (kv.1 = .str w)) = true := fun e => by
    obtain ⟨x, hx, he⟩ := List.any_eq_true.mp e
    unfold kwP at hx
    obtain ⟨y, hy, rfl⟩ := List.mem_map.mp hx
    simp at he
    exact hw (List.mem_map.mpr ⟨y, hy, he⟩)
  unfold putP
  rw [if_neg h]
  simp [kwP]
noncomputable abbrev gLet : PV := .str [108, 101, 116, 115]
noncomputable abbrev gSta : PV := .str [115, 116, 97, 116, 101, 109, 101, 110, 116, 115]
noncomputable def rst (l s : Int) : List (PV × PV) := [(gLet, .int l), (gSta, .int s)]
theorem rst_ro {l s : Int} : RO (rst l s) := by
  refine ⟨fun p hp => ?_, by simp [rst]⟩
  simp [rst] at hp
  rcases hp with rfl | rfl <;> simp
theorem game_let {b m h : Nat} {w l s : Int} : lookP (gameP b m h w (rst l s)) gLet = some (.int l) := by simp [gameP, rst, lookP]
theorem game_sta {b m h : Nat} {w l s : Int} : lookP (gameP b m h w (rst l s)) gSta = some (.int s) := by simp [gameP, rst, lookP]
theorem game_slet {b m h : Nat} {w l s l' : Int} : putP (gameP b m h w (rst l s)) gLet (.int l') = gameP b m h w (rst l' s) := by simp [gameP, rst, putP]
theorem game_ssta {b m h : Nat} {w l s s' : Int} : putP (gameP b m h w (rst l s)) gSta (.int s') = gameP b m h w (rst l s') := by simp [gameP, rst, putP]
theorem game_sway {b m h : Nat} {w l s w' : Int} : putP (gameP b m h w (rst l s)) gWay (.int w') = gameP b m h w' (rst l s) := game_put rst_ro.1
theorem game_len {b m h : Nat} {w l s : Int} : (gameP b m h w (rst l s)).length < 16777216 := by simp [gameP, rst]
section
variable {st s : Sto} {A : Ad} {cc : Bool} {wy wy' : Int} {rest rest' : List (PV × PV)} {R : Recs} {kw : Kw} {hs : List Hea} {K K' : Int}
theorem GT.game (wy' : Int) (rest' : List (PV × PV)) (G : GT st A cc wy rest R kw hs K) : GT (st.set A.gc (.dct (gameP A.b A.m A.h wy' rest'))) A cc wy' rest' R kw hs K :=
  ⟨G.B.setN G.a1.1 G.a1.2.1, List.getElem?_set_self (getN G.g), (List.getElem?_set_ne G.a1.2.2.1).trans G.k, (List.getElem?_set_ne G.a1.2.2.2.1).trans G.m_, (List.getElem?_set_ne G.a1.2.2.2.2).trans G.h_, G.a1, G.a2, G.a3⟩
theorem GT.known {kw' : Kw} (G : GT st A cc wy rest R kw hs K) : GT (st.set A.kc (.dct (kwP kw'))) A cc wy rest R kw' hs K :=
  ⟨G.B.setN G.a2.1 G.a2.2.1, (List.getElem?_set_ne (Ne.symm G.a1.2.2.1)).trans G.g, List.getElem?_set_self (getN G.k), (List.getElem?_set_ne G.a2.2.2.1).trans G.m_, (List.getElem?_set_ne G.a2.2.2.2).trans G.h_, G.a1, G.a2, G.a3⟩
end
noncomputable def Ad.kd (A : Ad) (k : Nat) : Ad := { A with kc := k }
theorem GT.copy {st : Sto} {A : Ad} {cc : Bool} {wy : Int} {rest : List (PV × PV)} {R : Recs} {kw : Kw} {hs : List Hea} {K : Int} (G : GT st A cc wy rest R kw hs K) : GT (st ++ [.dct (kwP kw)]) (A.kd st.length) cc wy rest R kw hs K := by
  have lt := G.lt
  have G' := G.grow (s := st ++ [.dct (kwP kw)]) Sv.app
  exact ⟨G'.B, G'.g, by simp [Ad.kd], G'.m_, G'.h_, ⟨G.a1.1, G.a1.2.1, by simp only [Ad.kd]; omega, G.a1.2.2.2.1, G.a1.2.2.2.2⟩, ⟨by simp only [Ad.kd]; omega, by simp only [Ad.kd]; omega, by simp only [Ad.kd]; omega, by simp only [Ad.kd]; omega⟩, G.a3⟩
theorem GT.back {st st' : Sto} {A : Ad} {k : Nat} {cc : Bool} {wy wy' : Int} {rest rest' : List (PV × PV)} {R : Recs} {kw kw' : Kw} {hs : List Hea} {K K' : Int} (G : GT st A cc wy rest R kw hs K) (G' : GT st' (A.kd k) cc wy' rest' R kw' hs K') (h : st'[A.kc]? = some (.dct (kwP kw))) : GT st' A cc wy' rest' R kw hs K' :=
  ⟨G'.B, G'.g, h, G'.m_, G'.h_, G.a1, G.a2, G.a3⟩

end
section
theorem lnm_at : ∀ k : Fin 5, L2.atI [PV.str [98], .str [108, 101, 116, 116, 101, 114], .str [99], .str [114, 111, 119, 115], .str [113]] (k.1 : Int) = some (.str (lnm.getD k.1 [])) := by
  intro k
  rw [atI_of (by omega) (by simp; omega)]
  match k with
  | ⟨0, _⟩ => rfl
  | ⟨1, _⟩ => rfl
  | ⟨2, _⟩ => rfl
  | ⟨3, _⟩ => rfl
  | ⟨4, _⟩ => rfl
section
variable {n : Nat} {R : Recs} {kw : Kw} {hs : List Hea} {A : Ad} {cc : Bool} {wy : Int}
theorem ex_spec {rest : List (PV × PV)} (W : EW R hs) (ok : KwOk R kw) {k : Kn} {room K : Int} {st : Sto} {Q : PV → Sto → Prop} {E : Exn → Sto → Prop} (hk : KOk R k) (h : leastD R 8 k ≤ room) (hr : room ≤ 12) (G : GT st A cc wy rest R kw hs K) (hro : RO rest) (h0 : 0 ≤ wy) (hK : K < 90000000) (hq : XPost st A cc wy rest R kw hs K room k Q) :
    Z (F__law_expr n 20 [.loc A.gc, .loc A.kc, kP k, .int room] st) Q E :=
  expr_spec (W.ev ok) W.Rn W.hn hro 20 k room st wy K Q E hk.1 h (by omega) hr G h0 (by omega) hq
theorem KOk.num {R : Recs} : KOk R .num := ⟨.inl rfl, by show (1 : Int) < 8; decide⟩
theorem let_spec (W : EW R hs) (ok : KwOk R kw) {l : Nat} {s K : Int} {st : Sto} {Q : PV → Sto → Prop} {E : Exn → Sto → Prop} (fresh : ∀ i, i < l + 1 → lnm.getD i [] ∉ kw.map Prod.fst) (l5 : l + 1 ≤ 5)
    (G : GT st A cc wy (rst ((l : Int) + 1) s) R kw hs K) (h0 : 0 ≤ wy) (hK : K < 80000000)
    (hq : ∀ e k st', TE R kw hs e k → KOk R k → wdE e ≤ 12 → (nwE e : Int) ≤ wy → GT st' A cc (wy - nwE e) (rst l (s - 1)) R (kw ++ [(lnm.getD l [], k)]) hs (K + 100) → Sv [A.b, A.c, A.gc, A.kc] st st' → Q (encS (.let_ (lnm.getD l []) e)) st') :
    Z (F__law_let n [.loc A.gc, .loc A.kc] st) Q E := by
  have lt := G.lt
  have hle := ok.le
  have hat := lnm_at ⟨l, by omega⟩
  dsimp only at hat
  obtain ⟨w, hw⟩ : ∃ w, w = lnm.getD l [] := ⟨_, rfl⟩
  rw [← hw] at hat hq
  have hfr : w ∉ kw.map Prod.fst := by rw [hw]; exact fresh l (by omega)
  have G1 := G.game wy (rst ((l : Int) + 1) (s - 1))
  have G2 := G.game wy (rst l (s - 1))
  rw [z__law_let]
  unfold b__law_let
  simp [G.g, game_sta, game_ssta, game_len, G1.g, game_let, game_slet, G2.g, hat, game_box, game_rec]
  have s0 : Sv [A.b, A.c, A.gc, A.kc] st (st.set A.gc (.dct (gameP A.b A.m A.h wy (rst l (s - 1))))) := Sv.set (by simp)
  generalize st.set A.gc (.dct (gameP A.b A.m A.h wy (rst l (s - 1)))) = st1 at G2 s0 ⊢
  refine kind_spec (W.R_.rv (by have := W.Rl; omega)) (by have := W.Rl; omega) G2.B (by omega) G2.m_ fun k st2 hk1 hk2 B2 s2 => ?_
  have G3 := G2.sv s2 B2
  simp
  refine ex_spec W ok ⟨hk1, hk2⟩ (by omega) (by omega) G3 rst_ro h0 (by omega) fun e st3 he hwd hnw G4 s3 => ?_
  have hkl : (kwP kw).length < 16777216 := by simp [kwP]; omega
  simp [G4.k, hkl, kwP_put hfr]
  have := hq e k _ he ⟨hk1, hk2⟩ (by omega) hnw ((G4.known (kw' := kw ++ [(w, k)])).mono (by omega)) (((s0.trans (s2.mono (by simp <;> omega))).trans (s3.mono (by simp <;> omega))).trans (Sv.set (by simp)))
  simpa [encS] using this
end

end
section
noncomputable def BPost (st : Sto) (A : Ad) (cc : Bool) (wy : Int) (l : Nat) (s : Int) (R : Recs) (kw : Kw) (hs : List Hea) (K : Int) (due : Kn) (t : Nat) (ends : Bool) (Q : PV → Sto → Prop) : Prop :=
  ∀ b st' l' kw', TS R hs due l kw b l' kw' ends → b ≠ [] → l' ≤ l → (nWB b : Int) ≤ wy → GT st' A cc (wy - nWB b) (rst l' (s - nSB b)) R kw' hs (K + 300 * nSB b + 5) → KwL R l' kw' → Sv [A.b, A.c, A.gc, A.kc] st st' → min s (6 - 2 * (t : Int)) - 1 ≤ s - nSB b → Q (.tup (encB b)) st'
noncomputable def BodyS (n : Nat) (R : Recs) (hs : List Hea) (cc : Bool) (t : Nat) : Prop :=
  ∀ (d : Nat) (A : Ad) (due : Kn) (kw : Kw) (l : Nat) (s wy K dp : Int) (ends : Bool) (st : Sto) (Q : PV → Sto → Prop) (E : Exn → Sto → Prop), 3 * t + 2 ≤ d → KOk R due → KwL R l kw → GT st A cc wy (rst l s) R kw hs K → 0 ≤ wy → 2 ≤ s → K + 300 * s < 70000000 → dp = 2 - (t : Int) →
    BPost st A cc wy l s R kw hs K due t ends Q → Z (F__law_body n d [.loc A.gc, .loc A.kc, kP due, .int dp, .bl ends] st) Q E
section
variable {n : Nat} {R : Recs} {kw : Kw} {hs : List Hea} {A : Ad} {cc : Bool}
theorem inner_body {t : Nat} (ih : BodyS n R hs cc t) {d : Nat} {due : Kn} {l : Nat} {s wy wy0 K K0 dp : Int} {rest0 : List (PV × PV)} {ends : Bool} {st0 st1 : Sto} {k : Nat} {Q : PV → Sto → Prop} {E : Exn → Sto → Prop} (hd : 3 * t + 2 ≤ d) (hdue : KOk R due) (kl : KwL R l kw) (G0 : GT st0 A cc wy0 rest0 R kw hs K0) (s0 : Sv [A.b, A.c, A.gc] st0 st1) (hk : st0.length ≤ k) (G : GT st1 (A.kd k) cc wy (rst l s) R kw hs K) (h0 : 0 ≤ wy) (hs2 : 2 ≤ s) (hK : K + 300 * s < 70000000) (hdp : dp = 2 - (t : Int))
    (hq : ∀ b st' l' kw', TS R hs due l kw b l' kw' ends → b ≠ [] → l' ≤ l → (nWB b : Int) ≤ wy → GT st' A cc (wy - nWB b) (rst l' (s - nSB b)) R kw hs (K + 300 * nSB b + 5) → Sv [A.b, A.c, A.gc] st0 st' → min s (6 - 2 * (t : Int)) - 1 ≤ s - nSB b → Q (.tup (encB b)) st') :
    Z (F__law_body n d [.loc A.gc, .loc k, kP due, .int dp, .bl ends] st1) Q E := by
  refine ih d (A.kd k) due kw l s wy K dp ends st1 Q E hd hdue kl G h0 hs2 hK hdp fun b st' l' kw' h1 h2 h3 h4 G' h5 s' h6 => ?_
  have lt := G0.lt
  have hkc1 : st1[A.kc]? = some (.dct (kwP kw)) := s0.at G0.k (by simp; exact ⟨G0.a2.1, G0.a2.2.1, Ne.symm G0.a1.2.2.1⟩)
  have hkc : st'[A.kc]? = some (.dct (kwP kw)) := s'.at hkc1 (by simp only [Ad.kd]; simp; exact ⟨G0.a2.1, G0.a2.2.1, Ne.symm G0.a1.2.2.1, by omega⟩)
  refine hq b st' l' kw' h1 h2 h3 h4 (G0.back G' hkc) ?_ h6
  refine ⟨by have := s0.len; have := s'.len; omega, fun i hi hx => ?_⟩
  rw [s'.keep i (by have := s0.len; omega) (by simp only [Ad.kd]; simp at hx ⊢; exact ⟨hx.1, hx.2.1, hx.2.2, by omega⟩), s0.keep i hi hx]
noncomputable abbrev wIf : List Nat := [105, 102]
noncomputable abbrev wWhile : List Nat := [119, 104, 105, 108, 101]
theorem within_spec (W : EW R hs) {t : Nat} (ih : BodyS n R hs cc t) {d : Nat} {due : Kn} {l : Nat} {s wy K dp : Int} {w : List Nat} {st : Sto} {Q : PV → Sto → Prop} {E : Exn → Sto → Prop} (ht : t ≤ 1) (hd : 3 * t + 3 ≤ d) (hdue : KOk R due) (kl : KwL R l kw) (G : GT st A cc wy (rst l s) R kw hs K) (h0 : 1 ≤ wy) (hs8 : 8 ≤ s) (hK : K + 300 * s < 69999800) (hdp : dp = 1 - (t : Int)) (hw : w = wIf ∨ w = wWhile)
    (hq : ∀ sm st' l', TS R hs due l kw [sm] l' kw false → l' ≤ l → (nWS sm : Int) ≤ wy → GT st' A cc (wy - nWS sm) (rst l' (s + 1 - nSS sm)) R kw hs (K + 300 * nSS sm - 200) → Sv [A.b, A.c, A.gc] st st' → 4 - 2 * (t : Int) ≤ s + 1 - nSS sm → Q (encS sm) st') :
    Z (F__law_within n d [.loc A.gc, .loc A.kc, kP due, .int dp, .str w] st) Q E := by
  obtain ⟨d, rfl⟩ : ∃ d', d = d' + 1 := ⟨d - 1, by omega⟩
  have lt := G.lt
  have G1 := G.game (wy - 1) (rst l s)
  rw [z__law_within]
  unfold b__law_within
  simp [G.g, game_way, game_sway, game_len]
  have s0 : Sv [A.b, A.c, A.gc] st (st.set A.gc (.dct (gameP A.b A.m A.h (wy - 1) (rst l s)))) := Sv.set (by simp)
  generalize st.set A.gc (.dct (gameP A.b A.m A.h (wy - 1) (rst l s))) = st1 at G1 s0 ⊢
  refine ex_spec (k := .num) W kl.ok KOk.num (by show (1 : Int) ≤ 12; omega) (by omega) G1 rst_ro (by omega) (by omega) fun e st2 he hwd hnw G2 s2 => ?_
  have sv2 : Sv [A.b, A.c, A.gc] st st2 := s0.trans (s2.mono (by simp <;> omega))
  simp [G2.g, game_box]
  refine takeX G2.B (fun i st3 i0 i1 B3 s3 => ?_)
  have G3 := G2.sv s3.sv B3
  have sv3 : Sv [A.b, A.c, A.gc] st st3 := sv2.trans (s3.sv.mono (by simp <;> omega))
  have l3 := sv3.len
  simp [Z_dictD G3.k]
  refine inner_body ih (by omega) hdue kl G (sv3.trans Sv.app) (k := st3.length) l3 G3.copy (by omega) (by omega) (by omega) (by omega) fun b st4 l4 kw4 t4 n4 hl4 hw4 G4 s4 lo4 => ?_
  simp
  rcases hw with rfl | rfl
  · simp [G4.g, game_box]
    refine takeX G4.B (fun j st5 j0 j1 B5 s5 => ?_)
    have G5 := G4.sv s5.sv B5
    have sv5 : Sv [A.b, A.c, A.gc] st st5 := s4.trans (s5.sv.mono (by simp <;> omega))
    by_cases hj : j = 0
    · have l5 := sv5.len
      have kl4 := kl.mono hl4
      have fin : ∀ (st6 : Sto) (K6 : Int) (ends : Bool) (E' : Exn → Sto → Prop) (Q' : PV → Sto → Prop), GT st6 (A.kd st5.length) cc (wy - 1 - nwE e - nWB b) (rst l4 (s - nSB b)) R kw hs K6 → K6 ≤ K + 60 + 300 * nSB b → Sv [A.b, A.c, A.gc] st st6 → ((decide (i = 0)) && ends) = false → (∀ c st7, Q (.tup [.str wIf, encE e, .tup (encB b), .tup (encB c)]) st7 → Q' (.tup (encB c)) st7) → Z (F__law_body n d [.loc A.gc, .loc st5.length, kP due, .int (dp + 1), .bl ends] st6) Q' E' := fun st6 K6 ends E' Q' G6 hK6 s6 hen hQ => by
        refine inner_body ih (by omega) hdue kl4 G s6 l5 G6 (by omega) (by omega) (by omega) (by omega) fun c st7 l7 kw7 t7 n7 hl7 hw7 G7 s7 lo7 => ?_
        refine hQ c st7 ?_
        have e1 : nSS (.if_ e b c) = 1 + nSB b + nSB c := by simp only [nSS]
        have e2 : nWS (.if_ e b c) = 1 + nwE e + nWB b + nWB c := by simp only [nWS]
        have := hq (.if_ e b c) st7 l7 (.if_ he (by omega) n4 t4 t7 hen .nil) (by omega) (by rw [e2]; omega) (by
          rw [e1, e2]
          rw [show wy - ((1 + nwE e + nWB b + nWB c : Nat) : Int) = wy - 1 - nwE e - nWB b - nWB c by omega, show s + 1 - ((1 + nSB b + nSB c : Nat) : Int) = s - nSB b - nSB c by omega]
          exact G7.mono (by omega)) s7 (by rw [e1]; omega)
        simpa [encS] using this
      simp [hj, Z_dictD G5.k]
      by_cases hi : i = 0
      · simp [hi]
        exact fin _ _ false _ _ G5.copy (by omega) (sv5.trans Sv.app) (by simp) fun c st7 h => by simpa using h
      · have Gc := G5.copy
        simp [hi, Gc.g, game_box]
        have hg : (st5 ++ [Cell.dct (kwP kw)])[A.gc]? = some (.dct (gameP A.b A.m A.h (wy - 1 - nwE e - nWB b) (rst l4 (s - nSB b)))) := Gc.g
        simp [hg, game_box]
        refine takeX Gc.B (fun q st6 q0 q1 B6 s6 => ?_)
        have G6 := Gc.sv s6.sv B6
        simp
        exact fin _ _ _ _ _ G6 (by omega) ((sv5.trans Sv.app).trans (s6.sv.mono (by simp [Ad.kd] <;> omega))) (by simp [hi]) fun c st7 h => by simpa using h
    · simp [hj]
      have e1 : nSS (.if_ e b []) = 1 + nSB b := by simp only [nSS, nSB, Nat.add_zero]
      have e2 : nWS (.if_ e b []) = 1 + nwE e + nWB b := by simp only [nWS, nWB, Nat.add_zero]
      have := hq (.if_ e b []) st5 l4 (.if_ he (by omega) n4 t4 .nil (by simp) .nil) hl4 (by rw [e2]; omega) (by
          rw [e1, e2]
          rw [show wy - ((1 + nwE e + nWB b : Nat) : Int) = wy - 1 - nwE e - nWB b by omega, show s + 1 - ((1 + nSB b : Nat) : Int) = s - nSB b by omega]
          exact G5.mono (by omega)) sv5 (by rw [e1]; omega)
      simpa [encS, encB] using this
  · simp
    have e1 : nSS (.while_ e b) = 1 + nSB b := by simp only [nSS]
    have e2 : nWS (.while_ e b) = 1 + nwE e + nWB b := by simp only [nWS]
    have := hq (.while_ e b) st4 l4 (.while_ he (by omega) n4 t4 .nil) hl4 (by rw [e2]; omega) (by
          rw [e1, e2]
          rw [show wy - ((1 + nwE e + nWB b : Nat) : Int) = wy - 1 - nwE e - nWB b by omega, show s + 1 - ((1 + nSB b : Nat) : Int) = s - nSB b by omega]
          exact G4.mono (by omega)) s4 (by rw [e1]; omega)
    simpa [encS] using this
end

end
section
section
variable {n : Nat} {R : Recs} {kw : Kw} {hs : List Hea} {A : Ad} {cc : Bool}
theorem both_spec (W : EW R hs) {t : Nat} (ih : BodyS n R hs cc t) {d : Nat} {due : Kn} {l : Nat} {s wy K dp : Int} {st : Sto} {Q : PV → Sto → Prop} {E : Exn → Sto → Prop} (ht : t ≤ 1) (hd : 3 * t + 3 ≤ d) (hdue : KOk R due) (kl : KwL R l kw) (G : GT st A cc wy (rst l s) R kw hs K) (h0 : 1 ≤ wy) (hs8 : 9 ≤ s) (hK : K + 300 * s < 70000100) (hdp : dp = 1 - (t : Int))
    (hq : ∀ sm st' l', TS R hs due l kw [sm] l' kw true → l' ≤ l → (nWS sm : Int) ≤ wy → GT st' A cc (wy - nWS sm) (rst l' (s - nSS sm)) R kw hs (K + 300 * nSS sm - 200) → Sv [A.b, A.c, A.gc] st st' → 4 - 2 * (t : Int) ≤ s - nSS sm → Q (encS sm) st') :
    Z (F__law_both n d [.loc A.gc, .loc A.kc, kP due, .int dp] st) Q E := by
  obtain ⟨d, rfl⟩ : ∃ d', d = d' + 1 := ⟨d - 1, by omega⟩
  have G1 := G.game (wy - 1) (rst l s)
  have G2 := G.game (wy - 1) (rst l (s - 1))
  rw [z__law_both]
  unfold b__law_both
  simp [G.g, game_way, game_sway, game_len, G1.g, game_sta, game_ssta, G2.g]
  have s0 : Sv [A.b, A.c, A.gc] st (st.set A.gc (.dct (gameP A.b A.m A.h (wy - 1) (rst l (s - 1))))) := Sv.set (by simp)
  generalize st.set A.gc (.dct (gameP A.b A.m A.h (wy - 1) (rst l (s - 1)))) = st1 at G2 s0 ⊢
  refine ex_spec (k := .num) W kl.ok KOk.num (by show (1 : Int) ≤ 12; omega) (by omega) G2 rst_ro (by omega) (by omega) fun e st2 he hwd hnw G3 s2 => ?_
  have sv2 : Sv [A.b, A.c, A.gc] st st2 := s0.trans (s2.mono (by simp <;> omega))
  have l2 := sv2.len
  simp [Z_dictD G3.k]
  refine inner_body ih (by omega) hdue kl G (sv2.trans Sv.app) (k := st2.length) l2 G3.copy (by omega) (by omega) (by omega) (by omega) fun b st4 l4 kw4 t4 n4 hl4 hw4 G4 s4 lo4 => ?_
  simp [Z_dictD G4.k]
  refine inner_body ih (by omega) hdue (kl.mono hl4) G (s4.trans Sv.app) (k := st4.length) s4.len G4.copy (by omega) (by omega) (by omega) (by omega) fun c st7 l7 kw7 t7 n7 hl7 hw7 G7 s7 lo7 => ?_
  simp
  have e1 : nSS (.if_ e b c) = 1 + nSB b + nSB c := by simp only [nSS]
  have e2 : nWS (.if_ e b c) = 1 + nwE e + nWB b + nWB c := by simp only [nWS]
  have := hq (.if_ e b c) st7 l7 (.both he (by omega) n4 n7 t4 t7) (by omega) (by rw [e2]; omega) (by
    rw [e1, e2]
    rw [show wy - ((1 + nwE e + nWB b + nWB c : Nat) : Int) = wy - 1 - nwE e - nWB b - nWB c by omega, show s - ((1 + nSB b + nSB c : Nat) : Int) = s - 1 - nSB b - nSB c by omega]
    exact G7.mono (by omega)) s7 (by rw [e1]; omega)
  simpa [encS] using this
noncomputable def stmC (n : Nat) : Rho → M Fl := sRet (eCall mkTup (aCons (eC (.str [115, 101, 116])) (aCons (eVar 6) (aCons (eCall (F__law_expr n 20) (aCons (eVar 0) (aCons (eVar 1) (aCons (eVar 7) (aCons (eC (.int 12)) aNil))))) aNil))))
noncomputable def stmB (n : Nat) : Rho → M Fl :=
  (sSeq (sSet 5 (eCall (F__law_ways n) (aCons (eBin ixM (eVar 0) (eC (.str [114, 101, 99, 111, 114, 100, 115]))) (aCons (eVar 1) aNil))))
  (sSeq (sAsg (eBin ixM (eVar 5) (eCall (F__law_take n) (aCons (eBin ixM (eVar 0) (eC (.str [98, 111, 120]))) (aCons (eCall lenM (aCons (eVar 5) aNil)) aNil)))) (gT 2 (gsCons (gN 6) (gsCons (gN 7) gsNil))))
  (sSeq (sIf (tAndM (eB (eBin eqM (eVar 7) (eC (.str [114, 111, 119])))) (eB (eBin gtI (eVar 4) (eC (.int 2))))) (sSeq (sSet 8 (eCall (F__law_expr n 20) (aCons (eVar 0) (aCons (eVar 1) (aCons (eC (.str [110, 117, 109])) (aCons (eC (.int 6)) aNil))))))
  (sRet (eCall mkTup (aCons (eC (.str [112, 117, 116])) (aCons (eVar 6) (aCons (eVar 8) (aCons (eCall (F__law_expr n 20) (aCons (eVar 0) (aCons (eVar 1) (aCons (eC (.str [110, 117, 109])) (aCons (eC (.int 6)) aNil))))) aNil))))))) sNext)
  (stmC n))))
noncomputable def stmA (n d : Nat) : Rho → M Fl :=
  (sSeq (sAsg (eBin subV (eBin ixM (eVar 0) (eC (.str [115, 116, 97, 116, 101, 109, 101, 110, 116, 115]))) (eC (.int 1))) (gSubM (eVar 0) (eC (.str [115, 116, 97, 116, 101, 109, 101, 110, 116, 115]))))
  (sSeq (sIf (tAndM (eB (eBin (inM false) (eVar 4) (eCall mkTup (aCons (eC (.int 1)) (aCons (eC (.int 2)) aNil))))) (tAndM (eB (eBin gtI (eBin ixM (eVar 0) (eC (.str [119, 97, 121, 115]))) (eC (.int 0)))) (tAndM (eB (eBin ltI (eVar 3) (eC (.int 2)))) (eB (eBin gtI (eBin ixM (eVar 0) (eC (.str [115, 116, 97, 116, 101, 109, 101, 110, 116, 115]))) (eC (.int 7))))))) (sRet (eCall (F__law_within n d) (aCons (eVar 0) (aCons (eVar 1) (aCons (eVar 2) (aCons (eVar 3) (aCons (eBin ixM (eCall mkLst (aCons (eC (.str [105, 102])) (aCons (eC (.str [119, 104, 105, 108, 101])) aNil))) (eBin subV (eVar 4) (eC (.int 1)))) aNil))))))) sNext)
  (stmB n)))
theorem stmt_eq (n d : Nat) : b__law_statement n (F__law_within n d) (F__law_statement n d) (F__law_both n d) (F__law_body n d) =
  (sSeq (sSet 4 (eCall (F__law_take n) (aCons (eBin ixM (eVar 0) (eC (.str [98, 111, 120]))) (aCons (eC (.int 6)) aNil))))
  (sSeq (sIf (tAndM (eB (eBin eqM (eVar 4) (eC (.int 0)))) (eB (eBin gtI (eBin ixM (eVar 0) (eC (.str [108, 101, 116, 115]))) (eC (.int 0))))) (sRet (eCall (F__law_let n) (aCons (eVar 0) (aCons (eVar 1) aNil)))) sNext)
  (stmA n d))) := by unfold b__law_statement stmA stmB stmC; rfl
noncomputable def SPost (st : Sto) (A : Ad) (cc : Bool) (wy : Int) (l : Nat) (s : Int) (R : Recs) (kw : Kw) (hs : List Hea) (K : Int) (due : Kn) (t : Nat) (Q : PV → Sto → Prop) : Prop :=
  ∀ sm st' l' kw', TS R hs due l kw [sm] l' kw' false → l' ≤ l → KwL R l' kw' → (nWS sm : Int) ≤ wy → GT st' A cc (wy - nWS sm) (rst l' (s - nSS sm)) R kw' hs (K + 300 * nSS sm) → Sv [A.b, A.c, A.gc, A.kc] st st' → 6 - 2 * (t : Int) ≤ s - nSS sm → Q (encS sm) st'
theorem stmC_spec (W : EW R hs) {t : Nat} {due k : Kn} {l : Nat} {s wy K K0 dp i : Int} {st st4 : Sto} {p : List (List Nat)} {x5 : PV} {Q : PV → Sto → Prop} {E : Exn → Sto → Prop} (kl : KwL R l kw) (g1 : PW R kw p k) (g2 : KOk R k) (g3 : p.length ≤ 3) (G : GT st4 A cc wy (rst l (s - 1)) R kw hs K) (sv : Sv [A.b, A.c, A.gc] st st4) (h0 : 0 ≤ wy) (hs7 : 7 ≤ s) (hK : K < 80000000) (hK0 : K ≤ K0 + 200)
    (hq : SPost st A cc wy l s R kw hs K0 due t Q) :
    Z (stmC n [some (.loc A.gc), some (.loc A.kc), some (kP due), some (.int dp), some (.int i), some x5, some (.tup (p.map .str)), some (kP k), none] st4) (runQ Q E) E0 := by
  unfold stmC
  simp
  refine ex_spec W kl.ok g2 (by have := g2.2; omega) (by omega) G rst_ro h0 (by omega) fun e st5 he hwd hnw G5 s5 => ?_
  simp
  have e1 : nSS (.set_ p e) = 1 := by simp only [nSS]
  have e2 : nWS (.set_ p e) = nwE e := by simp only [nWS]
  have := hq (.set_ p e) st5 l kw (.set_ g1 g2 g3 he (by omega) .nil) (Nat.le_refl _) kl (by rw [e2]; omega) (by
    rw [e1, e2]
    exact G5.mono (by omega)) ((sv.trans (s5.mono (by simp <;> omega))).mono (by simp <;> omega)) (by rw [e1]; omega)
  simpa [encS] using this
theorem stmB_spec (W : EW R hs) {t : Nat} {due : Kn} {l : Nat} {s wy K K0 dp i : Int} {st st2 : Sto} {Q : PV → Sto → Prop} {E : Exn → Sto → Prop} (kl : KwL R l kw) (G2 : GT st2 A cc wy (rst l (s - 1)) R kw hs K) (sv2 : Sv [A.b, A.c, A.gc] st st2) (h0 : 0 ≤ wy) (hs7 : 7 ≤ s) (hK : K < 71000000) (hK0 : K ≤ K0 + 10)
    (hq : SPost st A cc wy l s R kw hs K0 due t Q) :
    Z (stmB n [some (.loc A.gc), some (.loc A.kc), some (kP due), some (.int dp), some (.int i), none, none, none, none] st2) (runQ Q E) E0 := by
  unfold stmB
  simp [G2.g, game_rec]
  refine ways_spec (kw := kw) W.R_ W.Rl (.inr ⟨A.m, rfl, G2.m_⟩) G2.k kl.ok.nd kl.ok.ok kl.ok.le fun st3 ws s3 hws hw1 hw2 => ?_
  have G3 := G2.grow s3
  have hwl : 0 < ws.length := by have := List.length_pos_iff.mpr kl.ne; omega
  simp [G3.g, game_box]
  refine takeX G3.B (fun j st4 j0 j1 B4 s4 => ?_) (by omega) (by omega) (Nat.lt_of_le_of_lt (Nat.log2_le_self _) (by omega))
  have G4 := G3.sv s4.sv B4
  have sv4 : Sv [A.b, A.c, A.gc] st st4 := (sv2.trans (s3.mono (by simp))).trans (s4.sv.mono (by simp <;> omega))
  have hat := atI_of (xs := ws.map wayP) j0 (by simpa using j1)
  simp at hat
  obtain ⟨⟨p, k⟩, hp⟩ : ∃ x, x = ws[j.toNat]'(by omega) := ⟨_, rfl⟩
  obtain ⟨g1, g2, g3⟩ := hws _ (List.getElem_mem (show j.toNat < ws.length by omega))
  rw [← hp] at hat g1 g2 g3
  dsimp only at g1 g2 g3
  simp [hat, wayP]
  have hrow : k = .row ∨ (k ≠ .row ∧ ∀ (s : Sto) (Q : PV → Sto → Prop) (E : Exn → Sto → Prop), Z (eqM (kP k) (.str [114, 111, 119]) s) Q E = Q (.bl false) s) := by
    rcases g2.1 with rfl | rfl | ⟨r, hr, rfl⟩
    · exact .inr ⟨by simp, fun s Q E => by simp [kP]⟩
    · exact .inl rfl
    · exact .inr ⟨by simp, fun s Q E => by simp [kP, (W.R_.nk r hr).2]⟩
  rcases hrow with rfl | ⟨_, hne⟩
  · by_cases hi : 2 < i
    · simp [kP, hi]
      refine ex_spec (k := .num) W kl.ok KOk.num (by show (1 : Int) ≤ 6; omega) (by omega) G4 rst_ro h0 (by omega) fun e st5 he hwd hnw G5 s5 => ?_
      simp
      refine ex_spec (k := .num) W kl.ok KOk.num (by show (1 : Int) ≤ 6; omega) (by omega) G5 rst_ro (by omega) (by omega) fun f st6 hf hwf hnf G6 s6 => ?_
      simp
      have e1 : nSS (.put p e f) = 1 := by simp only [nSS]
      have e2 : nWS (.put p e f) = nwE e + nwE f := by simp only [nWS]
      have := hq (.put p e f) st6 l kw (.put g1 g3 he (by omega) hf (by omega) .nil) (Nat.le_refl _) kl (by rw [e2]; omega) (by
        rw [e1, e2]
        rw [show wy - ((nwE e + nwE f : Nat) : Int) = wy - nwE e - nwE f by omega]
        exact G6.mono (by omega)) ((sv4.trans ((s5.trans s6).mono (by simp <;> omega))).mono (by simp <;> omega)) (by rw [e1]; omega)
      simpa [encS] using this
    · simp [kP, hi]
      simpa [kP] using stmC_spec (n := n) (E := E) (dp := dp) (i := i) W kl g1 g2 g3 G4 sv4 h0 hs7 (by omega) (by omega) hq
  · simp [hne]
    exact stmC_spec W kl g1 g2 g3 G4 sv4 h0 hs7 (by omega) (by omega) hq
theorem stmA_spec (W : EW R hs) {t : Nat} (ih : ∀ t', t = t' + 1 → BodyS n R hs cc t') {d : Nat} {due : Kn} {l : Nat} {s wy K K0 dp i : Int} {st st1 : Sto} {Q : PV → Sto → Prop} {E : Exn → Sto → Prop} (ht : t ≤ 2) (hd : 3 * t ≤ d) (hdue : KOk R due) (kl : KwL R l kw) (G1 : GT st1 A cc wy (rst l s) R kw hs K) (sv1 : Sv [A.b, A.c, A.gc] st st1) (h0 : 0 ≤ wy) (hs7 : 7 ≤ s) (hK : K + 300 * s < 70000020) (hdp : dp = 2 - (t : Int)) (hK0 : K ≤ K0 + 10)
    (hq : SPost st A cc wy l s R kw hs K0 due t Q) :
    Z (stmA n d [some (.loc A.gc), some (.loc A.kc), some (kP due), some (.int dp), some (.int i), none, none, none, none] st1) (runQ Q E) E0 := by
  have G2 := G1.game wy (rst l (s - 1))
  unfold stmA
  simp [G1.g, game_sta, game_ssta, game_len]
  have s2 : Sv [A.b, A.c, A.gc] st (st1.set A.gc (.dct (gameP A.b A.m A.h wy (rst l (s - 1))))) := sv1.trans (Sv.set (by simp))
  generalize st1.set A.gc (.dct (gameP A.b A.m A.h wy (rst l (s - 1)))) = st2 at G2 s2 ⊢
  have hin : ∀ (s : Sto) (Q : PV → Sto → Prop) (E : Exn → Sto → Prop), Z (inM false (.int i) (.tup [.int 1, .int 2]) s) Q E = Q (.bl (decide (i = 1 ∨ i = 2))) s := fun s Q E => by
    rw [Z_inP (xs := [.int 1, .int 2]) rfl rfl rfl]
    simp
  have hb : (decide (i = 1) || decide (i = 2)) = decide (i = 1 ∨ i = 2) := by simp
  have last := stmB_spec (n := n) (E := E) (dp := dp) (i := i) W kl G2 s2 h0 hs7 (by omega) hK0 hq
  simp [hin]
  rw [hb]
  by_cases h12 : i = 1 ∨ i = 2
  · by_cases hwy : 0 < wy
    · by_cases hdl : dp < 2
      · by_cases hsl : 7 < s - 1
        · simp [h12, G2.g, game_way, game_sta, hwy, hdl, hsl]
          obtain ⟨t', rfl⟩ : ∃ t', t = t' + 1 := ⟨t - 1, by omega⟩
          have call : ∀ (w : List Nat) (E' : Exn → Sto → Prop) (Q' : PV → Sto → Prop), w = wIf ∨ w = wWhile → (∀ v s, Q v s → Q' v s) → Z (F__law_within n d [.loc A.gc, .loc A.kc, kP due, .int dp, .str w] st2) Q' E' := fun w E' Q' hw hQ => by
            refine within_spec W (ih t' rfl) (by omega) (by omega) hdue kl G2 (by omega) (by omega) (by omega) (by omega) hw fun sm st3 l3 q1 q2 q3 G3 s3 lo => hQ _ _ ?_
            exact hq sm st3 l3 kw q1 q2 (kl.mono q2) q3 (by
              rw [show s - ((nSS sm : Nat) : Int) = s - 1 + 1 - nSS sm by omega]
              exact G3.mono (by omega)) ((s2.trans s3).mono (by simp <;> omega)) (by omega)
          rcases h12 with rfl | rfl
          · simp
            exact call wIf _ _ (.inl rfl) fun v s h => by simpa using h
          · simp
            exact call wWhile _ _ (.inr rfl) fun v s h => by simpa using h
        · simp [h12, G2.g, game_way, game_sta, hwy, hdl, hsl]; exact last
      · simp [h12, G2.g, game_way, hwy, hdl]; exact last
    · simp [h12, G2.g, game_way, hwy]; exact last
  · simp [h12]; exact last
theorem stmt_spec (W : EW R hs) {t : Nat} (ih : ∀ t', t = t' + 1 → BodyS n R hs cc t') {d : Nat} {due : Kn} {l : Nat} {s wy K dp : Int} {st : Sto} {Q : PV → Sto → Prop} {E : Exn → Sto → Prop} (ht : t ≤ 2) (hd : 3 * t + 1 ≤ d) (hdue : KOk R due) (kl : KwL R l kw) (G : GT st A cc wy (rst l s) R kw hs K) (h0 : 0 ≤ wy) (hs7 : 7 ≤ s) (hK : K + 300 * s < 70000010) (hdp : dp = 2 - (t : Int))
    (hq : SPost st A cc wy l s R kw hs K due t Q) :
    Z (F__law_statement n d [.loc A.gc, .loc A.kc, kP due, .int dp] st) Q E := by
  obtain ⟨d, rfl⟩ : ∃ d', d = d' + 1 := ⟨d - 1, by omega⟩
  rw [z__law_statement, stmt_eq]
  simp [G.g, game_box]
  refine takeX G.B (fun i st1 i0 i1 B1 s1 => ?_)
  have G1 := G.sv s1.sv B1
  have sv1 : Sv [A.b, A.c, A.gc] st st1 := s1.sv.mono (by simp <;> omega)
  have later := stmA_spec (i := i) (E := E) W ih ht (show 3 * t ≤ d by omega) hdue kl G1 sv1 h0 hs7 (by omega) hdp (by omega) hq
  by_cases hi : i = 0
  · cases l with
    | zero =>
      simp [hi, G1.g, game_let]
      simpa [hi] using later
    | succ l =>
      have G1' : GT st1 A cc wy (rst ((l : Int) + 1) s) R kw hs (K + 1) := by simpa using G1
      have hlp : (0 : Int) < (l : Int) + 1 := by omega
      simp [hi, G1'.g, game_let, hlp]
      have := kl.le
      refine let_spec W kl.ok kl.fresh kl.l5 G1' h0 (by omega) fun e k st2 he hk hwd hnw G2 s2 => ?_
      simp
      have e1 : nSS (.let_ (lnm.getD l []) e) = 1 := by simp only [nSS]
      have e2 : nWS (.let_ (lnm.getD l []) e) = nwE e := by simp only [nWS]
      exact hq (.let_ (lnm.getD l []) e) st2 l _ (.let_ he hk hwd .nil) (by omega) (kwl_add kl.ok kl.fresh (by omega) kl.l5 hk) (by rw [e2]; exact hnw) (by
        rw [e1, e2]
        exact G2.mono (by omega)) ((sv1.mono (by simp <;> omega)).trans s2) (by rw [e1]; omega)
  · simp [hi]
    exact later
end

end
section
section
variable {n : Nat} {R : Recs} {kw : Kw} {hs : List Hea} {A : Ad} {cc : Bool}
noncomputable def bodE (n : Nat) : Rho → M Fl :=
  (sSeq (sIf (eB (eBin eqM (eVar 5) (eCall mkLst aNil))) (sSeq (sAsg (eBin subV (eBin ixM (eVar 0) (eC (.str [115, 116, 97, 116, 101, 109, 101, 110, 116, 115]))) (eC (.int 1))) (gSubM (eVar 0) (eC (.str [115, 116, 97, 116, 101, 109, 101, 110, 116, 115]))))
  (sSeq (sAsg (eBin ixM (eCall (F__law_ways n) (aCons (eBin ixM (eVar 0) (eC (.str [114, 101, 99, 111, 114, 100, 115]))) (aCons (eVar 1) aNil))) (eC (.int 0))) (gT 2 (gsCons (gN 7) (gsCons (gN 8) gsNil))))
  (sDrop (eMeth "list" appendM (eVar 5) (aCons (eCall mkTup (aCons (eC (.str [115, 101, 116])) (aCons (eVar 7) (aCons (eCall (F__law_plain n 20) (aCons (eVar 0) (aCons (eVar 1) (aCons (eVar 8) aNil)))) aNil)))) aNil))))) sNext)
  (sRet (eCall tupleM (aCons (eVar 5) aNil))))
noncomputable def bodG (n : Nat) : Rho → M Fl :=
  (sIf (eB (eVar 4)) (sSeq (sAsg (eBin subV (eBin ixM (eVar 0) (eC (.str [115, 116, 97, 116, 101, 109, 101, 110, 116, 115]))) (eC (.int 1))) (gSubM (eVar 0) (eC (.str [115, 116, 97, 116, 101, 109, 101, 110, 116, 115]))))
  (sDrop (eMeth "list" appendM (eVar 5) (aCons (eCall mkTup (aCons (eC (.str [103, 105, 118, 101])) (aCons (eCall (F__law_expr n 20) (aCons (eVar 0) (aCons (eVar 1) (aCons (eVar 2) (aCons (eC (.int 12)) aNil))))) aNil))) aNil)))) sNext)
noncomputable def bodA (n d : Nat) : Rho → M Fl :=
  (sSeq (sIf (tAndM (eB (eVar 4)) (tAndM (eB (eBin ltI (eVar 3) (eC (.int 2)))) (tAndM (eB (eBin gtI (eBin ixM (eVar 0) (eC (.str [119, 97, 121, 115]))) (eC (.int 0)))) (tAndM (eB (eBin gtI (eBin ixM (eVar 0) (eC (.str [115, 116, 97, 116, 101, 109, 101, 110, 116, 115]))) (eC (.int 8)))) (eB (eBin eqM (eCall (F__law_take n) (aCons (eBin ixM (eVar 0) (eC (.str [98, 111, 120]))) (aCons (eC (.int 3)) aNil))) (eC (.int 0)))))))) (sDrop (eMeth "list" appendM (eVar 5) (aCons (eCall (F__law_both n d) (aCons (eVar 0) (aCons (eVar 1) (aCons (eVar 2) (aCons (eVar 3) aNil))))) aNil))) (bodG n))
  (bodE n))
theorem body_eq (n d : Nat) : b__law_body n (F__law_within n d) (F__law_statement n d) (F__law_both n d) (F__law_body n d) =
  (sSeq (sSet 5 (eCall mkLstN aNil))
  (sSeq (sFor (iCall range1 (aCons (eCall (F__law_take n) (aCons (eBin ixM (eVar 0) (eC (.str [98, 111, 120]))) (aCons (eC (.int 4)) aNil))) aNil)) (gN 6) (L0__law_body n (F__law_within n d) (F__law_statement n d) (F__law_both n d) (F__law_body n d)))
  (bodA n d))) := by unfold b__law_body bodA bodG bodE; rfl
theorem GT.out {st : Sto} {wy K : Int} {rest : List (PV × PV)} (G : GT st A cc wy rest R kw hs K) {i : Nat} (h : st.length ≤ i) : i ≠ A.gc ∧ i ≠ A.kc ∧ i ≠ A.b ∧ i ≠ A.c ∧ i ≠ A.m ∧ i ≠ A.h := by
  have := G.lt
  omega
theorem bodE_spec (W : EW R hs) {t : Nat} {due : Kn} {l l' : Nat} {s wy K K0 dp : Int} {kw' : Kw} {ends : Bool} {acc : List Stm} {st0 st : Sto} {bc : Nat} {a6 : Option PV} {Q : PV → Sto → Prop} {E : Exn → Sto → Prop} (hl : l' ≤ l) (kl : KwL R l' kw') (ht : TS R hs due l kw acc l' kw' ends ∨ (acc = [] ∧ ends = false ∧ l' = l ∧ kw' = kw)) (hbc : st[bc]? = some (.lst (encB acc))) (hbo : st0.length ≤ bc) (G0 : ∃ wy0 rest0 kw0 K00, GT st0 A cc wy0 rest0 R kw0 hs K00) (G : GT st A cc (wy - nWB acc) (rst l' (s - nSB acc)) R kw' hs K) (hw : (nWB acc : Int) ≤ wy) (sv : Sv [A.b, A.c, A.gc, A.kc] st0 st) (lo : min s (6 - 2 * (t : Int)) - (if acc = [] then 0 else 1) ≤ s - nSB acc) (hal : acc.length < 1000) (hK : K < 80000000) (hK0 : K ≤ K0 + 300 * nSB acc + (if acc = [] then 100 else 5))
    (hq : BPost st0 A cc wy l s R kw hs K0 due t ends Q) :
    Z (bodE n [some (.loc A.gc), some (.loc A.kc), some (kP due), some (.int dp), some (.bl ends), some (.loc bc), a6, none, none] st) (runQ Q E) E0 := by
  obtain ⟨_, _, _, _, G0⟩ := G0
  have hout := G0.out hbo
  unfold bodE
  by_cases hac : acc = []
  · subst hac
    have ht' : ends = false ∧ l' = l ∧ kw' = kw := by
      rcases ht with h | ⟨_, h1, h2, h3⟩
      · cases h; exact ⟨rfl, rfl, rfl⟩
      · exact ⟨h1, h2, h3⟩
    obtain ⟨rfl, rfl, rfl⟩ := ht'
    simp only [nWB, nSB, if_true] at G lo hK0 hw
    have Gs : GT st A cc wy (rst l' s) R kw' hs K := by simpa using G
    have G1 := Gs.game wy (rst l' (s - 1))
    have hb1 : (st.set A.gc (.dct (gameP A.b A.m A.h wy (rst l' (s - 1)))))[bc]? = some (.lst []) := by rw [List.getElem?_set_ne (Ne.symm hout.1)]; simpa [encB] using hbc
    have hbc' : st[bc]? = some (.lst []) := by simpa [encB] using hbc
    simp [Z_eqL hbc', Gs.g, game_sta, game_ssta, game_len]
    have s1 : Sv [A.b, A.c, A.gc, A.kc] st0 (st.set A.gc (.dct (gameP A.b A.m A.h wy (rst l' (s - 1))))) := sv.trans (Sv.set (by simp))
    generalize st.set A.gc (.dct (gameP A.b A.m A.h wy (rst l' (s - 1)))) = st1 at G1 hb1 s1 ⊢
    simp [G1.g, game_rec]
    refine ways_spec (kw := kw') W.R_ W.Rl (.inr ⟨A.m, rfl, G1.m_⟩) G1.k kl.ok.nd kl.ok.ok kl.ok.le fun st2 ws s2 hws hw1 hw2 => ?_
    have G2 := G1.grow s2
    have hwl : 0 < ws.length := by have := List.length_pos_iff.mpr kl.ne; omega
    obtain ⟨⟨p, k⟩, ws', rfl⟩ : ∃ x ws', ws = x :: ws' := by
      cases ws with
      | nil => simp at hwl
      | cons x ws' => exact ⟨x, ws', rfl⟩
    obtain ⟨g1, g2, g3⟩ := hws (p, k) (by simp)
    dsimp only at g1 g2 g3
    have hb2 := s2.at hb1 (by simp)
    simp [wayP, hb2]
    refine plain_spec (W.ev kl.ok) 20 k st2 K _ _ (((W.ev kl.ok).kd8 g2.1).upn 12) G2 (by rw [(W.ev kl.ok).l20 g2.1]; have := g2.2; omega) fun e st3 he hwd hnw G3 s3 => ?_
    rw [(W.ev kl.ok).l20 g2.1] at hwd
    have hb3 := s3.at hb2 (by simp; exact ⟨hout.2.2.1, hout.2.2.2.1⟩)
    simp [hb3]
    have hb4 : (st3.set bc (.lst [encS (.set_ p e)]))[bc]? = some (.lst [encS (.set_ p e)]) := List.getElem?_set_self (getN hb3)
    have e0 : encS (.set_ p e) = .tup [.str [115, 101, 116], .tup (p.map .str), encE e] := by simp only [encS]
    rw [← e0]
    simp [hb4]
    have h8 := g2.2
    have e1 : nSB [.set_ p e] = 1 := by simp only [nSB, nSS]
    have e2 : nWB [.set_ p e] = 0 := by simp only [nWB, nWS]; omega
    have := hq [.set_ p e] (st3.set bc (.lst [encS (.set_ p e)])) l' kw' (.set_ g1 g2 g3 he (by omega) .nil) (by simp) (Nat.le_refl _) (by rw [e2]; omega) (by
      rw [e1, e2]
      have := G3.setN (i := bc) (x := .lst [encS (.set_ p e)]) hout
      simpa using this.mono (show K + 3 * (wdE e : Int) ≤ K0 + 300 + 5 by omega)) kl (by
      have sv3 : Sv [A.b, A.c, A.gc, A.kc] st0 st3 := (s1.trans (s2.mono (by simp))).trans (s3.mono (by simp <;> omega))
      exact ⟨by have := sv3.len; simp; omega, fun i hi hx => by
        rw [List.getElem?_set_ne (by omega), sv3.keep i hi hx]⟩) (by rw [e1]; omega)
    simpa [encB] using this
  · rcases ht with ht | ⟨h, _⟩
    · have hemp : (encB acc).isEmpty = false := by
        cases acc with
        | nil => exact absurd rfl hac
        | cons a b => rfl
      simp only [if_neg hac] at lo hK0
      simp [Z_eqL hbc, hemp, hbc]
      exact hq acc st l' kw' ht hac hl hw (G.mono (by omega)) kl sv lo
    · exact absurd h hac
end

end
section
section
variable {n : Nat} {R : Recs} {kw : Kw} {hs : List Hea} {A : Ad} {cc : Bool}
theorem bodA_spec (W : EW R hs) {t : Nat} (ih : ∀ t', t = t' + 1 → BodyS n R hs cc t') (ht2 : t ≤ 2) {d : Nat} (hd : 3 * t + 1 ≤ d) {due : Kn} {l l' : Nat} {s wy K K0 dp : Int} {kw' : Kw} {ends : Bool} {acc : List Stm} {st0 st : Sto} {bc : Nat} {a6 : Option PV} {Q : PV → Sto → Prop} {E : Exn → Sto → Prop} (hdue : KOk R due) (hdp : dp = 2 - (t : Int)) (hl : l' ≤ l) (kl : KwL R l' kw') (ht : TS R hs due l kw acc l' kw' false) (hbc : st[bc]? = some (.lst (encB acc))) (hbo : st0.length ≤ bc) (G0 : GT st0 A cc wy (rst l s) R kw hs K0) (G : GT st A cc (wy - nWB acc) (rst l' (s - nSB acc)) R kw' hs K) (hw : (nWB acc : Int) ≤ wy) (sv : Sv [A.b, A.c, A.gc, A.kc] st0 st) (lo : min s (6 - 2 * (t : Int)) ≤ s - nSB acc) (hal : acc.length < 900) (hK : K0 + 300 * s < 70000000) (hs2 : 2 ≤ s) (hK0 : K ≤ K0 + 300 * nSB acc + 2)
    (hq : BPost st0 A cc wy l s R kw hs K0 due t ends Q) :
    Z (bodA n d [some (.loc A.gc), some (.loc A.kc), some (kP due), some (.int dp), some (.bl ends), some (.loc bc), a6, none, none] st) (runQ Q E) E0 := by
  have hout := G0.out hbo
  have hz : (encB acc).length < 16777216 := by rw [encB_len]; omega
  have he0 : acc = [] → nSB acc = 0 := fun e => by rw [e]; rfl
  unfold bodA
  cases ends with
  | false =>
    have fin := bodE_spec (n := n) (E := E) (dp := dp) (a6 := a6) W hl kl (.inl ht) hbc hbo ⟨_, _, _, _, G0⟩ G hw sv (by split <;> omega) (by omega) (by omega) (K0 := K0) (by split <;> omega) hq
    simp
    unfold bodG
    simp
    exact fin
  | true =>
    obtain ⟨w1, ew⟩ : ∃ x, x = wy - (nWB acc : Int) := ⟨_, rfl⟩
    obtain ⟨s1, es⟩ : ∃ x, x = s - (nSB acc : Int) := ⟨_, rfl⟩
    rw [← ew, ← es] at G
    -- a give
    have give : ∀ (st1 : Sto) (K1 : Int), GT st1 A cc w1 (rst l' s1) R kw' hs K1 → K1 ≤ K + 1 → st1[bc]? = some (.lst (encB acc)) → Sv [A.b, A.c, A.gc, A.kc] st0 st1 → Z (bodG n [some (.loc A.gc), some (.loc A.kc), some (kP due), some (.int dp), some (.bl true), some (.loc bc), a6, none, none] st1) (seqQ (bodE n) (runQ Q E) E0) E0 := fun st1 K1 G1 h1 hb1 sv1 => by
      unfold bodG
      have G2 := G1.game w1 (rst l' (s1 - 1))
      have hb2 : (st1.set A.gc (.dct (gameP A.b A.m A.h w1 (rst l' (s1 - 1)))))[bc]? = some (.lst (encB acc)) := by rw [List.getElem?_set_ne (Ne.symm hout.1)]; exact hb1
      simp [G1.g, game_sta, game_ssta, game_len]
      have s2 : Sv [A.b, A.c, A.gc, A.kc] st0 (st1.set A.gc (.dct (gameP A.b A.m A.h w1 (rst l' (s1 - 1))))) := sv1.trans (Sv.set (by simp))
      generalize st1.set A.gc (.dct (gameP A.b A.m A.h w1 (rst l' (s1 - 1)))) = st2 at G2 hb2 s2 ⊢
      simp [hb2]
      refine ex_spec W kl.ok hdue (by have := hdue.2; omega) (by omega) G2 rst_ro (by omega) (by omega) fun e st3 he hwd hnw G3 s3 => ?_
      have hb3 := s3.at hb2 (by simp; exact ⟨hout.2.2.1, hout.2.2.2.1, hout.1⟩)
      have e0 : encB acc ++ [.tup [.str [103, 105, 118, 101], encE e]] = encB (acc ++ [.give e]) := by rw [encB_app]; simp only [encB, encS]
      simp [hb3, hz]
      rw [e0]
      have e1 : nSB (acc ++ [.give e]) = nSB acc + 1 := by rw [nSB_app]; simp only [nSB, nSS]
      have e2 : nWB (acc ++ [.give e]) = nWB acc + nwE e := by rw [nWB_app]; simp only [nWB, nWS]; omega
      have G4 := G3.setN (i := bc) (x := .lst (encB (acc ++ [.give e]))) hout
      refine bodE_spec (due := due) (dp := dp) (acc := acc ++ [.give e]) (K := K1 + 4 * wdE e) W hl kl (.inl (ht.app rfl (.give he (by omega)))) (List.getElem?_set_self (getN hb3)) hbo ⟨_, _, _, _, G0⟩ ?_ (by rw [e2]; omega) ?_ (t := t) (s := s) (by rw [if_neg (by simp), e1]; omega) (by simp; omega) (by omega) (K0 := K0) (by rw [if_neg (by simp), e1]; omega) hq
      · rw [e1, e2]
        rw [show wy - ((nWB acc + nwE e : Nat) : Int) = w1 - nwE e by omega, show s - ((nSB acc + 1 : Nat) : Int) = s1 - 1 by omega]
        exact G4
      · exact ⟨by have := s2.len; have := s3.len; simp; omega, fun i hi hx => by
          rw [List.getElem?_set_ne (by omega), s3.keep i (by have := s2.len; omega) (by simp at hx ⊢; exact ⟨hx.1, hx.2.1, hx.2.2.1⟩), s2.keep i hi hx]⟩
    by_cases hdl : dp < 2
    · by_cases hwy : 0 < w1
      · by_cases hsl : 8 < s1
        · simp [hdl, G.g, game_way, game_sta, hwy, hsl, game_box]
          refine takeX G.B (fun i st1 i0 i1 B1 sx => ?_)
          have G1 := G.sv sx.sv B1
          have hb1 := sx.at hbc hout.2.2.1 hout.2.2.2.1
          have sv1 : Sv [A.b, A.c, A.gc, A.kc] st0 st1 := sv.trans (sx.sv.mono (by simp <;> omega))
          by_cases hi : i = 0
          · obtain ⟨t', rfl⟩ : ∃ t', t = t' + 1 := ⟨t - 1, by omega⟩
            simp [hi, hb1]
            refine both_spec W (ih t' rfl) (by omega) (by omega) hdue kl G1 (by omega) (by omega) (by omega) (by omega) fun sm st2 l2 q1 q2 q3 G2 s2 lo2 => ?_
            have hb2 := s2.at hb1 (by simp; exact ⟨hout.2.2.1, hout.2.2.2.1, hout.1⟩)
            have e0 : encB acc ++ [encS sm] = encB (acc ++ [sm]) := by rw [encB_app]; simp only [encB]
            simp [hb2, hz]
            rw [e0]
            have e1 : nSB (acc ++ [sm]) = nSB acc + nSS sm := by rw [nSB_app]; simp only [nSB]; omega
            have e2 : nWB (acc ++ [sm]) = nWB acc + nWS sm := by rw [nWB_app]; simp only [nWB]; omega
            have h1s : 1 ≤ nSS sm := by cases sm <;> simp only [nSS] <;> omega
            have G4 := G2.setN (i := bc) (x := .lst (encB (acc ++ [sm]))) hout
            refine bodE_spec (due := due) (dp := dp) (acc := acc ++ [sm]) (K := K + 1 + 300 * nSS sm - 200) W (Nat.le_trans q2 hl) (kl.mono q2) (.inl (ht.app rfl q1)) (List.getElem?_set_self (getN hb2)) hbo ⟨_, _, _, _, G0⟩ ?_ (by rw [e2]; omega) ?_ (t := t' + 1) (s := s) (by rw [if_neg (by simp), e1]; omega) (by simp; omega) (by omega) (K0 := K0) (by rw [if_neg (by simp), e1]; omega) hq
            · rw [e1, e2]
              rw [show wy - ((nWB acc + nWS sm : Nat) : Int) = w1 - nWS sm by omega, show s - ((nSB acc + nSS sm : Nat) : Int) = s1 - nSS sm by omega]
              exact G4
            · exact ⟨by have := sv1.len; have := s2.len; simp; omega, fun i hi hx => by
                rw [List.getElem?_set_ne (by omega), s2.keep i (by have := sv1.len; omega) (by simp at hx ⊢; exact ⟨hx.1, hx.2.1, hx.2.2.1⟩), sv1.keep i hi hx]⟩
          · simp [hi]
            exact give st1 (K + 1) G1 (by omega) hb1 sv1
        · simp [hdl, G.g, game_way, game_sta, hwy, hsl]
          exact give st K G (by omega) hbc sv
      · simp [hdl, G.g, game_way, hwy]
        exact give st K G (by omega) hbc sv
    · simp [hdl]
      exact give st K G (by omega) hbc sv
theorem body_go (W : EW R hs) {t : Nat} (ih : ∀ t', t = t' + 1 → BodyS n R hs cc t') (ht2 : t ≤ 2) {d : Nat} (hd : 3 * t + 1 ≤ d) {due : Kn} {l : Nat} {s wy K0 dp : Int} {ends : Bool} {st0 : Sto} {bc : Nat} {fw fb fy : List PV → M PV} {QF : Fl → Sto → Prop} {E : Exn → Sto → Prop} (hdue : KOk R due) (hdp : dp = 2 - (t : Int)) (hbo : st0.length ≤ bc) (G0 : GT st0 A cc wy (rst l s) R kw hs K0) (hK : K0 + 300 * s < 70000000) (hs2 : 2 ≤ s) :
    ∀ (cnt j : Nat) (acc : List Stm) (l' : Nat) (kw' : Kw) (K : Int) (st : Sto) (a6 : Option PV), l' ≤ l → KwL R l' kw' → TS R hs due l kw acc l' kw' false → st[bc]? = some (.lst (encB acc)) → GT st A cc (wy - nWB acc) (rst l' (s - nSB acc)) R kw' hs K → (nWB acc : Int) ≤ wy → Sv [A.b, A.c, A.gc, A.kc] st0 st → min s (6 - 2 * (t : Int)) ≤ s - nSB acc → acc.length + cnt < 100 → K ≤ K0 + 300 * nSB acc + 1 →
    (∀ acc l' kw' st' K a6, l' ≤ l → KwL R l' kw' → TS R hs due l kw acc l' kw' false → st'[bc]? = some (.lst (encB acc)) → GT st' A cc (wy - nWB acc) (rst l' (s - nSB acc)) R kw' hs K → (nWB acc : Int) ≤ wy → Sv [A.b, A.c, A.gc, A.kc] st0 st' → min s (6 - 2 * (t : Int)) ≤ s - nSB acc → acc.length < 100 → K ≤ K0 + 300 * nSB acc + 1 → QF (.next [some (.loc A.gc), some (.loc A.kc), some (kP due), some (.int dp), some (.bl ends), some (.loc bc), a6, none, none]) st') →
    Z (forL (gN 6) (L0__law_body n fw (F__law_statement n d) fb fy) ((List.range' j cnt).map fun i => PV.int (i : Nat)) [some (.loc A.gc), some (.loc A.kc), some (kP due), some (.int dp), some (.bl ends), some (.loc bc), a6, none, none] st) QF E
  | 0, j, acc, l', kw', K, st, a6, hl, kl, ht, hbc, G, hw, sv, lo, hal, hK0, hq => by
    simp only [List.range'_zero, List.map_nil]
    rw [Z_forL_nil]
    exact hq acc l' kw' st K _ hl kl ht hbc G hw sv lo (by omega) hK0
  | cnt + 1, j, acc, l', kw', K, st, a6, hl, kl, ht, hbc, G, hw, sv, lo, hal, hK0, hq => by
    have hout := G0.out hbo
    have hz : (encB acc).length < 16777216 := by rw [encB_len]; omega
    rw [List.range'_succ, List.map_cons, Z_forL]
    simp
    rw [zL0__law_body]
    by_cases hsl : 6 < s - nSB acc
    · simp [G.g, game_sta, hsl, hbc]
      refine stmt_spec W ih ht2 hd hdue kl G (by omega) (by omega) (by omega) hdp fun sm st1 l1 kw1 q1 q2 q3 q4 G1 s1 lo1 => ?_
      have hb1 := s1.at hbc (by simp; exact ⟨hout.2.2.1, hout.2.2.2.1, hout.1, hout.2.1⟩)
      have e0 : encB acc ++ [encS sm] = encB (acc ++ [sm]) := by rw [encB_app]; simp only [encB]
      have e1 : nSB (acc ++ [sm]) = nSB acc + nSS sm := by rw [nSB_app]; simp only [nSB]; omega
      have e2 : nWB (acc ++ [sm]) = nWB acc + nWS sm := by rw [nWB_app]; simp only [nWB]; omega
      simp [hb1, hz]
      rw [e0]
      refine body_go W ih ht2 hd hdue hdp hbo G0 hK hs2 cnt (j + 1) (acc ++ [sm]) l1 kw1 (K + 300 * nSS sm) _ _ (Nat.le_trans q2 hl) q3 (ht.app rfl q1) (List.getElem?_set_self (getN hb1)) ?_ (by rw [e2]; omega) ?_ (by rw [e1]; omega) (by simp; omega) (by rw [e1]; omega) hq
      · rw [e1, e2]
        rw [show wy - ((nWB acc + nWS sm : Nat) : Int) = wy - nWB acc - nWS sm by omega, show s - ((nSB acc + nSS sm : Nat) : Int) = s - nSB acc - nSS sm by omega]
        exact G1.setN hout
      · exact ⟨by have := sv.len; have := s1.len; simp; omega, fun i hi hx => by
          rw [List.getElem?_set_ne (by omega), s1.keep i (by have := sv.len; omega) hx, sv.keep i hi hx]⟩
    · simp [G.g, game_sta, hsl]
      exact body_go W ih ht2 hd hdue hdp hbo G0 hK hs2 cnt (j + 1) acc l' kw' K st _ hl kl ht hbc G hw sv lo (by omega) hK0 hq
theorem body_spec (W : EW R hs) : ∀ (t : Nat), t ≤ 2 → BodyS n R hs cc t := by
  intro t
  induction t with
  | zero => ?_
  | succ t iht => ?_
  all_goals
    intro ht2 d A due kw l s wy K dp ends st Q E hd hdue kl G h0 hs2 hK hdp hq
    obtain ⟨d, rfl⟩ : ∃ d', d = d' + 1 := ⟨d - 1, by omega⟩
    have Ga : GT (st ++ [.lst []]) A cc wy (rst l s) R kw hs K := G.grow Sv.app
    rw [z__law_body, body_eq]
    simp [Ga.g, game_box]
    refine takeX Ga.B (fun i st1 i0 i1 B1 s1 => ?_)
    have G1 := Ga.sv s1.sv B1
    have hout := G.out (Nat.le_refl _)
    have hb1 : st1[st.length]? = some (.lst (encB [])) := s1.at (by simp [encB]) hout.2.2.1 hout.2.2.2.1
    have hr : rangeOk i := ⟨by omega, by omega⟩
    have sv1 : Sv [A.b, A.c, A.gc, A.kc] st st1 := ⟨by rw [s1.1]; simp, fun j hj hx => by
      simp at hx
      rw [s1.2 j hx.1 hx.2.1, List.getElem?_append_left hj]⟩
    simp [Z_range1 hr, List.range_eq_range']
  · refine body_go W (fun t' e => absurd e (by omega)) ht2 (by omega) hdue hdp (Nat.le_refl _) G hK hs2 i.toNat 0 [] l kw (K + 1) st1 _ (Nat.le_refl _) kl .nil hb1 (by simpa [nWB, nSB] using G1) (by simp only [nWB]; omega) sv1 (by simp only [nSB]; omega) (by simp; omega) (by simp only [nSB]; omega) fun acc l' kw' st2 K2 a6 q1 q2 q3 q4 G2 q5 q6 q7 q8 q9 => ?_
    simp
    exact bodA_spec (d := d) W (fun t' e => absurd e (by omega)) ht2 (by omega) hdue hdp q1 q2 q3 q4 (Nat.le_refl _) G G2 q5 q6 q7 (by omega) hK hs2 (by omega) hq
  · refine body_go W (fun t' e => by cases e; exact iht (by omega)) ht2 (by omega) hdue hdp (Nat.le_refl _) G hK hs2 i.toNat 0 [] l kw (K + 1) st1 _ (Nat.le_refl _) kl .nil hb1 (by simpa [nWB, nSB] using G1) (by simp only [nWB]; omega) sv1 (by simp only [nSB]; omega) (by simp; omega) (by simp only [nSB]; omega) fun acc l' kw' st2 K2 a6 q1 q2 q3 q4 G2 q5 q6 q7 q8 q9 => ?_
    simp
    exact bodA_spec (d := d) W (fun t' e => by cases e; exact iht (by omega)) ht2 (by omega) hdue hdp q1 q2 q3 q4 (Nat.le_refl _) G G2 q5 q6 q7 (by omega) hK hs2 (by omega) hq
end

end
section
structure Fnc where
  h : Hea
  b : List Stm
noncomputable def fncP (f : Fnc) : PV := .tup [.str f.h.w, kP f.h.k, .tup (f.h.ps.map fldP), .tup (encB f.b)]
structure FOk (R : Recs) (hs : List Hea) (f : Fnc) : Prop where
  /-- params first told, or one let ahead -/
  ts : ∃ l kw, TS R hs f.h.k 5 f.h.ps f.b l kw true
  ne : f.b ≠ []
  ns : nSB f.b ≤ 16
  nw : nWB f.b ≤ 8
noncomputable def treeP (R : Recs) (fs : List Fnc) : PV := .tup [.tup (R.map recP), .tup (fs.map fncP)]
theorem pnm_nd : pnm.Nodup := by decide
theorem pnm_in : ∀ w ∈ pnm, w ∈ nmAll := by decide
theorem pnm_lnm : ∀ i : Fin 5, lnm.getD i.1 [] ∉ pnm := by decide
theorem kw_of {R : Recs} {h : Hea} (H : HOk R h) : KwOk R h.ps ∧ (∀ i, i < 5 → lnm.getD i [] ∉ h.ps.map Prod.fst) := by
  have hsub : ∀ w ∈ h.ps.map Prod.fst, w ∈ pnm := fun w hw => by
    rw [H.nm] at hw
    exact List.mem_of_mem_take hw
  refine ⟨⟨?_, H.ps, fun x hx => pnm_in _ (hsub _ (List.mem_map.mpr ⟨x, hx, rfl⟩)), by have := H.le; omega⟩, fun i hi hm => pnm_lnm ⟨i, hi⟩ (hsub _ hm)⟩
  rw [H.nm]
  exact pnm_nd.sublist (List.take_sublist _ _)
theorem flds_pairs : ∀ (ps : List Fld), pairsOf (ps.map fldP) = some (kwP ps)
  | [] => rfl
  | r :: R => by
    show (pairsOf (R.map fldP)).map _ = _
    rw [flds_pairs R]
    rfl
theorem flds_keys (ps : List Fld) : keysOk (kwP ps) = true := by simp [keysOk, kwP, MP.keyOf]
theorem merge_new : ∀ (ps acc : List (PV × PV)), ((acc ++ ps).map Prod.fst).Nodup → mergeP acc ps = acc ++ ps
  | [], acc, _ => by simp [mergeP]
  | p :: ps, acc, h => by
    show mergeP (putP acc p.1 p.2) ps = _
    have hp : putP acc p.1 p.2 = acc ++ [p] := by
      have hn : ¬ (acc.any fun kv => decide (kv.1 = p.1)) = true := fun e => by
        obtain ⟨x, hx, he⟩ := List.any_eq_true.mp e
        simp at he
        rw [List.map_append, List.nodup_append] at h
        exact h.2.2 x.1 (List.mem_map.mpr ⟨x, hx, rfl⟩) p.1 (by simp) he
      unfold putP
      rw [if_neg hn]
    rw [hp, merge_new ps (acc ++ [p]) (by simpa using h)]
    simp
theorem kwP_nd {ps : List Fld} (h : (ps.map Prod.fst).Nodup) : ((kwP ps).map Prod.fst).Nodup := by
  have : (kwP ps).map Prod.fst = (ps.map Prod.fst).map PV.str := by simp [kwP]
  rw [this]
  exact List.Pairwise.map PV.str (fun a b hab e => hab (by injection e)) h

end
section
section
variable {n : Nat} {R : Recs} {hs : List Hea}
theorem kwP_fl (kw : Kw) : (kwP kw).all (fun p => flP p.2) = true := by
  rw [List.all_eq_true]
  intro p hp
  unfold kwP at hp
  obtain ⟨x, _, rfl⟩ := List.mem_map.mp hp
  cases x.2 <;> rfl
theorem dEqP_0 (kw : Kw) : dEqP (kwP kw) [] = decide (kw = []) := by
  cases kw with
  | nil => rfl
  | cons x r => simp [dEqP, kwP]
noncomputable def treT (n : Nat) : Rho → M Fl :=
  (sDrop (eMeth "list" appendM (eVar 3) (aCons (eCall mkTup (aCons (eVar 4) (aCons (eVar 5) (aCons (eWk (eVar 6)) (aCons (eBin addV (eVar 9) (eCall (F__law_body n 20) (aCons (eVar 7) (aCons (eVar 8) (aCons (eVar 5) (aCons (eC (.int 0)) (aCons (eC (.bl true)) aNil))))))) aNil))))) aNil)))
theorem treT_spec (W : EW R hs) {x : Hea} (hx : x ∈ hs) {kw : Kw} {l : Nat} {s wy K : Int} {A : Ad} {fc : Nat} {fs : List Fnc} {fst : List Stm} {st : Sto} {QF : Fl → Sto → Prop} {E : Exn → Sto → Prop}
    (hfc : st[fc]? = some (.lst (fs.map fncP))) (hfo : fc ≠ A.b ∧ fc ≠ A.c ∧ fc ≠ A.gc ∧ fc ≠ A.kc) (hfl : fs.length < 1000) (kl : KwL R l kw) (G : GT st A true wy (rst l s) R kw hs K) (hw0 : 0 ≤ wy) (hs2 : 2 ≤ s) (hs16 : s ≤ 16) (hK : K + 300 * s < 70000000) (hf2 : fst.length ≤ 1)
    (hf : ∀ b l' kw', TS R hs x.k l kw b l' kw' true → b ≠ [] → (nWB b : Int) ≤ wy → (nSB b : Int) ≤ s - min s 2 + 1 → FOk R hs ⟨x, fst ++ b⟩)
    (hq : ∀ st' f, FOk R hs f → f.h = x → BX st' A.b A.c (K + 300 * s + 10) → Sv [A.b, A.c, A.gc, A.kc, fc] st st' → st'[fc]? = some (.lst ((fs ++ [f]).map fncP)) → QF (.next [some (.loc A.b), some (.loc A.m), some (.loc A.h), some (.loc fc), some (.str x.w), some (kP x.k), some (.xt (x.ps.map fldP)), some (.loc A.gc), some (.loc A.kc), some (.tup (encB fst))]) st') :
    Z (treT n [some (.loc A.b), some (.loc A.m), some (.loc A.h), some (.loc fc), some (.str x.w), some (kP x.k), some (.xt (x.ps.map fldP)), some (.loc A.gc), some (.loc A.kc), some (.tup (encB fst))] st) QF E := by
  unfold treT
  simp [hfc]
  refine body_spec W 2 (by omega) 20 A x.k kw l s wy K 0 true st _ _ (by omega) (W.ho x hx).k kl G hw0 hs2 hK (by omega) fun b st1 l1 kw1 h1 h2 h3 h4 G1 h5 s1 h6 => ?_
  have hfc1 := s1.at hfc (by simp; exact hfo)
  have hbl : b.length ≤ nSB b := by
    have : ∀ b : List Stm, b.length ≤ nSB b := by
      intro b
      induction b with
      | nil => simp [nSB]
      | cons a b ih =>
        simp only [nSB, List.length_cons]
        have : 1 ≤ nSS a := by cases a <;> simp only [nSS] <;> omega
        omega
    exact this b
  have hz : (encB fst).length + (encB b).length ≤ 16777216 := by rw [encB_len, encB_len]; omega
  have hz2 : fs.length < 16777216 := by omega
  simp [hfc1, hz, hz2]
  have e0 : fs.map fncP ++ [.tup [.str x.w, kP x.k, .tup (x.ps.map fldP), .tup (encB fst ++ encB b)]] = (fs ++ [(⟨x, fst ++ b⟩ : Fnc)]).map fncP := by simp [fncP, encB_app]
  rw [e0]
  refine hq _ ⟨x, fst ++ b⟩ (hf b l1 kw1 h1 h2 h4 (by omega)) rfl ((G1.B.setN hfo.1 hfo.2.1).mono (by omega)) (s1.mono (by simp <;> omega) |>.trans (Sv.set (by simp))) (List.getElem?_set_self (getN hfc1))
theorem tree0_spec (W : EW R hs) {x : Hea} (hx : x ∈ hs) {b c m h fc : Nat} {K : Int} {fs : List Fnc} {st : Sto} {a7 a8 a9 : Option PV} {QF : Fl → Sto → Prop} {E : Exn → Sto → Prop} (B : BX st b c K) (hm : st[m]? = some (.lst (R.map recP))) (hh : st[h]? = some (.lst (hs.map headP))) (hfc : st[fc]? = some (.lst (fs.map fncP))) (ap : m ≠ b ∧ m ≠ c ∧ h ≠ b ∧ h ≠ c ∧ fc ≠ b ∧ fc ≠ c) (hfl : fs.length < 1000) (hK : K < 60000000)
    (hq : ∀ st' f a7 a8 a9, FOk R hs f → f.h = x → BX st' b c (K + 6000) → Sv [b, c, fc] st st' → st'[fc]? = some (.lst ((fs ++ [f]).map fncP)) → QF (.next [some (.loc b), some (.loc m), some (.loc h), some (.loc fc), some (.str x.w), some (kP x.k), some (.xt (x.ps.map fldP)), a7, a8, a9]) st') :
    Z (L0__law_tree n [some (.loc b), some (.loc m), some (.loc h), some (.loc fc), some (.str x.w), some (kP x.k), some (.xt (x.ps.map fldP)), a7, a8, a9] st) QF E := by
  have lb := B.bl
  have lc := B.cl
  have lm := getN hm
  have lh := getN hh
  have lf := getN hfc
  have H := W.ho x hx
  obtain ⟨ok, fresh⟩ := kw_of H
  have hmg : mergeP [] (kwP x.ps) = kwP x.ps := by rw [merge_new _ _ (by simpa using kwP_nd ok.nd)]; rfl
  rw [zL0__law_tree]
  change Z ((sSeq (sSet 7 (eDct [((eC (.str [98, 111, 120])), (eVar 0)), ((eC (.str [114, 101, 99, 111, 114, 100, 115])), (eVar 1)), ((eC (.str [104, 101, 97, 100, 115])), (eVar 2)), ((eC (.str [119, 97, 121, 115])), (eC (.int 8))), ((eC (.str [108, 101, 116, 115])), (eC (.int 5))), ((eC (.str [115, 116, 97, 116, 101, 109, 101, 110, 116, 115])), (eC (.int 16)))]))
    (sSeq (sSet 8 (eCall dictX (aCons (eVar 6) aNil)))
    (sSeq (sSet 9 (eCall mkTup aNil))
    (sSeq (sIf (eB (eBin (eqG false) (eVar 8) eDct0)) (sSet 9 (eCall mkTup (aCons (eCall (F__law_let n) (aCons (eVar 7) (aCons (eVar 8) aNil))) aNil))) sNext)
    (treT n)))) ) _ st) QF E
  have hg : mergeP [] [(gBox, .loc b), (gRec, .loc m), (gHea, .loc h), (gWay, .int 8), (gLet, .int 5), (gSta, .int 16)] = gameP b m h 8 (rst 5 16) := by simp [mergeP, putP, gameP, rst]
  simp [Z_eDct, keysOk, Z_dictX (flds_pairs x.ps) (flds_keys x.ps), hmg, hg]
  have hsv : Sv [] st (st ++ [Cell.dct (gameP b m h 8 (rst 5 16)), Cell.dct (kwP x.ps), Cell.dct []]) := Sv.app
  obtain ⟨st1, hst1⟩ : ∃ st1, st1 = st ++ [Cell.dct (gameP b m h 8 (rst 5 16)), Cell.dct (kwP x.ps), Cell.dct []] := ⟨_, rfl⟩
  have c1 : st1[st.length + 1]? = some (.dct (kwP x.ps)) := by rw [hst1, List.getElem?_append_right (by omega)]; simp
  have c2 : st1[st.length + 2]? = some (.dct []) := by rw [hst1, List.getElem?_append_right (by omega)]; simp
  have c0 : st1[st.length]? = some (.dct (gameP b m h 8 (rst 5 16))) := by rw [hst1, List.getElem?_append_right (by omega)]; simp
  rw [← hst1] at hsv ⊢
  have hfc1 := hsv.at hfc (by simp)
  obtain ⟨A, hA⟩ : ∃ A : Ad, A = ⟨st.length, st.length + 1, b, c, m, h⟩ := ⟨_, rfl⟩
  have G : GT st1 A true 8 (rst ((5 : Nat) : Int) 16) R x.ps hs K := by
    subst hA
    exact ⟨B.sv hsv (by simp) (by simp), c0, c1, hsv.at hm (by simp), hsv.at hh (by simp), by simp; omega, by simp; omega, by simp; omega⟩
  have eb : A.b = b := by rw [hA]
  have ec : A.c = c := by rw [hA]
  have em : A.m = m := by rw [hA]
  have eh : A.h = h := by rw [hA]
  have eg : A.gc = st.length := by rw [hA]
  have ek : A.kc = st.length + 1 := by rw [hA]
  rw [Z_eqG c1 c2 (kwP_fl _) rfl, dEqP_0]
  simp
  rw [← ek, ← eb, ← em, ← eh, ← eg]
  have hfo : fc ≠ A.b ∧ fc ≠ A.c ∧ fc ≠ A.gc ∧ fc ≠ A.kc := by rw [eb, ec, eg, ek]; omega
  have fin : ∀ (st2 : Sto) (f : Fnc) (a7 a8 a9 : Option PV), FOk R hs f → f.h = x → BX st2 A.b A.c (K + 6000) → Sv [A.b, A.c, A.gc, A.kc, fc] st1 st2 → st2[fc]? = some (.lst ((fs ++ [f]).map fncP)) → QF (.next [some (.loc A.b), some (.loc A.m), some (.loc A.h), some (.loc fc), some (.str x.w), some (kP x.k), some (.xt (x.ps.map fldP)), a7, a8, a9]) st2 := fun st2 f a7 a8 a9 h1 h2 h3 h4 h5 => by
    rw [eb, em, eh]
    rw [eb, ec] at h3
    refine hq st2 f a7 a8 a9 h1 h2 h3 ⟨by have := hsv.len; have := h4.len; omega, fun i hi hx => ?_⟩ h5
    rw [h4.keep i (by have := hsv.len; omega) (by rw [eb, ec, eg, ek]; simp at hx ⊢; omega), hsv.keep i hi (by simp)]
  by_cases hps : x.ps = []
  · simp [hps]
    have G' : GT st1 A true 8 (rst (((4 : Nat) : Int) + 1) 16) R [] hs K := by rw [hps] at G; exact G
    have ok' : KwOk R [] := by rw [hps] at ok; exact ok
    refine let_spec W ok' (l := 4) (fun i hi => by simp) (by omega) G' (by omega) (by omega) fun e k st2 he hk hwd hnw G2 s2 => ?_
    have hfc2 := s2.at hfc1 (by simp; exact hfo)
    simp
    have kl := kwl_add ok' (fun i hi => by simp) (l := 4) (by simp) (by omega) hk
    have := treT_spec (n := n) (QF := QF) (E := E) W hx (fst := [.let_ (lnm.getD 4 []) e]) hfc2 hfo hfl kl G2 (by omega) (by omega) (by omega) (by omega) (by simp) (fun bb l' kw' q1 q2 q3 q4 => by
      refine ⟨⟨l', kw', ?_⟩, by simp, ?_, ?_⟩
      · rw [hps]
        exact .let_ he hk hwd q1
      · rw [nSB_app]; simp only [nSB, nSS]; omega
      · rw [nWB_app]; simp only [nWB, nWS]; omega) fun st3 f q1 q2 q3 q4 q5 => by
        have := fin st3 f (some (.loc A.gc)) (some (.loc A.kc)) (some (.tup (encB [.let_ (lnm.getD 4 []) e]))) q1 q2 (q3.mono (by omega)) ((s2.mono (by simp <;> omega)).trans q4) q5
        exact this
    simpa [hps, encB] using this
  · have kl : KwL R 5 x.ps := ⟨ok, fresh, by have := H.le; omega, by omega, hps⟩
    simp [hps]
    have := treT_spec (n := n) (QF := QF) (E := E) W hx (fst := []) hfc1 hfo hfl kl G (by omega) (by omega) (by omega) (by omega) (by simp) (fun bb l' kw' q1 q2 q3 q4 => by
      refine ⟨⟨l', kw', q1⟩, q2, ?_, ?_⟩
      · simp; omega
      · simp; omega) fun st3 f q1 q2 q3 q4 q5 => fin st3 f _ _ _ q1 q2 (q3.mono (by omega)) q4 q5
    simpa [encB] using this
theorem tree_go (W : EW R hs) {b c m h fc : Nat} {QF : Fl → Sto → Prop} {E : Exn → Sto → Prop} (ap : m ≠ b ∧ m ≠ c ∧ h ≠ b ∧ h ≠ c ∧ fc ≠ b ∧ fc ≠ c ∧ m ≠ fc ∧ h ≠ fc) :
    ∀ (xs : List Hea) (fs : List Fnc) (K : Int) (st : Sto) (a4 a5 a6 a7 a8 a9 : Option PV), (∀ x ∈ xs, x ∈ hs) → BX st b c K → st[m]? = some (.lst (R.map recP)) → st[h]? = some (.lst (hs.map headP)) → st[fc]? = some (.lst (fs.map fncP)) → fs.length + xs.length < 900 → K + 6000 * xs.length < 50000000 → (∀ f ∈ fs, FOk R hs f) →
    (∀ st' (fs' : List Fnc) a4 a5 a6 a7 a8 a9, fs'.map (·.h) = fs.map (·.h) ++ xs → (∀ f ∈ fs', FOk R hs f) → BX st' b c (K + 6000 * xs.length) → Sv [b, c, fc] st st' → st'[fc]? = some (.lst (fs'.map fncP)) → QF (.next [some (.loc b), some (.loc m), some (.loc h), some (.loc fc), a4, a5, a6, a7, a8, a9]) st') →
    Z (forG (gd h (hs.map headP)) (gT 3 (gsCons (gN 4) (gsCons (gN 5) (gsCons (gN 6) gsNil)))) (L0__law_tree n) (xs.map headP) [some (.loc b), some (.loc m), some (.loc h), some (.loc fc), a4, a5, a6, a7, a8, a9] st) QF E
  | [], fs, K, st, a4, a5, a6, a7, a8, a9, hxs, B, hm, hh, hfc, hl, hK, hok, hq => by
    rw [List.map_nil, Z_forG_nil (gd_of hh)]
    exact hq st fs _ _ _ _ _ _ (by simp) hok (B.mono (by simp)) (Sv.refl _ _) hfc
  | x :: xs, fs, K, st, a4, a5, a6, a7, a8, a9, hxs, B, hm, hh, hfc, hl, hK, hok, hq => by
    simp only [List.length_cons] at hl hK
    rw [List.map_cons, Z_forG (gd_of hh)]
    simp [headQ, prs]
    refine tree0_spec W (hxs x (by simp)) B hm hh hfc ⟨ap.1, ap.2.1, ap.2.2.1, ap.2.2.2.1, ap.2.2.2.2.1, ap.2.2.2.2.2.1⟩ (by omega) (by omega) fun st1 f a7 a8 a9 q1 q2 B1 s1 hfc1 => ?_
    simp
    have hm1 := s1.at hm (by simp; exact ⟨ap.1, ap.2.1, ap.2.2.2.2.2.2.1⟩)
    have hh1 := s1.at hh (by simp; exact ⟨ap.2.2.1, ap.2.2.2.1, ap.2.2.2.2.2.2.2⟩)
    refine tree_go W ap xs (fs ++ [f]) (K + 6000) st1 _ _ _ _ _ _ (fun y hy => hxs y (by simp [hy])) B1 hm1 hh1 hfc1 (by simp; omega) (by omega) ?_ fun st2 fs2 a4 a5 a6 a7 a8 a9 h1 h2 B2 s2 h3 => ?_
    · intro y hy
      rcases List.mem_append.mp hy with h | h
      · exact hok y h
      · simp at h; subst h; exact q1
    · exact hq st2 fs2 _ _ _ _ _ _ (by rw [h1]; simp [q2]) h2 (B2.mono (by simp only [List.length_cons]; omega)) (s1.trans s2) h3
end
section
variable {n : Nat}
theorem tree_spec {st : Sto} {b c : Nat} {K : Int} {Q : PV → Sto → Prop} {E : Exn → Sto → Prop} (B : BX st b c K) (hK : K < 10000)
    (hq : ∀ st' (R : Recs) (fs : List Fnc), EW R (fs.map (·.h)) → (∀ f ∈ fs, FOk R (fs.map (·.h)) f) → 1 ≤ fs.length → fs.length ≤ 3 → BX st' b c (K + 20000) → Sv [b, c] st st' → Q (treeP R fs) st') :
    Z (F__law_tree n [.loc b] st) Q E := by
  have lb := B.bl
  have lc := B.cl
  rw [z__law_tree]
  unfold b__law_tree
  simp
  refine records_spec B (by omega) fun st1 R hR hRl hRn B1 s1 hm1 => ?_
  have l1 := s1.len
  have lm := getN hm1
  simp
  refine heads_spec hR hRl B1 (by omega) hm1 (by omega) (by omega) fun st2 hs B2 s2 hh2 h1 h3 hn ho => ?_
  have l2 := s2.len
  have lh := getN hh2
  have hm2 := s2.at hm1 (by simp; omega)
  have W : EW R hs := ⟨hR, hRl, hRn, h3, ho, hn⟩
  have hh3 : (st2 ++ [Cell.lst []])[st1.length]? = some (.lst (hs.map headP)) := by rw [List.getElem?_append_left lh]; exact hh2
  simp [kCell_at hh3]
  refine tree_go W (m := st.length) (h := st1.length) (fc := st2.length) ⟨by omega, by omega, by omega, by omega, by omega, by omega, by omega, by omega⟩ hs [] (K + 40) _ _ _ _ _ _ _ (fun x hx => hx) ((B2.app _).mono (by omega)) (by rw [List.getElem?_append_left (by omega)]; exact hm2) hh3 (by simp) (by simp; omega) (by omega) (by simp) fun st3 fs a4 a5 a6 a7 a8 a9 e1 e2 B3 s3 hf3 => ?_
  have hm3 : st3[st.length]? = some (.lst (R.map recP)) := s3.at (by rw [List.getElem?_append_left (by omega)]; exact hm2) (by simp; omega)
  simp [seqOf_loc hm3, seqOf_loc hf3]
  have e1' : fs.map (·.h) = hs := by simpa using e1
  have hlen : fs.length = hs.length := by rw [← e1', List.length_map]
  have := hq st3 R fs (by rw [e1']; exact W) (by rw [e1']; exact e2) (by omega) (by omega) (B3.mono (by omega)) ⟨by have := s3.len; simp at this; omega, fun i hi hx => by
    simp at hx
    rw [s3.keep i (by simp; omega) (by simp; omega), List.getElem?_append_left (by omega), s2.keep i (by omega) (by simp; omega), s1.keep i hi (by simp; omega)]⟩
  simpa [treeP] using this
end

end
section
theorem Z_eqof {α : Type} {r : Res α} {v : α} {s : Sto} {P : α → Sto → Prop} {X : Exn → Sto → Prop} (h : ∀ {P : α → Sto → Prop} {X : Exn → Sto → Prop}, P v s → Z r P X) : Z r P X = P v s := by
  cases r with
  | ok a t =>
    have := @h (fun a' s' => a' = v ∧ s' = s) (fun _ _ => False) ⟨rfl, rfl⟩
    obtain ⟨rfl, rfl⟩ := (show a = v ∧ t = s from this)
    rfl
  | err x t =>
    have := @h (fun _ _ => True) (fun _ _ => False) trivial
    exact (show False from this).elim
  | bad =>
    have := @h (fun _ _ => True) (fun _ _ => False) trivial
    exact (show False from this).elim
section
variable {n : Nat} {α : Type}
noncomputable def fnd (nm : α → List Nat) (val : α → PV) (l : List α) (w : List Nat) : PV := ((l.find? fun x => decide (nm x = w)).map val).getD .non
theorem found_go {nm : α → List Nat} {val enc : α → PV} (he : ∀ x, ∃ r, enc x = .tup (.str (nm x) :: val x :: r)) {w : List Nat} {p0 : Option PV} {QF : Fl → Sto → Prop} {E : Exn → Sto → Prop} {st : Sto} (h1 : ∀ x : α, QF (.ret (val x)) st → True) :
    ∀ (l : List α) (a2 : Option PV), (∀ x, l.find? (fun x => decide (nm x = w)) = some x → QF (.ret (val x)) st) → (∀ a2, l.find? (fun x => decide (nm x = w)) = none → QF (.next [p0, some (.str w), a2]) st) →
    Z (forL (gN 2) (L0_found_in n) (l.map enc) [p0, some (.str w), a2] st) QF E
  | [], a2, hs, hn => by rw [List.map_nil, Z_forL_nil]; exact hn _ rfl
  | x :: l, a2, hs, hn => by
    obtain ⟨r, hr⟩ := he x
    rw [List.map_cons, Z_forL]
    simp
    rw [zL0_found_in, hr]
    by_cases h : nm x = w
    · simp [h]
      exact hs x (by simp [h])
    · simp [h]
      exact found_go he h1 l _ (fun y hy => hs y (by simpa [h] using hy)) fun a2 hy => hn a2 (by simpa [h] using hy)
theorem found_spec {nm : α → List Nat} {val enc : α → PV} (he : ∀ x, ∃ r, enc x = .tup (.str (nm x) :: val x :: r)) {l : List α} {w : List Nat} {st : Sto} {Q : PV → Sto → Prop} {E : Exn → Sto → Prop} : Z (F_found_in n [.tup (l.map enc), .str w] st) Q E = Q (fnd nm val l w) st := by
  refine Z_eqof fun {P X} h => ?_
  rw [z_found_in]
  unfold b_found_in
  simp
  refine found_go he (fun _ _ => trivial) l none (fun x hx => ?_) fun a2 hx => ?_
  · simp
    unfold fnd at h
    rw [hx] at h
    exact h
  · simp
    unfold fnd at h
    rw [hx] at h
    exact h
end
noncomputable def lkF : List Fld → List Nat → Option Kn
  | [], _ => none
  | f :: fs, w => if f.1 = w then some f.2 else lkF fs w
theorem fnd_rec : ∀ (R : Recs) (w : List Nat), fnd (fun r : List Nat × List Fld => r.1) (fun r => .tup (r.2.map fldP)) R w = ((look R w).map fun fs => PV.tup (fs.map fldP)).getD .non
  | [], w => rfl
  | r :: R, w => by
    unfold fnd look
    by_cases h : r.1 = w
    · simp [h]
    · have := fnd_rec R w
      unfold fnd at this
      simp [h]
      exact this
theorem fnd_fld : ∀ (fs : List Fld) (w : List Nat), fnd (fun r : Fld => r.1) (fun r => kP r.2) fs w = ((lkF fs w).map kP).getD .non
  | [], w => rfl
  | r :: R, w => by
    unfold fnd lkF
    by_cases h : r.1 = w
    · simp [h]
    · have := fnd_fld R w
      unfold fnd at this
      simp [h]
      exact this
section
variable {n : Nat} {R : Recs} {st : Sto} {Q : PV → Sto → Prop} {E : Exn → Sto → Prop} {w : List Nat}
theorem found_rec : Z (F_found_in n [.tup (R.map recP), .str w] st) Q E = Q (((look R w).map fun fs => PV.tup (fs.map fldP)).getD .non) st := by
  rw [found_spec (nm := fun r : List Nat × List Fld => r.1) (val := fun r => .tup (r.2.map fldP)) (enc := recP) (fun r => ⟨[], rfl⟩), fnd_rec]
theorem found_fld {fs : List Fld} : Z (F_found_in n [.tup (fs.map fldP), .str w] st) Q E = Q (((lkF fs w).map kP).getD .non) st := by
  rw [found_spec (nm := fun r : Fld => r.1) (val := fun r => kP r.2) (enc := fldP) (fun r => ⟨[], rfl⟩), fnd_fld]
end
theorem lkF_mem : ∀ {fs : List Fld} {f : Fld}, (fs.map Prod.fst).Nodup → f ∈ fs → lkF fs f.1 = some f.2
  | g :: fs, f, hn, h => by
    simp only [List.map_cons, List.nodup_cons] at hn
    unfold lkF
    rcases List.mem_cons.mp h with rfl | h
    · rw [if_pos rfl]
    · rw [if_neg (fun e => hn.1 (by rw [e]; exact List.mem_map.mpr ⟨f, h, rfl⟩))]
      exact lkF_mem hn.2 h
theorem fnm_nd : fnm.Nodup := by decide
theorem RM.fnd {R : Recs} (h : RM R) {w : List Nat} {fs : List Fld} (hw : look R w = some fs) : (fs.map Prod.fst).Nodup := fnm_nd.sublist (h.fn _ (look_mem hw))
section
variable {n : Nat} {R : Recs}
theorem tab_part {w : List Nat} (h1 : w ≠ [110, 117, 109]) (h2 : w ≠ [114, 111, 119]) : lookT tab_PART_OF w = none := by
  simp [tab_PART_OF, lookT, Ne.symm h1, Ne.symm h2, h1, h2]
theorem pof_go {d : Nat} {x : PV} {a1 : Option PV} {f : Kn → List Nat} (ih : ∀ (k : Kn) (st : Sto) (Q : PV → Sto → Prop) (E : Exn → Sto → Prop), KD R d k → Q (.str (f k)) st → Z (F_parts_of n d [x, kP k] st) Q E) {st : Sto} {QL : List PV → Sto → Prop} {E : Exn → Sto → Prop} :
    ∀ (fs : List Fld) (acc : List (List Nat)), (∀ g ∈ fs, KD R d g.2) → acc.length + fs.length < 1000 → QL ((acc ++ fs.map fun g => f g.2).map .str) st →
    Z (lcL (gN 2) tYesM (eCall (F_parts_of n d) (aCons (eVar 0) (aCons (eBin ixM (eVar 2) (eC (.int 1))) aNil))) [some x, a1, none] (fs.map fldP) (acc.map .str) st) QL E
  | [], acc, hk, hl, hq => by rw [List.map_nil, lc_nil]; simpa using hq
  | g :: fs, acc, hk, hl, hq => by
    simp at hl
    have ha : acc.length < 16777216 := by omega
    rw [List.map_cons, lc_cons]
    simp [fldP, L2.ixN]
    refine ih g.2 st _ _ (hk g (by simp)) ?_
    simp [ha]
    have e : acc.map PV.str ++ [.str (f g.2)] = (acc ++ [f g.2]).map .str := by simp
    rw [e]
    exact pof_go ih fs _ (fun y hy => hk y (by simp [hy])) (by simp; omega) (by simpa using hq)
theorem pof_spec (hR : RG R) {y : PV} : ∀ (d : Nat) (k : Kn) (st : Sto) (Q : PV → Sto → Prop) (E : Exn → Sto → Prop), KD R d k → Q (.str (partsD R d k)) st → Z (F_parts_of n d [.tup [.tup (R.map recP), y], kP k] st) Q E
  | 0, k, st, Q, E, hk, hq => by cases hk
  | d + 1, k, st, Q, E, hk, hq => by
    rw [z_parts_of]
    unfold b_parts_of
    cases hk with
    | num =>
      simp [kP, show lookT tab_PART_OF [110, 117, 109] = some (.str [110]) from rfl]
      rw [Z_ixTab (show lookT tab_PART_OF [110, 117, 109] = some (.str [110]) from rfl)]
      simpa [partsD] using hq
    | row =>
      simp [kP, show lookT tab_PART_OF [114, 111, 119] = some (.str [114]) from rfl]
      rw [Z_ixTab (show lookT tab_PART_OF [114, 111, 119] = some (.str [114]) from rfl)]
      simpa [partsD] using hq
    | @rc _ w fs hw n1 n2 hfs =>
      have hlen : fs.length ≤ 10 := hR.fl _ (look_mem hw)
      simp [kP, tab_part n1 n2]
      rw [found_rec, hw]
      simp
      refine pof_go (f := partsD R d) (fun k st Q E h1 h2 => pof_spec hR d k st Q E h1 h2) fs [] hfs (by simp; omega) ?_
      have hsum : ((fs.map fun g => partsD R d g.2).map (·.length)).sum ≤ 100 * fs.length := by
        have : ∀ l : List Fld, (∀ g ∈ l, KD R d g.2) → ((l.map fun g => partsD R d g.2).map (·.length)).sum ≤ 100 * l.length := by
          intro l
          induction l with
          | nil => intro _; simp
          | cons g l ih =>
            intro h
            have h1 := hR.pl d g.2 (h g (by simp))
            have h2 := ih fun y hy => h y (by simp [hy])
            simp only [List.map_cons, List.sum_cons, List.length_cons]
            omega
        exact this fs hfs
      have hz : ((fs.map fun g => partsD R d g.2).map (·.length)).sum + (fs.map fun g => partsD R d g.2).length * ([] : List Nat).length ≤ 16777216 := by simp only [List.length_nil, Nat.mul_zero]; omega
      simp only [partsD, hw, Option.getD_some] at hq
      simp only [List.nil_append]
      rw [show (fs.flatMap fun g => partsD R d g.2) = (fs.map fun g => partsD R d g.2).flatten from List.flatMap_def ..] at hq
      generalize (fs.map fun g => partsD R d g.2) = zs at hz hq ⊢
      simp [Z_join (x := .lst (zs.map .str)) (zs := zs) (a := []) rfl hz, joinL_nil]
      exact hq
end

end
section
inductive WK (R : Recs) : Kn → List (List Nat) → Kn → Prop
  | nil {k : Kn} : WK R k [] k
  | cons {r w : List Nat} {fs : List Fld} {k' k : Kn} {ws : List (List Nat)} : look R r = some fs → lkF fs w = some k' → WK R k' ws k → WK R (.rc r) (w :: ws) k
theorem WK.snoc {R : Recs} {k0 : Kn} {ws : List (List Nat)} {k1 : Kn} (h : WK R k0 ws k1) : ∀ {r w : List Nat} {fs : List Fld} {k : Kn}, k1 = .rc r → look R r = some fs → lkF fs w = some k → WK R k0 (ws ++ [w]) k := by
  induction h with
  | nil => intro r w fs k e h1 h2; subst e; exact .cons h1 h2 .nil
  | cons h1 h2 _ ih => intro r w fs k e g1 g2; exact .cons h1 h2 (ih e g1 g2)
theorem PW.fwd {R : Recs} {kw : Kw} (hR : RM R) {p : List (List Nat)} {k : Kn} (h : PW R kw p k) : ∃ w0 k0 ws, p = w0 :: ws ∧ (w0, k0) ∈ kw ∧ WK R k0 ws k := by
  induction h with
  | @one w k h => exact ⟨w, k, [], rfl, h, .nil⟩
  | @more p w fs f h1 h2 h3 ih =>
    obtain ⟨w0, k0, ws, rfl, g1, g2⟩ := ih
    exact ⟨w0, k0, ws ++ [f.1], rfl, g1, g2.snoc rfl h2 (lkF_mem (hR.fnd h2) h3)⟩
section
variable {n : Nat} {R : Recs} {kw : Kw} {st : Sto}
theorem pathk_go {y : PV} {a1 a2 : Option PV} {k : Kn} {QF : Fl → Sto → Prop} {E : Exn → Sto → Prop} (hq : ∀ a4 a5, QF (.next [some (.tup [.tup (R.map recP), y]), a1, a2, some (kP k), a4, a5]) st) {k0 : Kn} {ws : List (List Nat)} (h : WK R k0 ws k) :
    ∀ (a4 a5 : Option PV), Z (forL (gN 4) (L0_path_kind n) (ws.map .str) [some (.tup [.tup (R.map recP), y]), a1, a2, some (kP k0), a4, a5] st) QF E := by
  induction h with
  | nil => intro a4 a5; rw [List.map_nil, Z_forL_nil]; exact hq _ _
  | @cons r w fs k' k ws h1 h2 h3 ih =>
    intro a4 a5
    rw [List.map_cons, Z_forL]
    simp
    rw [zL0_path_kind]
    simp [show kP (.rc r) = .str r from rfl]
    rw [found_rec, h1]
    simp [nonP]
    rw [found_fld, h2]
    simp
    exact ih hq _ _
theorem path_spec (hR : RM R) (ok : KwOk R kw) {y : PV} {kc : Nat} {p : List (List Nat)} {k : Kn} {Q : PV → Sto → Prop} {E : Exn → Sto → Prop} (hk : st[kc]? = some (.dct (kwP kw))) (h : PW R kw p k) (hq : Q (kP k) st) : Z (F_path_kind n [.tup [.tup (R.map recP), y], .loc kc, .tup (p.map .str)] st) Q E := by
  obtain ⟨w0, k0, ws, rfl, h1, h2⟩ := h.fwd hR
  have hcut : cutL (PV.str w0 :: ws.map .str) (some (1 : Int)) none = ws.map .str := by
    rw [cut_from (by omega) (by simp; omega)]; rfl
  rw [z_path_kind]
  unfold b_path_kind
  simp [hk]
  rw [kGd_at hk (by rfl), kw_look ok.nd h1]
  simp [hcut]
  refine pathk_go ?_ h2 _ _
  intro a4 a5
  simpa using hq
theorem ops_num : ∀ f ∈ numOps ++ eithOps, ∃ o, f.hd = [o] ∧ o ≠ [111, 102] ∧ o ≠ wCall ∧ o ≠ wNew ∧ (lookT tab_OPERATIONS o = none ∨ ∃ x, lookT tab_OPERATIONS o = some (.tup [.str [110], x])) := by
  intro f hf
  simp only [numOps, eithOps, List.cons_append, List.nil_append, List.mem_cons, List.not_mem_nil, or_false] at hf
  rcases hf with rfl | rfl | rfl | rfl | rfl | rfl | rfl | rfl | rfl | rfl | rfl | rfl | rfl
  all_goals exact ⟨_, rfl, by decide, by decide, by decide, by first | exact .inl rfl | exact .inr ⟨_, rfl⟩⟩
theorem ops_row : ∀ f ∈ rowOps, ∃ o x, f.hd = [o] ∧ o ≠ [111, 102] ∧ o ≠ wCall ∧ o ≠ wNew ∧ lookT tab_OPERATIONS o = some (.tup [.str [114], x]) := by
  intro f hf
  simp only [rowOps, List.mem_cons, List.not_mem_nil, or_false] at hf
  rcases hf with rfl | rfl | rfl | rfl
  all_goals exact ⟨_, _, rfl, by decide, by decide, by decide, rfl⟩
theorem kind_n {s : Sto} {Q : PV → Sto → Prop} {E : Exn → Sto → Prop} : Z (ixTab tab_KIND_OF (.str [110]) s) Q E = Q (.str [110, 117, 109]) s := Z_ixTab rfl
theorem kind_r {s : Sto} {Q : PV → Sto → Prop} {E : Exn → Sto → Prop} : Z (ixTab tab_KIND_OF (.str [114]) s) Q E = Q (.str [114, 111, 119]) s := Z_ixTab rfl
theorem hnm_nd : hnm.Nodup := by decide
theorem fnd_fnc {fs : List Fnc} (hn : (fs.map (·.h)).map Hea.w = hnm.take (fs.map (·.h)).length) {x : Hea} (hx : x ∈ fs.map (·.h)) : fnd (fun f : Fnc => f.h.w) (fun f => kP f.h.k) fs x.w = kP x.k := by
  have hnd : ((fs.map (·.h)).map Hea.w).Nodup := by rw [hn]; exact hnm_nd.sublist (List.take_sublist _ _)
  clear hn
  induction fs with
  | nil => simp at hx
  | cons f fs ih =>
    simp only [List.map_cons, List.nodup_cons] at hnd
    simp only [List.map_cons, List.mem_cons] at hx
    unfold fnd
    by_cases h : f.h.w = x.w
    · rcases hx with rfl | hx
      · simp
      · exact absurd (by rw [h]; exact List.mem_map.mpr ⟨x, hx, rfl⟩) hnd.1
    · rcases hx with rfl | hx
      · exact absurd rfl h
      · have := ih hx hnd.2
        unfold fnd at this
        simp [h]
        exact this
theorem found_fnc {fs : List Fnc} {w : List Nat} {Q : PV → Sto → Prop} {E : Exn → Sto → Prop} : Z (F_found_in n [.tup (fs.map fncP), .str w] st) Q E = Q (fnd (fun f : Fnc => f.h.w) (fun f => kP f.h.k) fs w) st :=
  found_spec (nm := fun f : Fnc => f.h.w) (val := fun f => kP f.h.k) (enc := fncP) (fun r => ⟨_, rfl⟩)
theorem koe_spec {fs : List Fnc} (W : EW R (fs.map (·.h))) (ok : KwOk R kw) {kc : Nat} {e : Ex} {k : Kn} {Q : PV → Sto → Prop} {E : Exn → Sto → Prop} (hk : st[kc]? = some (.dct (kwP kw))) (h : TE R kw (fs.map (·.h)) e k) (hq : Q (kP k) st) : Z (F_kind_of_expr n [treeP R fs, .loc kc, encE e] st) Q E := by
  rw [z_kind_of_expr]
  unfold b_kind_of_expr treeP
  have hop : ∀ (o : List Nat) (es : List Ex), o ≠ [111, 102] → o ≠ wCall → o ≠ wNew → ((lookT tab_OPERATIONS o = none ∧ k = .num) ∨ (∃ x, lookT tab_OPERATIONS o = some (.tup [.str [110], x]) ∧ k = .num) ∨ ∃ x, lookT tab_OPERATIONS o = some (.tup [.str [114], x]) ∧ k = .row) → e = .op [o] es → Z (b_kind_of_expr n [some (.tup [.tup (R.map recP), .tup (fs.map fncP)]), some (.loc kc), some (encE e), none] st) (runQ Q E) E0 := fun o es n1 n2 n3 hl he => by
    subst he
    unfold b_kind_of_expr
    simp [encE, n1, n2, n3, z_kinds_of, b_kinds_of]
    rcases hl with ⟨h1, rfl⟩ | ⟨x, h1, rfl⟩ | ⟨x, h1, rfl⟩
    · simp [h1, nonP]
      simpa [kP] using hq
    · simp [h1, nonP, kind_n]
      simpa [kP] using hq
    · simp [h1, nonP, kind_r]
      simpa [kP] using hq
  cases h with
  | num h1 h2 => simp [encE]; simpa [kP] using hq
  | of_ h1 h2 h3 =>
    simp [encE]
    exact path_spec W.R_ ok hk h1 (by simpa using hq)
  | @op k f es h1 h2 h3 =>
    cases h1 with
    | num hm =>
      obtain ⟨o, ho, n1, n2, n3, hl⟩ := ops_num f hm
      exact hop o es n1 n2 n3 (hl.elim (fun h => .inl ⟨h, rfl⟩) fun ⟨x, h⟩ => .inr (.inl ⟨x, h, rfl⟩)) (by rw [ho])
    | row hm =>
      obtain ⟨o, x, ho, n1, n2, n3, hl⟩ := ops_row f hm
      exact hop o es n1 n2 n3 (.inr (.inr ⟨x, hl, rfl⟩)) (by rw [ho])
    | new hm => simp [encE]; simpa [kP] using hq
    | @call x hm =>
      simp [encE]
      rw [found_fnc, fnd_fnc W.hn hm]
      simpa using hq
  | make0 => exact hop wMake [] (by decide) (by decide) (by decide) (.inr (.inr ⟨_, rfl, rfl⟩)) rfl
end

end
section
theorem dEqP_self {kw : Kw} (h : (kw.map Prod.fst).Nodup) : dEqP (kwP kw) (kwP kw) = true := by
  unfold dEqP
  rw [Bool.and_eq_true]
  refine ⟨by simp, ?_⟩
  rw [List.all_eq_true]
  intro p hp
  unfold kwP at hp
  obtain ⟨x, hx, rfl⟩ := List.mem_map.mp hp
  simp
  exact kw_look h hx
theorem ne_kP {k : Kn} {s : Sto} {Q : PV → Sto → Prop} {E : Exn → Sto → Prop} : Z (neM (kP k) (kP k) s) Q E = Q (.bl false) s := by
  cases k <;> simp [kP]
section
variable {n : Nat} {R : Recs} {fs : List Fnc}
theorem kn_go (W : EW R (fs.map (·.h))) {b c m kc : Nat} {a0 a2 a6 a7 a8 a9 a10 a11 a12 : Option PV} (ap : m ≠ b ∧ m ≠ c ∧ kc ≠ b ∧ kc ≠ c ∧ kc ≠ m) {QF : Fl → Sto → Prop} {E : Exn → Sto → Prop} :
    ∀ (ns : List (List Nat)) (kw : Kw) (K : Int) (st : Sto) (a5 : Option PV), (∀ w ∈ ns, w ∈ nmAll) → (kw.map Prod.fst ++ ns).Nodup → kw.length + ns.length ≤ 5 → KwOk R kw → BX st b c K → K + ns.length < 1000000 → st[m]? = some (.lst (R.map recP)) → st[kc]? = some (.dct (kwP kw)) →
    (∀ st' kw' a5, KwOk R kw' → BX st' b c (K + ns.length) → Sv [b, c, kc] st st' → st'[kc]? = some (.dct (kwP kw')) → QF (.next [a0, some (.loc b), a2, some (.loc m), some (.loc kc), a5, a6, a7, a8, a9, a10, a11, a12]) st') →
    Z (forL (gN 5) (L0_law n) (ns.map .str) [a0, some (.loc b), a2, some (.loc m), some (.loc kc), a5, a6, a7, a8, a9, a10, a11, a12] st) QF E
  | [], kw, K, st, a5, hn, hd, hl, ok, B, hK, hm, hk, hq => by
    rw [List.map_nil, Z_forL_nil]
    exact hq st kw _ ok (B.mono (by simp)) (Sv.refl _ _) hk
  | w :: ns, kw, K, st, a5, hn, hd, hl, ok, B, hK, hm, hk, hq => by
    simp only [List.length_cons] at hl hK
    have hw : w ∉ kw.map Prod.fst := fun h => by
      rw [List.nodup_append] at hd
      exact hd.2.2 w h w (by simp) rfl
    rw [List.map_cons, Z_forL]
    simp
    rw [zL0_law]
    simp
    refine kind_spec (W.R_.rv (by have := W.Rl; omega)) (by have := W.Rl; omega) B (by omega) hm fun k st1 hk1 hk2 B1 s1 => ?_
    have hk1' := s1.at hk (by simp; omega)
    have hkl : (kwP kw).length < 16777216 := by simp [kwP]; omega
    simp [hk1', hkl, kwP_put hw]
    refine kn_go W ap ns (kw ++ [(w, k)]) (K + 1) _ _ (fun y hy => hn y (by simp [hy])) (by simpa using hd) (by simp; omega) (kwok_add ok hw (hn w (by simp)) ⟨hk1, hk2⟩ (by omega)) (B1.setN (by omega) (by omega)) (by omega) ((List.getElem?_set_ne (by omega)).trans (s1.at hm (by simp; omega))) (List.getElem?_set_self (getN hk1')) fun st2 kw2 a5 ok2 B2 s2 h2 => ?_
    exact hq st2 kw2 _ ok2 (B2.mono (by simp only [List.length_cons]; omega)) (((s1.mono (by simp <;> omega)).trans (Sv.set (by simp))).trans s2) h2
theorem law_go (W : EW R (fs.map (·.h))) {kw : Kw} (ok : KwOk R kw) {A : Ad} {hd : Nat} {a0 a5 a7 a8 : Option PV} (ho : hd ≠ A.b ∧ hd ≠ A.c ∧ hd ≠ A.gc) {QF : Fl → Sto → Prop} {E : Exn → Sto → Prop} :
    ∀ (ks : List Kn) (wy K : Int) (st : Sto) (a10 a11 a12 : Option PV), (∀ k ∈ ks, KIn R k) → GT st A false wy [] R kw (fs.map (·.h)) K → 0 ≤ wy → K + 100 * ks.length < 1000000 → st[hd]? = some (.dct (kwP kw)) →
    (∀ st' a10 a11 a12, QF (.next [a0, some (.loc A.b), some (treeP R fs), some (.loc A.m), some (.loc A.kc), a5, some (.loc hd), a7, a8, some (.loc A.gc), a10, a11, a12]) st') →
    Z (forL (gN 10) (L1_law n) (ks.map kP) [a0, some (.loc A.b), some (treeP R fs), some (.loc A.m), some (.loc A.kc), a5, some (.loc hd), a7, a8, some (.loc A.gc), a10, a11, a12] st) QF E
  | [], wy, K, st, a10, a11, a12, hks, G, h0, hK, hh, hq => by
    rw [List.map_nil, Z_forL_nil]
    exact hq st _ _ _
  | k :: ks, wy, K, st, a10, a11, a12, hks, G, h0, hK, hh, hq => by
    have V := W.ev ok
    have hk1 := hks k (by simp)
    have kd := (V.kd8 hk1).upn 12
    have rv := W.R_.rv (by have := W.Rl; omega)
    have e20 := V.l20 hk1
    simp only [List.length_cons] at hK
    rw [List.map_cons, Z_forL]
    simp
    rw [zL1_law]
    simp
    show Z (F_parts_of n 20 [treeP R fs, kP k] st) _ _
    unfold treeP
    refine pof_spec rv.rg 20 k st _ _ kd ?_
    simp
    refine parts_spec rv.rg 20 k st _ _ kd (.inr ⟨A.m, rfl, G.m_⟩) fun st1 s1 => ?_
    have G1 := G.grow s1
    have hh1 := s1.at hh (by simp)
    simp
    refine least_spec rv.rg 20 k st1 _ _ kd (.inr ⟨A.m, rfl, G1.m_⟩) fun st2 s2 => ?_
    have G2 := G1.grow s2
    have hh2 := s2.at hh1 (by simp)
    -- the second half
    have half : ∀ (st3 : Sto) (K3 : Int) (a11 : Option PV) (E' : Exn → Sto → Prop), GT st3 A false wy [] R kw (fs.map (·.h)) K3 → K3 ≤ K + 40 → st3[hd]? = some (.dct (kwP kw)) →
        Z ((sIf (eB (eBin ltI (eCall (F__law_least n 20) (aCons (eVar 3) (aCons (eVar 10) aNil))) (eC (.int 8)))) (sSeq (sSet 11 (eCall (F__law_expr n 20) (aCons (eVar 9) (aCons (eVar 4) (aCons (eVar 10) (aCons (eC (.int 12)) aNil))))))
  (sIf (tOrM (eB (eBin neM (eCall (F_kind_of_expr n) (aCons (eVar 2) (aCons (eVar 6) (aCons (eVar 11) aNil)))) (eVar 10))) (eB (eBin (eqG true) (eVar 6) (eVar 4)))) (sRet (eC (.bl false))) sNext)) sNext) [a0, some (.loc A.b), some (treeP R fs), some (.loc A.m), some (.loc A.kc), a5, some (.loc hd), a7, a8, some (.loc A.gc), some (kP k), a11, a12] st3) (turnQ (forL (gN 10) (L1_law n) (ks.map kP)) QF E) E' := by
      intro st3 K3 a11 E' G3 hK3 hh3
      simp
      refine least_spec rv.rg 20 k st3 _ _ kd (.inr ⟨A.m, rfl, G3.m_⟩) fun st4 s4 => ?_
      have G4 := G3.grow s4
      have hh4 := s4.at hh3 (by simp)
      rw [e20]
      by_cases hl : leastD R 8 k < 8
      · simp [hl]
        refine ex_spec W ok ⟨hk1, hl⟩ (by omega) (by omega) G4 ⟨by simp, by simp⟩ h0 (by omega) fun e st5 he hwd hnw G5 s5 => ?_
        have hh5 := s5.at hh4 (by simp; exact ho)
        simp
        refine koe_spec W ok hh5 he ?_
        simp [ne_kP]
        rw [Z_eqG hh5 G5.k (kwP_fl _) (kwP_fl _), dEqP_self ok.nd]
        simp
        exact law_go W ok ho ks (wy - nwE e) (K + 100) st5 _ _ _ (fun y hy => hks y (by simp [hy])) (G5.mono (by omega)) (by omega) (by omega) hh5 hq
      · simp [hl]
        exact law_go W ok ho ks wy (K + 100) st4 _ _ _ (fun y hy => hks y (by simp [hy])) (G4.mono (by omega)) (by omega) (by omega) hh4 hq
    rw [e20]
    by_cases hl : leastD R 8 k < 13
    · simp [hl]
      refine plain_spec V 20 k st2 K _ _ kd G2 (by rw [e20]; omega) fun e st3 he hwd hnw G3 s3 => ?_
      have hh3 := s3.at hh2 (by simp; exact ⟨ho.1, ho.2.1⟩)
      rw [e20] at hwd
      have hkoe := @koe_spec n R kw st3 fs W ok hd e k
      unfold treeP at hkoe
      simp
      refine hkoe hh3 he ?_
      simp [ne_kP]
      rw [Z_eqG hh3 G3.k (kwP_fl _) (kwP_fl _), dEqP_self ok.nd]
      simp
      simpa [treeP] using half st3 _ _ _ G3 (by omega) hh3
    · simp [hl]
      simpa [treeP] using half st2 _ _ _ G2 (by omega) hh2
end

end
section
section
variable {n : Nat} {R : Recs} {fs : List Fnc}
theorem names_go {a0 a1 a2 a3 a4 a5 a6 a7 a8 a9 a10 a11 : Option PV} {m : Nat} {st : Sto} {QL : List PV → Sto → Prop} {E : Exn → Sto → Prop} {full : List PV} (hm : st[m]? = some (.lst full)) :
    ∀ (rs : Recs) (acc : List Kn), acc.length + rs.length < 1000 → QL ((acc ++ rs.map fun r => Kn.rc r.1).map kP) st →
    Z (lcG (gd m full) (gN 12) tYesM (eBin ixM (eVar 12) (eC (.int 0))) [a0, a1, a2, a3, a4, a5, a6, a7, a8, a9, a10, a11, none] (rs.map recP) (acc.map kP) st) QL E
  | [], acc, hl, hq => by rw [List.map_nil, lcG_nil (gd_of hm)]; simpa using hq
  | r :: rs, acc, hl, hq => by
    have ha : acc.length < 16777216 := by omega
    simp at hl
    rw [List.map_cons, lcG_cons (gd_of hm)]
    simp [recP, L2.ixN, ha]
    have e : acc.map kP ++ [.str r.1] = (acc ++ [Kn.rc r.1]).map kP := by simp [kP]
    rw [e]
    exact names_go hm rs _ (by simp; omega) (by simpa using hq)
theorem cut_3 {α : Type} {a b c d : α} : cutL [a, b, c, d] none (some (3 : Int)) = [a, b, c] := rfl
theorem hd3_go {a0 a1 a2 a3 a4 a5 a6 a7 a8 a9 a10 a11 : Option PV} {st : Sto} {QL : List PV → Sto → Prop} {E : Exn → Sto → Prop} :
    ∀ (fs : List Fnc) (acc : List Hea), acc.length + fs.length < 1000 → QL ((acc ++ fs.map (·.h)).map (headQ false)) st →
    Z (lcL (gN 12) tYesM (eSl slM (eVar 12) oNone (oSome (eC (.int 3)))) [a0, a1, a2, a3, a4, a5, a6, a7, a8, a9, a10, a11, none] (fs.map fncP) (acc.map (headQ false)) st) QL E
  | [], acc, hl, hq => by rw [List.map_nil, lc_nil]; simpa using hq
  | f :: fs, acc, hl, hq => by
    have ha : acc.length < 16777216 := by omega
    simp at hl
    rw [List.map_cons, lc_cons]
    simp [fncP, cut_3, ha]
    have e : acc.map (headQ false) ++ [.tup [.str f.h.w, kP f.h.k, .tup (f.h.ps.map fldP)]] = (acc ++ [f.h]).map (headQ false) := by simp [headQ, prs]
    rw [e]
    exact hd3_go fs _ (by simp; omega) (by simpa using hq)
noncomputable abbrev n09 : List (List Nat) := [[98], [108, 101, 116, 116, 101, 114], [113], [112, 97, 105, 114], [120]]
theorem n09_in : ∀ w ∈ n09, w ∈ nmAll := by decide
theorem n09_nd : n09.Nodup := by decide
end
theorem kwok_nil {R : Recs} : KwOk R [] := ⟨by simp, by simp, by simp, by simp⟩
theorem law_spec (ns : List Int) : Z (F_law 100 [.frz (ns.map .int)] []) (fun v _ => v = .bl true) E0 := by
  rw [z_law]
  unfold b_law
  simp
  refine box_spec.go fun v st ⟨b, c, e, B0⟩ => ?_
  subst e
  have B : BX st b c 0 := ⟨0, B0, by omega, by omega⟩
  simp
  refine tree_spec B (by omega) fun st1 R fs W hok hf1 hf3 B1 s1 => ?_
  have hRl := W.Rl
  unfold treeP
  simp
  rw [Z_listAN (show itemsA (.tup (R.map recP)) st1 = some (R.map recP) from rfl)]
  simp
  refine takeX (B1.app _) (fun i st2 i0 i1 B2 s2 => ?_)
  have l1 := B1.bl
  have l2 := B1.cl
  have m2 : st2[st1.length]? = some (.lst (R.map recP)) := s2.at (by simp) (by omega) (by omega)
  have k2 : st2[st1.length + 1]? = some (.dct (kwP [])) := s2.at (by simp [kwP]) (by omega) (by omega)
  have l3 : st2.length = st1.length + 2 := by rw [s2.1]; simp
  have hcut : cutL [PV.str [98], .str [108, 101, 116, 116, 101, 114], .str [113], .str [112, 97, 105, 114], .str [120]] none (some i) = (n09.take i.toNat).map .str := by
    rw [cut_to i0 (by simp; omega), List.map_take]
    rfl
  simp [hcut]
  have hm2 : List.take i.toNat [PV.str [98], .str [108, 101, 116, 116, 101, 114], .str [113], .str [112, 97, 105, 114], .str [120]] = (n09.take i.toNat).map .str := by rw [List.map_take]; rfl
  rw [hm2]
  have htl : (n09.take i.toNat).length ≤ 5 := by rw [List.length_take]; exact Nat.min_le_right _ _
  refine kn_go W (m := st1.length) (kc := st1.length + 1) ⟨by omega, by omega, by omega, by omega, by omega⟩ (n09.take i.toNat) [] _ st2 _ (fun w hw => n09_in w (List.mem_of_mem_take hw)) (by simpa using n09_nd.sublist (List.take_sublist _ _)) (by simp at htl ⊢; omega) kwok_nil B2 (by omega) m2 k2 fun st3 kw a5 ok B3 s3 k3 => ?_
  have m3 := s3.at m2 (by simp; omega)
  have l4 := s3.len
  simp
  rw [Z_dictD k3]
  have m4 : (st3 ++ [Cell.dct (kwP kw)])[st1.length]? = some (.lst (R.map recP)) := by rw [List.getElem?_append_left (by omega)]; exact m3
  simp [kCell_at m4]
  refine names_go m4 R [] (by simp; omega) ?_
  have hkz : 2 + R.length ≤ 16777216 := by omega
  simp [hkz]
  have e1 : PV.str [110, 117, 109] :: .str [114, 111, 119] :: R.map (kP ∘ fun r => Kn.rc r.1) = (Kn.num :: .row :: R.map fun r => Kn.rc r.1).map kP := by simp [kP]
  refine hd3_go fs [] (by simp; omega) ?_
  have hfz : fs.length ≤ 16777216 := by omega
  have hg : ∀ x y : Nat, mergeP [] [(gBox, .loc b), (gRec, .loc x), (gHea, .loc y), (gWay, .int 8)] = gameP b x y 8 [] := fun x y => by simp [mergeP, putP, gameP]
  simp [hfz, Z_eDct, keysOk, hg]
  rw [e1]
  generalize hst : st3 ++ [Cell.dct (kwP kw), Cell.lst (fs.map (headQ false ∘ fun x => x.h)), Cell.dct (gameP b st1.length (st3.length + 1) 8 [])] = st4
  have g0 : st4[st3.length]? = some (.dct (kwP kw)) := by rw [← hst, List.getElem?_append_right (by omega)]; simp
  have g1 : st4[st3.length + 1]? = some (.lst ((fs.map (·.h)).map (headQ false))) := by rw [← hst, List.getElem?_append_right (by omega)]; simp
  have g2 : st4[st3.length + 2]? = some (.dct (gameP b st1.length (st3.length + 1) 8 [])) := by rw [← hst, List.getElem?_append_right (by omega)]; simp
  have sv4 : Sv [] st3 st4 := by rw [← hst]; exact Sv.app
  have G : GT st4 ⟨st3.length + 2, st1.length + 1, b, c, st1.length, st3.length + 1⟩ false 8 [] R kw (fs.map (·.h)) 30000 :=
    ⟨(B3.sv sv4 (by simp) (by simp)).mono (by omega), g2, sv4.at k3 (by simp), sv4.at m3 (by simp), g1, by simp; omega, by simp; omega, by simp; omega⟩
  refine law_go W ok (A := ⟨st3.length + 2, st1.length + 1, b, c, st1.length, st3.length + 1⟩) (hd := st3.length) ⟨by simp; omega, by simp; omega, by simp⟩ _ 8 30000 st4 _ _ _ ?_ G (by omega) (by simp; omega) g0 fun st5 a10 a11 a12 => by simp
  intro k hk
  simp only [List.mem_cons, List.mem_map] at hk
  rcases hk with rfl | rfl | ⟨r, hr, rfl⟩
  · exact .inl rfl
  · exact .inr (.inl rfl)
  · exact .inr (.inr ⟨r, hr, rfl⟩)
theorem pure_law (ns : List Int) (_ : ns.length ≤ 63) : ∃ n st, F_law n [.frz (ns.map .int)] [] = .ok (.bl true) st := by
  have h := law_spec ns
  refine ⟨100, ?_⟩
  cases e : F_law 100 [.frz (ns.map .int)] [] with
  | ok a s => rw [e] at h; exact ⟨s, by rw [show a = .bl true from h]⟩
  | err x s => rw [e] at h; exact h.elim
  | bad => rw [e] at h; exact h.elim

end
end K09

set_option maxRecDepth 100000
open PySem PySem.W PyProof.Rows
set_option maxRecDepth 100000 in
set_option maxHeartbeats 0 in
theorem PySem.Challenge.cw_samepaper_k09_kinds_of_expressions_holds : PySem.Challenge.rw_samepaper_k09_kinds_of_expressions.Holds := by
  refine HdTop ?_
  k_fill
  refine K09.walk (l := PySem.Challenge.rw_samepaper_k09_kinds_of_expressions) rfl rfl (fun w h Y => PySem.W.kIn_of Y) K09.pure_law ?F
  case F =>
    intro w mg fa h KX G hmg
    refine' K09.all_mk KX G hmg ?a_kinds_of ?l_kinds_of ?c_kinds_of ?k_kinds_of ?a_found_in ?l_found_in ?c_found_in ?k_found_in ?a_parts_of ?l_parts_of ?c_parts_of ?k_parts_of ?a_path_kind ?l_path_kind ?c_path_kind ?k_path_kind ?a_kind_of_expr ?l_kind_of_expr ?c_kind_of_expr ?k_kind_of_expr ?a__law_box ?l__law_box ?c__law_box ?k__law_box ?a__law_take ?l__law_take ?c__law_take ?k__law_take ?a__law_number ?l__law_number ?c__law_number ?k__law_number ?a__law_words_of ?l__law_words_of ?c__law_words_of ?k__law_words_of ?a__law_parts ?l__law_parts ?c__law_parts ?k__law_parts ?a__law_least ?l__law_least ?c__law_least ?k__law_least ?a__law_kind ?l__law_kind ?c__law_kind ?k__law_kind ?a__law_records ?l__law_records ?c__law_records ?k__law_records ?a__law_heads ?l__law_heads ?c__law_heads ?k__law_heads ?a__law_ways ?l__law_ways ?c__law_ways ?k__law_ways ?a__law_forms ?l__law_forms ?c__law_forms ?k__law_forms ?a__law_plain ?l__law_plain ?c__law_plain ?k__law_plain ?a__law_expr ?l__law_expr ?c__law_expr ?k__law_expr ?a__law_let ?l__law_let ?c__law_let ?k__law_let ?a__law_within ?l__law_within ?c__law_within ?k__law_within ?a__law_statement ?l__law_statement ?c__law_statement ?k__law_statement ?a__law_both ?l__law_both ?c__law_both ?k__law_both ?a__law_body ?l__law_body ?c__law_body ?k__law_body ?a__law_tree ?l__law_tree ?c__law_tree ?k__law_tree ?a_law ?l_law ?c_law ?k_law ?z_isinstance ?z_int ?z_list ?z_len ?z_str ?z_dict ?z_sum ?z_range ?z_tuple ?z_sorted ?g_KIND_OF ?gl_KIND_OF ?g_OPERATIONS ?gl_OPERATIONS ?g_PART_OF ?gl_PART_OF ?tb_KIND_OF ?tb_OPERATIONS ?tb_PART_OF
    (case a_kinds_of => k_is)
    (case l_kinds_of => k_is)
    (case c_kinds_of => k_is)
    (case k_kinds_of => k_is)
    (case a_found_in => k_is)
    (case l_found_in => k_is)
    (case c_found_in => k_is)
    (case k_found_in => k_is)
    (case a_parts_of => k_is)
    (case l_parts_of => k_is)
    (case c_parts_of => k_is)
    (case k_parts_of => k_is)
    (case a_path_kind => k_is)
    (case l_path_kind => k_is)
    (case c_path_kind => k_is)
    (case k_path_kind => k_is)
    (case a_kind_of_expr => k_is)
    (case l_kind_of_expr => k_is)
    (case c_kind_of_expr => k_is)
    (case k_kind_of_expr => k_is)
    (case a__law_box => k_is)
    (case l__law_box => k_is)
    (case c__law_box => k_is)
    (case k__law_box => k_is)
    (case a__law_take => k_is)
    (case l__law_take => k_is)
    (case c__law_take => k_is)
    (case k__law_take => k_is)
    (case a__law_number => k_is)
    (case l__law_number => k_is)
    (case c__law_number => k_is)
    (case k__law_number => k_is)
    (case a__law_words_of => k_is)
    (case l__law_words_of => k_is)
    (case c__law_words_of => k_is)
    (case k__law_words_of => k_is)
    (case a__law_parts => k_is)
    (case l__law_parts => k_is)
    (case c__law_parts => k_is)
    (case k__law_parts => k_is)
    (case a__law_least => k_is)
    (case l__law_least => k_is)
    (case c__law_least => k_is)
    (case k__law_least => k_is)
    (case a__law_kind => k_is)
    (case l__law_kind => k_is)
    (case c__law_kind => k_is)
    (case k__law_kind => k_is)
    (case a__law_records => k_is)
    (case l__law_records => k_is)
    (case c__law_records => k_is)
    (case k__law_records => k_is)
    (case a__law_heads => k_is)
    (case l__law_heads => k_is)
    (case c__law_heads => k_is)
    (case k__law_heads => k_is)
    (case a__law_ways => k_is)
    (case l__law_ways => k_is)
    (case c__law_ways => k_is)
    (case k__law_ways => k_is)
    (case a__law_forms => k_is)
    (case l__law_forms => k_is)
    (case c__law_forms => k_is)
    (case k__law_forms => k_is)
    (case a__law_plain => k_is)
    (case l__law_plain => k_is)
    (case c__law_plain => k_is)
    (case k__law_plain => k_is)
    (case a__law_expr => k_is)
    (case l__law_expr => k_is)
    (case c__law_expr => k_is)
    (case k__law_expr => k_is)
    (case a__law_let => k_is)
    (case l__law_let => k_is)
    (case c__law_let => k_is)
    (case k__law_let => k_is)
    (case a__law_within => k_is)
    (case l__law_within => k_is)
    (case c__law_within => k_is)
    (case k__law_within => k_is)
    (case a__law_statement => k_is)
    (case l__law_statement => k_is)
    (case c__law_statement => k_is)
    (case k__law_statement => k_is)
    (case a__law_both => k_is)
    (case l__law_both => k_is)
    (case c__law_both => k_is)
    (case k__law_both => k_is)
    (case a__law_body => k_is)
    (case l__law_body => k_is)
    (case c__law_body => k_is)
    (case k__law_body => k_is)
    (case a__law_tree => k_is)
    (case l__law_tree => k_is)
    (case c__law_tree => k_is)
    (case k__law_tree => k_is)
    (case a_law => k_is)
    (case l_law => k_is)
    (case c_law => k_is)
    (case k_law => k_is)
    (case z_isinstance => k_is)
    (case z_int => k_is)
    (case z_list => k_is)
    (case z_len => k_is)
    (case z_str => k_is)
    (case z_dict => k_is)
    (case z_sum => k_is)
    (case z_range => k_is)
    (case z_tuple => k_is)
    (case z_sorted => k_is)
    (case g_KIND_OF => k_is)
    (case gl_KIND_OF => k_is)
    (case g_OPERATIONS => k_is)
    (case gl_OPERATIONS => k_is)
    (case g_PART_OF => k_is)
    (case gl_PART_OF => k_is)
    (case tb_KIND_OF => refine' MP.TabIn.of ?l ?k ?s ?r; (case l => k_is); (case k => k_keys); (case s => decide); (case r => refine' MP.RowsT.row ?e1 ?x1 ?r1; (case e1 => decide +kernel); (case x1 => exact MP.KV1.str (by decide +kernel)); (case r1 => refine' MP.RowsT.row ?e2 ?x2 ?r2; (case e2 => decide +kernel); (case x2 => exact MP.KV1.str (by decide +kernel)); (case r2 => exact MP.RowsT.nil))))
    (case tb_OPERATIONS => refine' MP.TabIn.of ?l ?k ?s ?r; (case l => k_is); (case k => k_keys); (case s => decide); (case r => refine' MP.RowsT.row ?e3 ?x3 ?r3; (case e3 => decide +kernel); (case x3 => refine MP.TupIn.val ?_; refine' MP.TupIn.of ?l4 ?n4 ?v4; (case l4 => k_is); (case n4 => decide); (case v4 => refine' MP.KVs.cons ?x5 ?r5; (case x5 => exact MP.KV1.str (by decide +kernel)); (case r5 => refine' MP.KVs.cons ?x6 ?r6; (case x6 => exact MP.KV1.str (by decide +kernel)); (case r6 => exact MP.KVs.nil)))); (case r3 => refine' MP.RowsT.row ?e7 ?x7 ?r7; (case e7 => decide +kernel); (case x7 => refine MP.TupIn.val ?_; refine' MP.TupIn.of ?l8 ?n8 ?v8; (case l8 => k_is); (case n8 => decide); (case v8 => refine' MP.KVs.cons ?x9 ?r9; (case x9 => exact MP.KV1.str (by decide +kernel)); (case r9 => refine' MP.KVs.cons ?x10 ?r10; (case x10 => exact MP.KV1.str (by decide +kernel)); (case r10 => exact MP.KVs.nil)))); (case r7 => refine' MP.RowsT.row ?e11 ?x11 ?r11; (case e11 => decide +kernel); (case x11 => refine MP.TupIn.val ?_; refine' MP.TupIn.of ?l12 ?n12 ?v12; (case l12 => k_is); (case n12 => decide); (case v12 => refine' MP.KVs.cons ?x13 ?r13; (case x13 => exact MP.KV1.str (by decide +kernel)); (case r13 => refine' MP.KVs.cons ?x14 ?r14; (case x14 => exact MP.KV1.str (by decide +kernel)); (case r14 => exact MP.KVs.nil)))); (case r11 => refine' MP.RowsT.row ?e15 ?x15 ?r15; (case e15 => decide +kernel); (case x15 => refine MP.TupIn.val ?_; refine' MP.TupIn.of ?l16 ?n16 ?v16; (case l16 => k_is); (case n16 => decide); (case v16 => refine' MP.KVs.cons ?x17 ?r17; (case x17 => exact MP.KV1.str (by decide +kernel)); (case r17 => refine' MP.KVs.cons ?x18 ?r18; (case x18 => exact MP.KV1.str (by decide +kernel)); (case r18 => exact MP.KVs.nil)))); (case r15 => refine' MP.RowsT.row ?e19 ?x19 ?r19; (case e19 => decide +kernel); (case x19 => refine MP.TupIn.val ?_; refine' MP.TupIn.of ?l20 ?n20 ?v20; (case l20 => k_is); (case n20 => decide); (case v20 => refine' MP.KVs.cons ?x21 ?r21; (case x21 => exact MP.KV1.str (by decide +kernel)); (case r21 => refine' MP.KVs.cons ?x22 ?r22; (case x22 => exact MP.KV1.str (by decide +kernel)); (case r22 => exact MP.KVs.nil)))); (case r19 => refine' MP.RowsT.row ?e23 ?x23 ?r23; (case e23 => decide +kernel); (case x23 => refine MP.TupIn.val ?_; refine' MP.TupIn.of ?l24 ?n24 ?v24; (case l24 => k_is); (case n24 => decide); (case v24 => refine' MP.KVs.cons ?x25 ?r25; (case x25 => exact MP.KV1.str (by decide +kernel)); (case r25 => refine' MP.KVs.cons ?x26 ?r26; (case x26 => exact MP.KV1.str (by decide +kernel)); (case r26 => exact MP.KVs.nil)))); (case r23 => refine' MP.RowsT.row ?e27 ?x27 ?r27; (case e27 => decide +kernel); (case x27 => refine MP.TupIn.val ?_; refine' MP.TupIn.of ?l28 ?n28 ?v28; (case l28 => k_is); (case n28 => decide); (case v28 => refine' MP.KVs.cons ?x29 ?r29; (case x29 => exact MP.KV1.str (by decide +kernel)); (case r29 => refine' MP.KVs.cons ?x30 ?r30; (case x30 => exact MP.KV1.str (by decide +kernel)); (case r30 => exact MP.KVs.nil)))); (case r27 => refine' MP.RowsT.row ?e31 ?x31 ?r31; (case e31 => decide +kernel); (case x31 => refine MP.TupIn.val ?_; refine' MP.TupIn.of ?l32 ?n32 ?v32; (case l32 => k_is); (case n32 => decide); (case v32 => refine' MP.KVs.cons ?x33 ?r33; (case x33 => exact MP.KV1.str (by decide +kernel)); (case r33 => refine' MP.KVs.cons ?x34 ?r34; (case x34 => exact MP.KV1.str (by decide +kernel)); (case r34 => exact MP.KVs.nil)))); (case r31 => refine' MP.RowsT.row ?e35 ?x35 ?r35; (case e35 => decide +kernel); (case x35 => refine MP.TupIn.val ?_; refine' MP.TupIn.of ?l36 ?n36 ?v36; (case l36 => k_is); (case n36 => decide); (case v36 => refine' MP.KVs.cons ?x37 ?r37; (case x37 => exact MP.KV1.str (by decide +kernel)); (case r37 => refine' MP.KVs.cons ?x38 ?r38; (case x38 => exact MP.KV1.str (by decide +kernel)); (case r38 => exact MP.KVs.nil)))); (case r35 => refine' MP.RowsT.row ?e39 ?x39 ?r39; (case e39 => decide +kernel); (case x39 => refine MP.TupIn.val ?_; refine' MP.TupIn.of ?l40 ?n40 ?v40; (case l40 => k_is); (case n40 => decide); (case v40 => refine' MP.KVs.cons ?x41 ?r41; (case x41 => exact MP.KV1.str (by decide +kernel)); (case r41 => refine' MP.KVs.cons ?x42 ?r42; (case x42 => exact MP.KV1.str (by decide +kernel)); (case r42 => exact MP.KVs.nil)))); (case r39 => refine' MP.RowsT.row ?e43 ?x43 ?r43; (case e43 => decide +kernel); (case x43 => refine MP.TupIn.val ?_; refine' MP.TupIn.of ?l44 ?n44 ?v44; (case l44 => k_is); (case n44 => decide); (case v44 => refine' MP.KVs.cons ?x45 ?r45; (case x45 => exact MP.KV1.str (by decide +kernel)); (case r45 => refine' MP.KVs.cons ?x46 ?r46; (case x46 => exact MP.KV1.str (by decide +kernel)); (case r46 => exact MP.KVs.nil)))); (case r43 => refine' MP.RowsT.row ?e47 ?x47 ?r47; (case e47 => decide +kernel); (case x47 => refine MP.TupIn.val ?_; refine' MP.TupIn.of ?l48 ?n48 ?v48; (case l48 => k_is); (case n48 => decide); (case v48 => refine' MP.KVs.cons ?x49 ?r49; (case x49 => exact MP.KV1.str (by decide +kernel)); (case r49 => refine' MP.KVs.cons ?x50 ?r50; (case x50 => exact MP.KV1.str (by decide +kernel)); (case r50 => exact MP.KVs.nil)))); (case r47 => refine' MP.RowsT.row ?e51 ?x51 ?r51; (case e51 => decide +kernel); (case x51 => refine MP.TupIn.val ?_; refine' MP.TupIn.of ?l52 ?n52 ?v52; (case l52 => k_is); (case n52 => decide); (case v52 => refine' MP.KVs.cons ?x53 ?r53; (case x53 => exact MP.KV1.str (by decide +kernel)); (case r53 => refine' MP.KVs.cons ?x54 ?r54; (case x54 => exact MP.KV1.str (by decide +kernel)); (case r54 => exact MP.KVs.nil)))); (case r51 => refine' MP.RowsT.row ?e55 ?x55 ?r55; (case e55 => decide +kernel); (case x55 => refine MP.TupIn.val ?_; refine' MP.TupIn.of ?l56 ?n56 ?v56; (case l56 => k_is); (case n56 => decide); (case v56 => refine' MP.KVs.cons ?x57 ?r57; (case x57 => exact MP.KV1.str (by decide +kernel)); (case r57 => refine' MP.KVs.cons ?x58 ?r58; (case x58 => exact MP.KV1.non); (case r58 => exact MP.KVs.nil)))); (case r55 => refine' MP.RowsT.row ?e59 ?x59 ?r59; (case e59 => decide +kernel); (case x59 => refine MP.TupIn.val ?_; refine' MP.TupIn.of ?l60 ?n60 ?v60; (case l60 => k_is); (case n60 => decide); (case v60 => refine' MP.KVs.cons ?x61 ?r61; (case x61 => exact MP.KV1.str (by decide +kernel)); (case r61 => refine' MP.KVs.cons ?x62 ?r62; (case x62 => exact MP.KV1.str (by decide +kernel)); (case r62 => exact MP.KVs.nil)))); (case r59 => exact MP.RowsT.nil)))))))))))))))))
    (case tb_PART_OF => refine' MP.TabIn.of ?l ?k ?s ?r; (case l => k_is); (case k => k_keys); (case s => decide); (case r => refine' MP.RowsT.row ?e63 ?x63 ?r63; (case e63 => decide +kernel); (case x63 => exact MP.KV1.str (by decide +kernel)); (case r63 => refine' MP.RowsT.row ?e64 ?x64 ?r64; (case e64 => decide +kernel); (case x64 => exact MP.KV1.str (by decide +kernel)); (case r64 => exact MP.RowsT.nil))))
