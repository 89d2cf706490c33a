import PyProof.Rows.All
import Wide.All
import OpenK.AllK
import Wide.FinOn
import HandS.ForMost
import HandS.Deep
import KE.Datum
import HandS.Defaults
import HandS.Wide
import HandS.Style
import HandS.Flow
import HandS.Sort
import HandS.Conv
import HandS.Small
import HandS.HeadEnd
import HandS.MakeKwOnly
import KE.BitLaws
import KE.SortKeyHeap
import PyProof.SumWalkG
import KE.DatumOrd
import HandS.SortKw
import PyProof.ReprRoads
import PyProof.Rows.ReprR
import KE.GoesMore
import HandS.TupAny
import HandS.TryOnly
import HandS.IsInst
import PyProof.ReprLen
import KE.KStateDown
import HandS.HeadHook2
import HandS.Head0
import HandS.Head1
import HandS.Head2
import HandS.HeadHook1
import PySem.Challenge.RW_meetrow_k14_between_and_meet
set_option Elab.async false
set_option linter.all false
set_option maxRecDepth 100000
set_option maxHeartbeats 4000000
/-! T1: data as trees, what a tree stands for in the abstract heap, how the heap may go on -/
namespace TT
open PySem PySem.Spec PyProof.Rows L2

/-- data as trees; o: owned (may be changed by who holds it), else frozen -/
inductive D where
  | non | bl (b : Bool) | int (i : Int) | str (x : Str) | byt (b : Array UInt8) | ty (n : String)
  | tup (xs : List D)
  | lst (o : Bool) (xs : List D)
  /-- a list of the module's own, or the script -/
  | kst (xs : List D)
  | dct (o : Bool) (kvs : List (Key × D))
  | dtt (o : Bool) (kvs : List (List Key × D))
  | ins (o : Bool) (C : Addr) (fs : List (Str × D))

mutual
def D.frz : D → D
  | .non => .non
  | .bl b => .bl b
  | .int i => .int i
  | .str x => .str x
  | .byt b => .byt b
  | .ty n => .ty n
  | .tup xs => .tup (frzL xs)
  | .lst _ xs => .lst false (frzL xs)
  | .kst xs => .kst (frzL xs)
  | .dct _ kvs => .dct false (frzK kvs)
  | .dtt _ kvs => .dtt false (frzT kvs)
  | .ins _ C fs => .ins false C (frzF fs)
def frzL : List D → List D
  | [] => []
  | d :: r => d.frz :: frzL r
def frzK : List (Key × D) → List (Key × D)
  | [] => []
  | (k, d) :: r => (k, d.frz) :: frzK r
def frzT : List (List Key × D) → List (List Key × D)
  | [] => []
  | (k, d) :: r => (k, d.frz) :: frzT r
def frzF : List (Str × D) → List (Str × D)
  | [] => []
  | (k, d) :: r => (k, d.frz) :: frzF r
end
theorem frzL_map : ∀ xs : List D, frzL xs = xs.map D.frz
  | [] => by rw [frzL]; rfl
  | d :: r => by rw [frzL, frzL_map r]; rfl
theorem frzK_map : ∀ xs : List (Key × D), frzK xs = xs.map fun p => (p.1, p.2.frz)
  | [] => by rw [frzK]; rfl
  | (k, d) :: r => by rw [frzK, frzK_map r]; rfl
theorem frzT_map : ∀ xs : List (List Key × D), frzT xs = xs.map fun p => (p.1, p.2.frz)
  | [] => by rw [frzT]; rfl
  | (k, d) :: r => by rw [frzT, frzT_map r]; rfl
theorem frzF_map : ∀ xs : List (Str × D), frzF xs = xs.map fun p => (p.1, p.2.frz)
  | [] => by rw [frzF]; rfl
  | (k, d) :: r => by rw [frzF, frzF_map r]; rfl

abbrev AS := Addr → Prop
/-! in Z (frozen) and H (all): v is the tree d; owned nodes lie in F, each once -/
mutual
inductive Rep (K : PySem.W.Frag) (Z H : Hp) : V → D → AS → Prop
  | non {F} : Rep K Z H .non .non F
  | bl {F} (b : Bool) : Rep K Z H (.bl b) (.bl b) F
  | int {F} (i : Int) : Rep K Z H (.int i) (.int i) F
  | str {F} (x : Str) : Rep K Z H (.str x) (.str x) F
  | byt {F} (x : Array UInt8) : Rep K Z H (.byt x) (.byt x) F
  | ty {F} (n : String) : Rep K Z H (.ty n) (.ty n) F
  | tup {F a vs xs} : Z a = some (.tup vs) → RepL K Z H vs xs F → Rep K Z H (.ref a) (.tup xs) F
  | lstO {F G : AS} {a vs xs} : F a → H a = some (.lst vs) → Z a = none → RepL K Z H vs xs G → (∀ b, G b → F b ∧ b ≠ a) → Rep K Z H (.ref a) (.lst true xs) F
  | lstF {F a vs xs} : Rd Z a (.lst vs) → RepL K Z H vs xs (fun _ => False) → Rep K Z H (.ref a) (.lst false xs) F
  | kst {F a vs xs} : SqL K Z a vs → RepL K Z H vs xs (fun _ => False) → Rep K Z H (.ref a) (.kst xs) F
  | dctO {F G : AS} {a m kvs} : F a → H a = some (.dK m) → Z a = none → m.map (·.1) = kvs.map (·.1) → RepL K Z H (m.map (·.2)) (kvs.map (·.2)) G → (∀ b, G b → F b ∧ b ≠ a) → Rep K Z H (.ref a) (.dct true kvs) F
  | dctF {F a m kvs} : Rd Z a (.dK m) → m.map (·.1) = kvs.map (·.1) → RepL K Z H (m.map (·.2)) (kvs.map (·.2)) (fun _ => False) → Rep K Z H (.ref a) (.dct false kvs) F
  | dttO {F G : AS} {a m kvs} : F a → H a = some (.dT m) → Z a = none → m.map (·.1) = kvs.map (·.1) → RepL K Z H (m.map (·.2)) (kvs.map (·.2)) G → (∀ b, G b → F b ∧ b ≠ a) → Rep K Z H (.ref a) (.dtt true kvs) F
  | dttF {F a m kvs} : Rd Z a (.dT m) → m.map (·.1) = kvs.map (·.1) → RepL K Z H (m.map (·.2)) (kvs.map (·.2)) (fun _ => False) → Rep K Z H (.ref a) (.dtt false kvs) F
  | insO {F G : AS} {a C dx m fs} : F a → H a = some (.ins C dx m) → Z a = none → m.map (·.1) = fs.map (·.1) → RepL K Z H (m.map (·.2)) (fs.map (·.2)) G → (∀ b, G b → F b ∧ b ≠ a) → Rep K Z H (.ref a) (.ins true C fs) F
  | insF {F a C dx m fs} : Z a = some (.ins C dx m) → m.map (·.1) = fs.map (·.1) → RepL K Z H (m.map (·.2)) (fs.map (·.2)) (fun _ => False) → Rep K Z H (.ref a) (.ins false C fs) F
inductive RepL (K : PySem.W.Frag) (Z H : Hp) : List V → List D → AS → Prop
  | nil {F} : RepL K Z H [] [] F
  | cons {F G E : AS} {v vs d ds} : Rep K Z H v d G → RepL K Z H vs ds E → (∀ b, G b → F b) → (∀ b, E b → F b ∧ ¬ G b) → RepL K Z H (v :: vs) (d :: ds) F
end

theorem Rep.mono {K : PySem.W.Frag} {Z H : Hp} {v : V} {d : D} {F G : AS} (r : Rep K Z H v d F) (h : ∀ b, F b → G b) : Rep K Z H v d G := by
  cases r with
  | non => exact .non
  | bl => exact .bl _
  | int => exact .int _
  | str => exact .str _
  | byt => exact .byt _
  | ty => exact .ty _
  | tup a b =>
    refine .tup a ?_
    cases b with
    | nil => exact .nil
    | cons p q r s => exact .cons p q (fun b z => h b (r b z)) (fun b z => ⟨h b (s b z).1, (s b z).2⟩)
  | lstO a b c e f => exact .lstO (h _ a) b c e fun b z => ⟨h b (f b z).1, (f b z).2⟩
  | lstF a b => exact .lstF a b
  | kst a b => exact .kst a b
  | dctO a b c e f g => exact .dctO (h _ a) b c e f fun b z => ⟨h b (g b z).1, (g b z).2⟩
  | dctF a b c => exact .dctF a b c
  | dttO a b c e f g => exact .dttO (h _ a) b c e f fun b z => ⟨h b (g b z).1, (g b z).2⟩
  | dttF a b c => exact .dttF a b c
  | insO a b c e f g => exact .insO (h _ a) b c e f fun b z => ⟨h b (g b z).1, (g b z).2⟩
  | insF a b c => exact .insF a b c
theorem RepL.mono {K : PySem.W.Frag} {Z H : Hp} {v : List V} {d : List D} {F G : AS} (r : RepL K Z H v d F) (h : ∀ b, F b → G b) : RepL K Z H v d G := by
  cases r with
  | nil => exact .nil
  | cons p q r s => exact .cons p q (fun b z => h b (r b z)) (fun b z => ⟨h b (s b z).1, (s b z).2⟩)

theorem Rd.sub {Z Z' : Hp} {a : Addr} {u : HO} (h : ∀ a o, Z a = some o → Z' a = some o) (r : Rd Z a u) : Rd Z' a u := by
  rcases r with r | ⟨o, r⟩
  · exact .inl (h _ _ r)
  · exact .inr ⟨o, h _ _ r⟩
theorem SqL.sub {K : PySem.W.Frag} {Z Z' : Hp} {a : Addr} {xs : List V} (h : ∀ a o, Z a = some o → Z' a = some o) (r : SqL K Z a xs) : SqL K Z' a xs := by
  rcases r with r | r
  · exact .inl (Rd.sub h r)
  · exact .inr r
/-- a tree stays where the heap changes elsewhere -/
theorem Rep.keep {K : PySem.W.Frag} {Z H Z' H' : Hp} {v : V} {d : D} {F : AS} (hz : ∀ a o, Z a = some o → Z' a = some o) (r : Rep K Z H v d F)
    (hh : ∀ a o, F a → H a = some o → Z a = none → H' a = some o ∧ Z' a = none) : Rep K Z' H' v d F := by
  refine Rep.rec (K := K) (Z := Z) (H := H) (motive_1 := fun v d F _ => (∀ a o, F a → H a = some o → Z a = none → H' a = some o ∧ Z' a = none) → Rep K Z' H' v d F) (motive_2 := fun v d F _ => (∀ a o, F a → H a = some o → Z a = none → H' a = some o ∧ Z' a = none) → RepL K Z' H' v d F)
    ?_ ?_ ?_ ?_ ?_ ?_ ?_ ?_ ?_ ?_ ?_ ?_ ?_ ?_ ?_ ?_ ?_ ?_ r hh
  · intro F hh; exact .non
  · intro F b hh; exact .bl b
  · intro F b hh; exact .int b
  · intro F b hh; exact .str b
  · intro F b hh; exact .byt b
  · intro F b hh; exact .ty b
  · intro F a vs xs h1 h2 ih hh; exact .tup (hz _ _ h1) (ih hh)
  · intro F G a vs xs h1 h2 h3 h4 h5 ih hh
    exact .lstO h1 (hh _ _ h1 h2 h3).1 (hh _ _ h1 h2 h3).2 (ih fun a o g => hh a o (h5 a g).1) h5
  · intro F a vs xs h1 h2 ih hh; exact .lstF (Rd.sub hz h1) (ih fun a o g => g.elim)
  · intro F a vs xs h1 h2 ih hh; exact .kst (SqL.sub hz h1) (ih fun a o g => g.elim)
  · intro F G a m kvs h1 h2 h3 h4 h5 h6 ih hh
    exact .dctO h1 (hh _ _ h1 h2 h3).1 (hh _ _ h1 h2 h3).2 h4 (ih fun a o g => hh a o (h6 a g).1) h6
  · intro F a m kvs h1 h2 h3 ih hh; exact .dctF (Rd.sub hz h1) h2 (ih fun a o g => g.elim)
  · intro F G a m kvs h1 h2 h3 h4 h5 h6 ih hh
    exact .dttO h1 (hh _ _ h1 h2 h3).1 (hh _ _ h1 h2 h3).2 h4 (ih fun a o g => hh a o (h6 a g).1) h6
  · intro F a m kvs h1 h2 h3 ih hh; exact .dttF (Rd.sub hz h1) h2 (ih fun a o g => g.elim)
  · intro F G a C dx m fs h1 h2 h3 h4 h5 h6 ih hh
    exact .insO h1 (hh _ _ h1 h2 h3).1 (hh _ _ h1 h2 h3).2 h4 (ih fun a o g => hh a o (h6 a g).1) h6
  · intro F a C dx m fs h1 h2 h3 ih hh; exact .insF (hz _ _ h1) h2 (ih fun a o g => g.elim)
  · intro F hh; exact .nil
  · intro F G E v vs d ds h1 h2 h3 h4 ih1 ih2 hh
    exact .cons (ih1 fun a o g => hh a o (h3 a g)) (ih2 fun a o g => hh a o (h4 a g).1) h3 h4
theorem RepL.keep {K : PySem.W.Frag} {Z H Z' H' : Hp} (hz : ∀ a o, Z a = some o → Z' a = some o) : ∀ {vs : List V} {ds : List D} {F : AS}, RepL K Z H vs ds F →
    (∀ a o, F a → H a = some o → Z a = none → H' a = some o ∧ Z' a = none) → RepL K Z' H' vs ds F
  | _, _, _, .nil, _ => .nil
  | _, _, _, .cons h1 h2 h3 h4, hh => .cons (h1.keep hz fun a o g => hh a o (h3 a g)) (RepL.keep hz h2 fun a o g => hh a o (h4 a g).1) h3 h4
end TT

/-! T2: states, steps, the judgements on trees -/
namespace TT
open PySem PySem.Spec PyProof.Rows L2
abbrev Env := List (Option D)
/-- the heap went on; what is owned in F0 may have changed -/
structure Ext (Z H : Hp) (F0 : AS) (Z' H' : Hp) : Prop where
  zs : ∀ a o, Z a = some o → Z' a = some o
  fr : ∀ a o, H a = some o → ¬ F0 a → H' a = some o
  th : ∀ a o, H a = some o → ∃ o', H' a = some o'
  nz : ∀ a o, Z' a = some o → Z a = none → H a = none ∨ F0 a
theorem Ext.refl (Z H : Hp) (F0 : AS) : Ext Z H F0 Z H :=
  ⟨fun _ _ h => h, fun _ _ h _ => h, fun _ o h => ⟨o, h⟩, fun a o h n => by rw [n] at h; cases h⟩
theorem Ext.trans {Z H Z1 H1 Z2 H2 : Hp} {F0 F1 F2 : AS} (a : Ext Z H F0 Z1 H1) (b : Ext Z1 H1 F1 Z2 H2) (h0 : ∀ c, F0 c → F2 c) (h : ∀ c, F1 c → F2 c ∨ H c = none) : Ext Z H F2 Z2 H2 where
  zs := fun c o e => b.zs c o (a.zs c o e)
  fr := fun c o e n => b.fr c o (a.fr c o e fun z => n (h0 c z)) fun z => (h c z).elim n fun q => by rw [e] at q; cases q
  th := fun c o e => let ⟨o', e'⟩ := a.th c o e; b.th c o' e'
  nz := fun c o e n => by
    cases q : Z1 c with
    | some u => exact (a.nz c u q n).elim .inl fun z => .inr (h0 c z)
    | none =>
      rcases b.nz c o e q with z | z
      · refine .inl ?_
        cases q2 : H c with
        | none => rfl
        | some u =>
          obtain ⟨o', e'⟩ := a.th c u q2
          rw [z] at e'; cases e'
      · exact (h c z).elim .inr .inl
theorem Ext.mono {Z H Z1 H1 : Hp} {F0 F1 : AS} (a : Ext Z H F0 Z1 H1) (h : ∀ c, F0 c → F1 c) : Ext Z H F1 Z1 H1 :=
  ⟨a.zs, fun c o e n => a.fr c o e fun z => n (h c z), a.th, fun c o e n => (a.nz c o e n).elim .inl fun z => .inr (h c z)⟩
theorem Rep.ext {K : PySem.W.Frag} {Z H Z' H' : Hp} {v : V} {d : D} {F F0 : AS} (r : Rep K Z H v d F) (x : Ext Z H F0 Z' H') (ap : ∀ a, F a → ¬ F0 a) : Rep K Z' H' v d F :=
  r.keep x.zs fun a o f h z => ⟨x.fr a o h (ap a f), by
    cases q : Z' a with
    | none => rfl
    | some u =>
      rcases x.nz a u q z with e | e
      · rw [h] at e; cases e
      · exact absurd e (ap a f)⟩
theorem RepL.ext {K : PySem.W.Frag} {Z H Z' H' : Hp} {v : List V} {d : List D} {F F0 : AS} (r : RepL K Z H v d F) (x : Ext Z H F0 Z' H') (ap : ∀ a, F a → ¬ F0 a) : RepL K Z' H' v d F :=
  RepL.keep x.zs r fun a o f h z => ⟨x.fr a o h (ap a f), by
    cases q : Z' a with
    | none => rfl
    | some u =>
      rcases x.nz a u q z with e | e
      · rw [h] at e; cases e
      · exact absurd e (ap a f)⟩

/-- a state: what is frozen, the heap, the names' trees, what each name owns -/
structure W where
  Z : Hp
  H : Hp
  env : Env
  F : Nat → AS
structure SR (K : PySem.W.Frag) (σ : L2.St) (S : W) : Prop where
  zh : ∀ a o, S.Z a = some o → S.H a = some o
  sl : ∀ i d, S.env[i]? = some (some d) → ∃ v, σ[i]? = some (some v) ∧ Rep K S.Z S.H v d (S.F i)
  ap : ∀ i j a, S.F i a → S.F j a → i = j
  tr : ∀ i a, S.F i a → (∃ o, S.H a = some o) ∧ S.Z a = none
  ln : S.env.length = σ.length
/-- a step that may change what the names M own -/
structure Stp (M : List Nat) (S S' : W) : Prop where
  ext : Ext S.Z S.H (fun a => ∃ i, i ∈ M ∧ S.F i a) S'.Z S'.H
  frm : ∀ i, i ∉ M → S'.env[i]? = S.env[i]? ∧ S'.F i = S.F i
  nf : ∀ i a, i ∈ M → S'.F i a → (∃ j, j ∈ M ∧ S.F j a) ∨ S.H a = none
theorem Stp.refl (M : List Nat) (S : W) : Stp M S S := ⟨Ext.refl _ _ _, fun _ _ => ⟨rfl, rfl⟩, fun i a m h => .inl ⟨i, m, h⟩⟩
theorem Stp.none_of {M : List Nat} {S S' : W} (x : Stp M S S') {a : Addr} (h : S'.H a = none) : S.H a = none := by
  cases q : S.H a with
  | none => rfl
  | some u =>
    obtain ⟨o', e'⟩ := x.ext.th a u q
    rw [h] at e'; cases e'
theorem Stp.any {M : List Nat} {S S' : W} (x : Stp M S S') {i : Nat} {a : Addr} (h : S'.F i a) : (∃ j, S.F j a) ∨ S.H a = none := by
  by_cases hi : i ∈ M
  · rcases x.nf i a hi h with ⟨j, _, e⟩ | e
    · exact .inl ⟨j, e⟩
    · exact .inr e
  · rw [(x.frm i hi).2] at h
    exact .inl ⟨i, h⟩
theorem Stp.mono {M N : List Nat} {S S' : W} (x : Stp M S S') (h : ∀ i, i ∈ M → i ∈ N) : Stp N S S' :=
  ⟨x.ext.mono fun c ⟨i, a, b⟩ => ⟨i, h i a, b⟩, fun i n => x.frm i fun z => n (h i z), fun i a hi hf => by
    by_cases hm : i ∈ M
    · rcases x.nf i a hm hf with ⟨j, e1, e⟩ | e
      · exact .inl ⟨j, h j e1, e⟩
      · exact .inr e
    · rw [(x.frm i hm).2] at hf
      exact .inl ⟨i, hi, hf⟩⟩
theorem Stp.trans {M N : List Nat} {S S1 S2 : W} (x : Stp M S S1) (y : Stp N S1 S2) : Stp (M ++ N) S S2 := by
  have key : ∀ i c, i ∈ M ++ N → S1.F i c → (∃ j, j ∈ M ++ N ∧ S.F j c) ∨ S.H c = none := fun i c hi b => by
    by_cases hm : i ∈ M
    · rcases x.nf i c hm b with ⟨j, e1, e⟩ | e
      · exact .inl ⟨j, List.mem_append_left _ e1, e⟩
      · exact .inr e
    · rw [(x.frm i hm).2] at b
      exact .inl ⟨i, hi, b⟩
  refine ⟨x.ext.trans y.ext (fun c ⟨i, a, b⟩ => ⟨i, List.mem_append_left _ a, b⟩) fun c ⟨i, a, b⟩ => key i c (List.mem_append_right _ a) b, fun i n => ?_, fun i a hi h => ?_⟩
  · have h1 := x.frm i fun z => n (List.mem_append_left _ z)
    have h2 := y.frm i fun z => n (List.mem_append_right _ z)
    exact ⟨h2.1.trans h1.1, h2.2.trans h1.2⟩
  · by_cases hn : i ∈ N
    · rcases y.nf i a hn h with ⟨j, e1, e⟩ | e
      · exact key j a (List.mem_append_right _ e1) e
      · exact .inr (x.none_of e)
    · rw [(y.frm i hn).2] at h
      exact key i a hi h

/-- a value v that is the tree d, owned in Fv: apart from all names but for R -/
structure VP (K : PySem.W.Frag) (M R : List Nat) (S S' : W) (v : V) (d : D) (Fv : AS) : Prop where
  rep : Rep K S'.Z S'.H v d Fv
  tv : ∀ a, Fv a → (∃ o, S'.H a = some o) ∧ S'.Z a = none
  ow : ∀ a, Fv a → (∃ i, i ∈ R ∧ S'.F i a) ∨ ((∀ i, ¬ S'.F i a) ∧ (S.H a = none ∨ ∃ i, i ∈ M ∧ S.F i a))
def Dj (R M : List Nat) : Bool := R.all fun i => !(M.contains i)
theorem dj_out {R M : List Nat} (h : Dj R M = true) {i : Nat} (hi : i ∈ R) : i ∉ M := by
  have := List.all_eq_true.mp h i hi
  intro z
  simp [z] at this
section
variable {K : PySem.W.Frag} {M N R : List Nat} {S S1 S2 : W} {σ : L2.St} {v : V} {d : D} {Fv : AS}
/-- a value stays apart from what a later step changes -/
theorem VP.off (h : VP K M R S S1 v d Fv) (s1 : SR K σ S1) (dj : Dj R N = true) : ∀ a, Fv a → ¬ ∃ i, i ∈ N ∧ S1.F i a := by
  rintro a ha ⟨i, hi, hf⟩
  rcases h.ow a ha with ⟨r, hr, e⟩ | ⟨e, _⟩
  · exact (dj_out dj hr) (s1.ap r i a e hf ▸ hi)
  · exact e i hf
theorem VP.later (h : VP K M R S S1 v d Fv) (s1 : SR K σ S1) (x : Stp M S S1) (y : Stp N S1 S2) (dj : Dj R N = true) : VP K (M ++ N) R S S2 v d Fv := by
  have off := h.off s1 dj
  refine ⟨h.rep.ext y.ext off, fun a ha => ?_, fun a ha => ?_⟩
  · obtain ⟨⟨o, e⟩, z⟩ := h.tv a ha
    refine ⟨⟨o, y.ext.fr a o e (off a ha)⟩, ?_⟩
    cases q : S2.Z a with
    | none => rfl
    | some u =>
      rcases y.ext.nz a u q z with e' | e'
      · rw [e] at e'; cases e'
      · exact absurd e' (off a ha)
  · rcases h.ow a ha with ⟨r, hr, e⟩ | ⟨e, e2⟩
    · exact .inl ⟨r, hr, by rw [(y.frm r (dj_out dj hr)).2]; exact e⟩
    · refine .inr ⟨fun i z => ?_, e2.imp id fun ⟨i, a1, a2⟩ => ⟨i, List.mem_append_left _ a1, a2⟩⟩
      rcases y.any z with ⟨j, q⟩ | q
      · exact e j q
      · obtain ⟨⟨o, e'⟩, _⟩ := h.tv a ha
        rw [e'] at q; cases q
theorem VP.first (h : VP K N R S1 S2 v d Fv) (x : Stp M S S1) : VP K (M ++ N) R S S2 v d Fv := by
  refine ⟨h.rep, h.tv, fun a ha => ?_⟩
  rcases h.ow a ha with e | ⟨e, e2⟩
  · exact .inl e
  · refine .inr ⟨e, ?_⟩
    rcases e2 with q | ⟨i, a1, a2⟩
    · exact .inl (x.none_of q)
    · by_cases hm : i ∈ M
      · rcases x.nf i a hm a2 with ⟨j, q1, q2⟩ | q
        · exact .inr ⟨j, List.mem_append_left _ q1, q2⟩
        · exact .inl q
      · rw [(x.frm i hm).2] at a2
        exact .inr ⟨i, List.mem_append_right _ a1, a2⟩
theorem VP.mono {R' : List Nat} (h : VP K M R S S1 v d Fv) (hm : ∀ i, i ∈ M → i ∈ N) (hr : ∀ i, i ∈ R → i ∈ R') : VP K N R' S S1 v d Fv :=
  ⟨h.rep, h.tv, fun a ha => (h.ow a ha).imp (fun ⟨i, a, b⟩ => ⟨i, hr i a, b⟩) fun ⟨a, b⟩ => ⟨a, b.imp id fun ⟨i, a, b⟩ => ⟨i, hm i a, b⟩⟩⟩
/-- a value that owns nothing -/
theorem VP.imm (h : Rep K S1.Z S1.H v d (fun _ => False)) : VP K M R S S1 v d (fun _ => False) := ⟨h, fun _ z => z.elim, fun _ z => z.elim⟩
end

/-! ### expressions -/
abbrev TX := Env → (D → Env → Prop) → Prop
def lift (K : PySem.W.Frag) (M R : List Nat) (t : TX) : TE := fun σ H Q => ∃ S Qt, S.H = H ∧ SR K σ S ∧ t S.env Qt ∧
  ∀ S' v d Fv, Qt d S'.env → SR K σ S' → Stp M S S' → VP K M R S S' v d Fv → Q v S'.H
structure XX (X : Cx) (e : Expr) (M R : List Nat) (t : TX) : Prop where
  pe : PE X e (lift X.K M R t)
theorem pe_imp {X : Cx} {e : Expr} {t t' : TE} (h : PE X e t) (i : ∀ σ H Q, t' σ H Q → t σ H Q) : PE X e t' := ⟨fun pins s σ H Q I q => h.run pins s σ H Q I (i σ H Q q)⟩
theorem pt_imp {X : Cx} {e : Expr} {t t' : TT} (h : PT X e t) (i : ∀ σ H Q, t' σ H Q → t σ H Q) : PT X e t' := ⟨fun pins s σ H Q I q => h.run pins s σ H Q I (i σ H Q q)⟩
theorem ps_imp {X : Cx} {e : Stmt} {t t' : TS} (h : PS X e t) (i : ∀ D σ H, t' D σ H → t D σ H) : PS X e t' := ⟨fun pins s σ H D I q => h.run pins s σ H D I (i D σ H q)⟩
theorem pss_imp {X : Cx} {e : List Stmt} {t t' : TS} (h : PSs X e t) (i : ∀ D σ H, t' D σ H → t D σ H) : PSs X e t' := ⟨fun pins s σ H D I q => h.run pins s σ H D I (i D σ H q)⟩
/-- tests -/
abbrev TXT := Env → (Bool → Env → Prop) → Prop
def liftT (K : PySem.W.Frag) (M : List Nat) (t : TXT) : L2.TT := fun σ H Q => ∃ S Qt, S.H = H ∧ SR K σ S ∧ t S.env Qt ∧
  ∀ S' b, Qt b S'.env → SR K σ S' → Stp M S S' → Q b S'.H
structure XT (X : Cx) (e : Expr) (M : List Nat) (t : TXT) : Prop where
  pt : PT X e (liftT X.K M t)
end TT

/-! T3: constants, names, fresh objects, displays -/
namespace TT
open PySem PySem.Spec PyProof.Rows L2
abbrev nF : AS := fun _ => False
theorem Rep.imm {K : PySem.W.Frag} {Z H H' : Hp} {v : V} {d : D} {F G : AS} (r : Rep K Z H v d F) (hd : d.frz = d) : Rep K Z H' v d G := by
  refine Rep.rec (K := K) (Z := Z) (H := H) (motive_1 := fun v d F _ => d.frz = d → ∀ G, Rep K Z H' v d G) (motive_2 := fun v d F _ => frzL d = d → ∀ G, RepL K Z H' v d G)
    ?_ ?_ ?_ ?_ ?_ ?_ ?_ ?_ ?_ ?_ ?_ ?_ ?_ ?_ ?_ ?_ ?_ ?_ r hd G
  · intro F _ G; exact .non
  · intro F b _ G; exact .bl b
  · intro F b _ G; exact .int b
  · intro F b _ G; exact .str b
  · intro F b _ G; exact .byt b
  · intro F b _ G; exact .ty b
  · intro F a vs xs h1 h2 ih e G
    rw [D.frz] at e
    exact .tup h1 (ih (D.tup.inj e) G)
  · intro F G a vs xs h1 h2 h3 h4 h5 ih e; rw [D.frz] at e; cases (D.lst.inj e).1
  · intro F a vs xs h1 h2 ih e G
    rw [D.frz] at e
    exact .lstF h1 (ih (D.lst.inj e).2 _)
  · intro F a vs xs h1 h2 ih e G
    rw [D.frz] at e
    exact .kst h1 (ih (D.kst.inj e) _)
  · intro F G a m kvs h1 h2 h3 h4 h5 h6 ih e; rw [D.frz] at e; cases (D.dct.inj e).1
  · intro F a m kvs h1 h2 h3 ih e G
    rw [D.frz] at e
    have e2 := (D.dct.inj e).2
    refine .dctF h1 h2 (ih ?_ _)
    rw [frzL_map, List.map_map]
    rw [frzK_map] at e2
    conv => rhs; rw [← e2]
    rw [List.map_map]; rfl
  · intro F G a m kvs h1 h2 h3 h4 h5 h6 ih e; rw [D.frz] at e; cases (D.dtt.inj e).1
  · intro F a m kvs h1 h2 h3 ih e G
    rw [D.frz] at e
    have e2 := (D.dtt.inj e).2
    refine .dttF h1 h2 (ih ?_ _)
    rw [frzL_map, List.map_map]
    rw [frzT_map] at e2
    conv => rhs; rw [← e2]
    rw [List.map_map]; rfl
  · intro F G a C dx m fs h1 h2 h3 h4 h5 h6 ih e; rw [D.frz] at e; cases (D.ins.inj e).1
  · intro F a C dx m fs h1 h2 h3 ih e G
    rw [D.frz] at e
    have e2 := (D.ins.inj e).2.2
    refine .insF h1 h2 (ih ?_ _)
    rw [frzL_map, List.map_map]
    rw [frzF_map] at e2
    conv => rhs; rw [← e2]
    rw [List.map_map]; rfl
  · intro F _ G; exact .nil
  · intro F G E v vs d ds h1 h2 h3 h4 ih1 ih2 e F'
    rw [frzL] at e
    exact .cons (G := nF) (E := nF) (ih1 (List.cons.inj e).1 _) (ih2 (List.cons.inj e).2 _) (fun _ z => z.elim) (fun _ z => z.elim)
theorem Rep.freeze {K : PySem.W.Frag} {Z H Z' H' : Hp} {v : V} {d : D} {F G : AS} (r : Rep K Z H v d F) (hz : ∀ a o, Z a = some o → Z' a = some o) (hh : ∀ a o, F a → H a = some o → Z a = none → Z' a = some o) : Rep K Z' H' v d.frz G := by
  refine Rep.rec (K := K) (Z := Z) (H := H) (motive_1 := fun v d F _ => (∀ a o, F a → H a = some o → Z a = none → Z' a = some o) → ∀ G, Rep K Z' H' v d.frz G) (motive_2 := fun v d F _ => (∀ a o, F a → H a = some o → Z a = none → Z' a = some o) → ∀ G, RepL K Z' H' v (frzL d) G)
    ?_ ?_ ?_ ?_ ?_ ?_ ?_ ?_ ?_ ?_ ?_ ?_ ?_ ?_ ?_ ?_ ?_ ?_ r hh G
  · intro F _ G; rw [D.frz]; exact .non
  · intro F b _ G; rw [D.frz]; exact .bl b
  · intro F b _ G; rw [D.frz]; exact .int b
  · intro F b _ G; rw [D.frz]; exact .str b
  · intro F b _ G; rw [D.frz]; exact .byt b
  · intro F b _ G; rw [D.frz]; exact .ty b
  · intro F a vs xs h1 h2 ih hh G; rw [D.frz]; exact .tup (hz _ _ h1) (ih hh G)
  · intro F G a vs xs h1 h2 h3 h4 h5 ih hh G'
    rw [D.frz]
    exact .lstF (.inl (hh _ _ h1 h2 h3)) (ih (fun a o g => hh a o (h5 a g).1) _)
  · intro F a vs xs h1 h2 ih hh G'; rw [D.frz]; exact .lstF (Rd.sub hz h1) (ih (fun a o g => g.elim) _)
  · intro F a vs xs h1 h2 ih hh G'; rw [D.frz]; exact .kst (SqL.sub hz h1) (ih (fun a o g => g.elim) _)
  · intro F G a m kvs h1 h2 h3 h4 h5 h6 ih hh G'
    rw [D.frz, frzK_map]
    refine .dctF (.inl (hh _ _ h1 h2 h3)) (by rw [h4, List.map_map]; rfl) ?_
    have q := ih (fun a o g => hh a o (h6 a g).1) nF
    rw [frzL_map, List.map_map] at q
    rw [List.map_map]; exact q
  · intro F a m kvs h1 h2 h3 ih hh G'
    rw [D.frz, frzK_map]
    refine .dctF (Rd.sub hz h1) (by rw [h2, List.map_map]; rfl) ?_
    have q := ih (fun a o g => g.elim) nF
    rw [frzL_map, List.map_map] at q
    rw [List.map_map]; exact q
  · intro F G a m kvs h1 h2 h3 h4 h5 h6 ih hh G'
    rw [D.frz, frzT_map]
    refine .dttF (.inl (hh _ _ h1 h2 h3)) (by rw [h4, List.map_map]; rfl) ?_
    have q := ih (fun a o g => hh a o (h6 a g).1) nF
    rw [frzL_map, List.map_map] at q
    rw [List.map_map]; exact q
  · intro F a m kvs h1 h2 h3 ih hh G'
    rw [D.frz, frzT_map]
    refine .dttF (Rd.sub hz h1) (by rw [h2, List.map_map]; rfl) ?_
    have q := ih (fun a o g => g.elim) nF
    rw [frzL_map, List.map_map] at q
    rw [List.map_map]; exact q
  · intro F G a C dx m fs h1 h2 h3 h4 h5 h6 ih hh G'
    rw [D.frz, frzF_map]
    refine .insF (hh _ _ h1 h2 h3) (by rw [h4, List.map_map]; rfl) ?_
    have q := ih (fun a o g => hh a o (h6 a g).1) nF
    rw [frzL_map, List.map_map] at q
    rw [List.map_map]; exact q
  · intro F a C dx m fs h1 h2 h3 ih hh G'
    rw [D.frz, frzF_map]
    refine .insF (hz _ _ h1) (by rw [h2, List.map_map]; rfl) ?_
    have q := ih (fun a o g => g.elim) nF
    rw [frzL_map, List.map_map] at q
    rw [List.map_map]; exact q
  · intro F _ G; rw [frzL]; exact .nil
  · intro F G E v vs d ds h1 h2 h3 h4 ih1 ih2 hh F'
    rw [frzL]
    exact .cons (G := nF) (E := nF) (ih1 (fun a o g => hh a o (h3 a g)) _) (ih2 (fun a o g => hh a o (h4 a g).1) _) (fun _ z => z.elim) (fun _ z => z.elim)
theorem RepL.freeze {K : PySem.W.Frag} {Z H Z' H' : Hp} (hz : ∀ a o, Z a = some o → Z' a = some o) : ∀ {vs : List V} {ds : List D} {F G : AS}, RepL K Z H vs ds F →
    (∀ a o, F a → H a = some o → Z a = none → Z' a = some o) → RepL K Z' H' vs (frzL ds) G
  | _, _, _, _, .nil, _ => by rw [frzL]; exact .nil
  | _, _, _, _, .cons h1 h2 h3 h4, hh => by
    rw [frzL]
    exact .cons (G := nF) (E := nF) (h1.freeze hz fun a o g => hh a o (h3 a g)) (RepL.freeze hz h2 fun a o g => hh a o (h4 a g).1) (fun _ z => z.elim) (fun _ z => z.elim)

section
variable {K : PySem.W.Frag} {M N R : List Nat} {S S1 S2 : W} {σ σ' : L2.St} {v : V} {d : D} {Fv : AS}
/-- the state goes on: every slot stays, or is told anew -/
theorem SR.go {F0 : AS} {Z' H' : Hp} {env' : Env} {F' : Nat → AS} (s : SR K σ S) (x : Ext S.Z S.H F0 Z' H') (zh : ∀ a o, Z' a = some o → H' a = some o)
    (h : ∀ i, (env'[i]? = S.env[i]? ∧ σ'[i]? = σ[i]? ∧ F' i = S.F i ∧ ∀ a, S.F i a → ¬ F0 a) ∨
      ((∀ d, env'[i]? = some (some d) → ∃ v, σ'[i]? = some (some v) ∧ Rep K Z' H' v d (F' i)) ∧ ∀ a, F' i a → (∃ o, H' a = some o) ∧ Z' a = none))
    (ap : ∀ i j a, F' i a → F' j a → i = j) (hl : env'.length = σ'.length) : SR K σ' ⟨Z', H', env', F'⟩ := by
  refine ⟨zh, fun i d e => ?_, ap, fun i a e => ?_, hl⟩
  · rcases h i with ⟨h1, h2, h3, h4⟩ | ⟨h1, _⟩
    · obtain ⟨v, e1, r⟩ := s.sl i d (h1 ▸ e)
      refine ⟨v, h2.trans e1, ?_⟩
      show Rep K Z' H' v d (F' i)
      rw [h3]
      exact r.ext x h4
    · exact h1 d e
  · rcases h i with ⟨h1, h2, h3, h4⟩ | ⟨_, h1⟩
    · have e' : S.F i a := h3 ▸ e
      obtain ⟨⟨o, e1⟩, z⟩ := s.tr i a e'
      refine ⟨⟨o, x.fr a o e1 (h4 a e')⟩, ?_⟩
      show Z' a = none
      cases q : Z' a with
      | none => rfl
      | some u =>
        rcases x.nz a u q z with e2 | e2
        · rw [e1] at e2; cases e2
        · exact absurd e2 (h4 a e')
    · exact h1 a e
/-- .. nothing owned changes -/
theorem SR.more {Z' H' : Hp} (s : SR K σ S) (x : Ext S.Z S.H nF Z' H') (zh : ∀ a o, Z' a = some o → H' a = some o) : SR K σ ⟨Z', H', S.env, S.F⟩ :=
  s.go x zh (fun i => .inl ⟨rfl, rfl, rfl, fun _ _ z => z⟩) s.ap s.ln
theorem Stp.more {Z' H' : Hp} (x : Ext S.Z S.H nF Z' H') : Stp M S ⟨Z', H', S.env, S.F⟩ := ⟨x.mono fun _ z => z.elim, fun _ _ => ⟨rfl, rfl⟩, fun i a m h => .inl ⟨i, m, h⟩⟩
/-- a new object -/
theorem ext_new {Z H : Hp} {p : Addr} {o : HO} (zh : ∀ a o, Z a = some o → H a = some o) (hp : H p = none) : Ext Z H nF Z (upd H p o) ∧ ∀ a u, Z a = some u → upd H p o a = some u := by
  have k : ∀ a u, H a = some u → upd H p o a = some u := fun a u h => by rw [upd_ne (ne_of_none h hp)]; exact h
  exact ⟨⟨fun _ _ h => h, fun a u h _ => k a u h, fun a u h => ⟨u, k a u h⟩, fun a o h n => by rw [n] at h; cases h⟩, fun a u h => k a u (zh a u h)⟩
/-- a new frozen object -/
theorem ext_newZ {Z H : Hp} {p : Addr} {o : HO} (zh : ∀ a o, Z a = some o → H a = some o) (hp : H p = none) : Ext Z H nF (upd Z p o) (upd H p o) ∧ ∀ a u, upd Z p o a = some u → upd H p o a = some u := by
  have k : ∀ a u, H a = some u → upd H p o a = some u := fun a u h => by rw [upd_ne (ne_of_none h hp)]; exact h
  have zp : Z p = none := by
    cases q : Z p with
    | none => rfl
    | some u => have := zh p u q; rw [hp] at this; cases this
  refine ⟨⟨fun a u h => by rw [upd_ne (ne_of_none h zp)]; exact h, fun a u h _ => k a u h, fun a u h => ⟨u, k a u h⟩, fun a u h n => .inl ?_⟩, fun a u h => ?_⟩
  · by_cases e : a = p
    · rw [e]; exact hp
    · rw [upd_ne e, n] at h; cases h
  · by_cases e : a = p
    · rw [e, upd_same] at h ⊢; exact h
    · rw [upd_ne e] at h; exact k a u (zh a u h)
end

section
variable {X : Cx} {e : Expr} {pos : Pos}
def cD (d : D) : TX := fun env Q => Q d env
theorem x_const {v : V} {d : D} (h : PE X e (tC v)) (r : ∀ Z H, Rep X.K Z H v d nF) : XX X e [] [] (cD d) := ⟨pe_imp h fun σ H Q ⟨S, Qt, eH, s, q, k⟩ => by
  subst eH
  exact k S v d nF q s (.refl _ _) (.imm (r _ _))⟩
theorem x_int {i j pos} : XX X (.Constant (.int i) j pos) [] [] (cD (.int i)) := x_const pe_int fun _ _ => .int i
theorem x_bl {b j pos} : XX X (.Constant (.bool b) j pos) [] [] (cD (.bl b)) := x_const pe_bl fun _ _ => .bl b
theorem x_non {j pos} : XX X (.Constant .none j pos) [] [] (cD .non) := x_const pe_non fun _ _ => .non
theorem x_str {x j pos} : XX X (.Constant (.str x) j pos) [] [] (cD (.str x)) := x_const pe_str fun _ _ => .str x

def vImm (i : Nat) : TX := fun env Q => ∃ d, env[i]? = some (some d) ∧ d.frz = d ∧ Q d env
def vView (i : Nat) : TX := fun env Q => ∃ d, env[i]? = some (some d) ∧ Q d env
def vFrz (i : Nat) : TX := fun env Q => ∃ d, env[i]? = some (some d) ∧ Q d.frz (env.set i (some d.frz))
def vMove (i : Nat) : TX := fun env Q => ∃ d, env[i]? = some (some d) ∧ Q d (env.set i none)
theorem x_imm {i : Nat} (h : PE X e (tVar i)) : XX X e [] [] (vImm i) := ⟨pe_imp h fun σ H Q ⟨S, Qt, eH, s, ⟨d, e1, e2, q⟩, k⟩ => by
  subst eH
  obtain ⟨v, h1, r⟩ := s.sl i d e1
  exact ⟨v, h1, k S v d nF q s (.refl _ _) (.imm (r.imm e2))⟩⟩
theorem x_view {i : Nat} (h : PE X e (tVar i)) : XX X e [] [i] (vView i) := ⟨pe_imp h fun σ H Q ⟨S, Qt, eH, s, ⟨d, e1, q⟩, k⟩ => by
  subst eH
  obtain ⟨v, h1, r⟩ := s.sl i d e1
  exact ⟨v, h1, k S v d (S.F i) q s (.refl _ _) ⟨r, s.tr i, fun a ha => .inl ⟨i, by simp, ha⟩⟩⟩⟩
def dropF (F : Nat → AS) (i : Nat) : Nat → AS := fun j a => j ≠ i ∧ F j a
theorem dropF_ne {F : Nat → AS} {i j : Nat} (h : j ≠ i) : dropF F i j = F j := by funext a; unfold dropF; simp [h]
theorem SR.moved {K : PySem.W.Frag} {σ : L2.St} {S : W} (s : SR K σ S) (i : Nat) : SR K σ ⟨S.Z, S.H, S.env.set i none, dropF S.F i⟩ := by
  refine s.go (F0 := nF) (Ext.refl _ _ _) s.zh (fun j => ?_) (fun j k a h1 h2 => s.ap j k a h1.2 h2.2) (by rw [List.length_set]; exact s.ln)
  by_cases hj : j = i
  · subst hj
    refine .inr ⟨fun d e => ?_, fun a h => absurd rfl h.1⟩
    rw [List.getElem?_set] at e
    simp at e
  · exact .inl ⟨by rw [List.getElem?_set_ne (Ne.symm hj)], rfl, dropF_ne hj, fun _ _ z => z⟩
theorem x_move {i : Nat} (h : PE X e (tVar i)) : XX X e [i] [] (vMove i) := ⟨pe_imp h fun σ H Q ⟨S, Qt, eH, s, ⟨d, e1, q⟩, k⟩ => by
  subst eH
  obtain ⟨v, h1, r⟩ := s.sl i d e1
  refine ⟨v, h1, k ⟨S.Z, S.H, S.env.set i none, dropF S.F i⟩ v d (S.F i) q (s.moved i) ⟨Ext.refl _ _ _, fun j hj => ?_, fun j a hj h => absurd h.1 (by simpa using hj)⟩ ⟨r, s.tr i, fun a ha => .inr ⟨fun j z => z.1 (s.ap j i a z.2 ha), .inr ⟨i, by simp, ha⟩⟩⟩⟩
  have hj' : j ≠ i := by simpa using hj
  exact ⟨by rw [List.getElem?_set_ne (Ne.symm hj')], dropF_ne hj'⟩⟩
open Classical in
/-- what is owned in F is frozen -/
noncomputable def frzZ (Z H : Hp) (F : AS) : Hp := fun a => if F a then H a else Z a
theorem frzZ_in {Z H : Hp} {F : AS} {a : Addr} (h : F a) : frzZ Z H F a = H a := by unfold frzZ; rw [if_pos h]
theorem frzZ_out {Z H : Hp} {F : AS} {a : Addr} (h : ¬ F a) : frzZ Z H F a = Z a := by unfold frzZ; rw [if_neg h]
theorem ext_frz {Z H : Hp} {F : AS} (tr : ∀ a, F a → (∃ o, H a = some o) ∧ Z a = none) : Ext Z H F (frzZ Z H F) H :=
  ⟨fun a o h => by
    rw [frzZ_out fun z => by rw [(tr a z).2] at h; cases h]
    exact h, fun _ _ h _ => h, fun a o h => ⟨o, h⟩, fun a o h n => by
    by_cases hf : F a
    · exact .inr hf
    · rw [frzZ_out hf, n] at h; cases h⟩
theorem frzZ_zh {Z H : Hp} {F : AS} (zh : ∀ a o, Z a = some o → H a = some o) : ∀ a o, frzZ Z H F a = some o → H a = some o := fun a o h => by
  by_cases hf : F a
  · rw [frzZ_in hf] at h; exact h
  · rw [frzZ_out hf] at h; exact zh a o h
theorem Rep.frzz {K : PySem.W.Frag} {Z H H' : Hp} {v : V} {d : D} {F G : AS} (r : Rep K Z H v d F) (tr : ∀ a, F a → (∃ o, H a = some o) ∧ Z a = none) : Rep K (frzZ Z H F) H' v d.frz G :=
  r.freeze (ext_frz tr).zs fun a o f h _ => by rw [frzZ_in f]; exact h
theorem frz_frz : ∀ d : D, d.frz.frz = d.frz := by
  intro d
  refine D.rec (motive_1 := fun d => d.frz.frz = d.frz) (motive_2 := fun l => frzL (frzL l) = frzL l) (motive_3 := fun l => frzK (frzK l) = frzK l) (motive_4 := fun l => frzT (frzT l) = frzT l) (motive_5 := fun l => frzF (frzF l) = frzF l)
    (motive_6 := fun p => p.2.frz.frz = p.2.frz) (motive_7 := fun p => p.2.frz.frz = p.2.frz) (motive_8 := fun p => p.2.frz.frz = p.2.frz) ?_ ?_ ?_ ?_ ?_ ?_ ?_ ?_ ?_ ?_ ?_ ?_ ?_ ?_ ?_ ?_ ?_ ?_ ?_ ?_ ?_ ?_ ?_ d
  all_goals intros
  all_goals simp only [D.frz, frzL, frzK, frzT, frzF, *]
theorem x_frz {i : Nat} (h : PE X e (tVar i)) : XX X e [i] [] (vFrz i) := ⟨pe_imp h fun σ H Q ⟨S, Qt, eH, s, ⟨d, e1, q⟩, k⟩ => by
  subst eH
  obtain ⟨v, h1, r⟩ := s.sl i d e1
  have x := ext_frz (s.tr i)
  have rf : ∀ G, Rep X.K (frzZ S.Z S.H (S.F i)) S.H v d.frz G := fun G => r.frzz (s.tr i)
  refine ⟨v, h1, k ⟨frzZ S.Z S.H (S.F i), S.H, S.env.set i (some d.frz), dropF S.F i⟩ v d.frz nF q ?_ ⟨x.mono fun a h => ⟨i, by simp, h⟩, fun j hj => ?_, fun j a hj h => absurd h.1 (by simpa using hj)⟩ (.imm (rf _))⟩
  · refine s.go x (frzZ_zh s.zh) (fun j => ?_) (fun j k a h1 h2 => s.ap j k a h1.2 h2.2) (by rw [List.length_set]; exact s.ln)
    by_cases hj : j = i
    · subst hj
      refine .inr ⟨fun d' e => ?_, fun a h => absurd rfl h.1⟩
      rw [List.getElem?_set] at e
      simp only [if_true] at e
      split at e
      · cases e; exact ⟨v, h1, rf _⟩
      · cases e
    · exact .inl ⟨by rw [List.getElem?_set_ne (Ne.symm hj)], rfl, dropF_ne hj, fun a h z => hj (s.ap j i a h z)⟩
  · have hj' : j ≠ i := by simpa using hj
    exact ⟨by rw [List.getElem?_set_ne (Ne.symm hj')], dropF_ne hj'⟩⟩
end
end TT

/-! T4: operators, comparisons, truth, argument lists, displays -/
namespace TT
open PySem PySem.Spec PyProof.Rows L2
/-- a fresh value: only new objects -/
structure Fr (K : PySem.W.Frag) (S : W) (Z' H' : Hp) (v : V) (d : D) (Fv : AS) : Prop where
  ext : Ext S.Z S.H nF Z' H'
  zh : ∀ a o, Z' a = some o → H' a = some o
  rep : Rep K Z' H' v d Fv
  nw : ∀ a, Fv a → S.H a = none ∧ (∃ o, H' a = some o) ∧ Z' a = none
section
variable {K : PySem.W.Frag} {M N R Ra Rb Ma Mb : List Nat} {S S1 S2 : W} {σ σ' : L2.St} {v : V} {d : D} {Fv : AS} {Z' H' : Hp}
theorem SR.noF (s : SR K σ S) {a : Addr} (h : S.H a = none) {i : Nat} (z : S.F i a) : False := by
  obtain ⟨⟨o, e⟩, _⟩ := s.tr i a z
  rw [h] at e; cases e
theorem Fr.sr (f : Fr K S Z' H' v d Fv) (s : SR K σ S) : SR K σ ⟨Z', H', S.env, S.F⟩ := s.more f.ext f.zh
theorem Fr.stp (f : Fr K S Z' H' v d Fv) : Stp M S ⟨Z', H', S.env, S.F⟩ := .more f.ext
theorem Fr.vp (f : Fr K S Z' H' v d Fv) (s : SR K σ S) : VP K M R S ⟨Z', H', S.env, S.F⟩ v d Fv :=
  ⟨f.rep, fun a h => (f.nw a h).2, fun a h => .inr ⟨fun i z => s.noF (f.nw a h).1 z, .inl (f.nw a h).1⟩⟩
theorem Fr.imm (s : SR K σ S) (r : Rep K S.Z S.H v d nF) : Fr K S S.Z S.H v d nF := ⟨.refl _ _ _, s.zh, r, fun _ z => z.elim⟩
/-- two values, one behind the other -/
theorem two {ta tb : TX} (dj : Dj Ra Mb = true) (s : SR K σ S) {Qt : D → D → Env → Prop} (q : ta S.env fun d env1 => tb env1 fun e env2 => Qt d e env2) {P : V → V → Hp → Prop}
    (k : ∀ S' x d Fx y e Fy, Qt d e S'.env → SR K σ S' → Stp (Ma ++ Mb) S S' → VP K (Ma ++ Mb) Ra S S' x d Fx → VP K (Ma ++ Mb) Rb S S' y e Fy → P x y S'.H) :
    lift K Ma Ra ta σ S.H fun x H1 => lift K Mb Rb tb σ H1 fun y H2 => P x y H2 :=
  ⟨S, _, rfl, s, q, fun S1 x d Fx q1 s1 st1 v1 => ⟨S1, _, rfl, s1, q1, fun S2 y e Fy q2 s2 st2 v2 => k S2 x d Fx y e Fy q2 s2 (st1.trans st2) (v1.later s1 st1 st2 dj) (v2.first st1)⟩⟩
theorem Stp.then0 {S3 : W} (x : Stp M S S1) (y : Stp [] S1 S3) : Stp M S S3 := by
  have z := x.trans y
  rw [List.append_nil] at z
  exact z
theorem VP.then0 {S3 : W} (h : VP K [] R S1 S3 v d Fv) (x : Stp M S S1) : VP K M R S S3 v d Fv := by
  have z := h.first x
  rw [List.append_nil] at z
  exact z
end
/-- an operator by what it makes of trees: a fresh value -/
def OpT (X : Cx) (f : Value → Value → Sem Value) (rt : D → D → (D → Prop) → Prop) : Prop :=
  ∃ r, OpR X f r ∧ ∀ (σ : L2.St) (S : W) (x : V) (d : D) (Fx : AS) (y : V) (e : D) (Fy : AS) (Qd : D → Prop) (P : V → Hp → Prop), SR X.K σ S → Rep X.K S.Z S.H x d Fx → Rep X.K S.Z S.H y e Fy → rt d e Qd →
    (∀ Z' H' v d' Fv, Qd d' → Fr X.K S Z' H' v d' Fv → P v H') → r x y S.H P
def UnT (X : Cx) (f : Value → Sem Value) (rt : D → (D → Prop) → Prop) : Prop :=
  ∃ r, UnR X f r ∧ ∀ (σ : L2.St) (S : W) (x : V) (d : D) (Fx : AS) (Qd : D → Prop) (P : V → Hp → Prop), SR X.K σ S → Rep X.K S.Z S.H x d Fx → rt d Qd →
    (∀ Z' H' v d' Fv, Qd d' → Fr X.K S Z' H' v d' Fv → P v H') → r x S.H P
def oOp (rt : D → D → (D → Prop) → Prop) (ta tb : TX) : TX := fun env Q => ta env fun d env1 => tb env1 fun e env2 => rt d e fun r => Q r env2
def oUn (rt : D → (D → Prop) → Prop) (ta : TX) : TX := fun env Q => ta env fun d env1 => rt d fun r => Q r env1
section
variable {X : Cx} {a b : Expr} {pos : Pos} {M Ma Mb R Ra Rb : List Nat} {ta tb tc : TX} {rt rt' : D → D → (D → Prop) → Prop} {ut : D → (D → Prop) → Prop}
theorem op_lift {r : L2.R2} (hh : ∀ (σ : L2.St) (S : W) (x : V) (d : D) (Fx : AS) (y : V) (e : D) (Fy : AS) (Qd : D → Prop) (P : V → Hp → Prop), SR X.K σ S → Rep X.K S.Z S.H x d Fx → Rep X.K S.Z S.H y e Fy → rt d e Qd →
    (∀ Z' H' v d' Fv, Qd d' → Fr X.K S Z' H' v d' Fv → P v H') → r x y S.H P) (dj : Dj Ra Mb = true) (σ : L2.St) (H : Hp) (Q : VK) (h : lift X.K (Ma ++ Mb) [] (oOp rt ta tb) σ H Q) : tOp r (lift X.K Ma Ra ta) (lift X.K Mb Rb tb) σ H Q := by
  obtain ⟨S, Qt, eH, s, q, k⟩ := h
  subst eH
  refine two dj s q fun S' x d Fx y e Fy q1 s1 st v1 v2 => ?_
  refine hh σ S' x d Fx y e Fy _ _ s1 v1.rep v2.rep q1 fun Z' H' v d' Fv q2 f => ?_
  exact k ⟨Z', H', S'.env, S'.F⟩ v d' Fv q2 (f.sr s1) (st.then0 f.stp) ((f.vp s1).then0 st)
theorem x_op {op : Operator} (ho : OpT X (binaryOp op) rt) (ha : XX X a Ma Ra ta) (hb : XX X b Mb Rb tb) (dj : Dj Ra Mb = true := by rfl) : XX X (.BinOp a op b pos) (Ma ++ Mb) [] (oOp rt ta tb) := by
  obtain ⟨r, ho, hh⟩ := ho
  exact ⟨pe_imp (pe_op ho ha.pe hb.pe) fun σ H Q h => op_lift hh dj σ H Q h⟩
theorem x_un {op : UnaryOp} (ho : UnT X (unaryOp op) ut) (ha : XX X a M R ta) : XX X (.UnaryOp op a pos) M [] (oUn ut ta) := by
  obtain ⟨r, ho, hh⟩ := ho
  refine ⟨pe_imp (pe_un ho ha.pe) fun σ H Q ⟨S, Qt, eH, s, q, k⟩ => ?_⟩
  subst eH
  refine ⟨S, _, rfl, s, q, fun S' x d Fx q1 s1 st v1 => hh σ S' x d Fx _ _ s1 v1.rep q1 fun Z' H' v d' Fv q2 f => ?_⟩
  exact k ⟨Z', H', S'.env, S'.F⟩ v d' Fv q2 (f.sr s1) (st.then0 f.stp) ((f.vp s1).then0 st)
theorem x_cmp {op : CmpOp} (ho : OpT X (compareOp op) rt) (ha : XX X a Ma Ra ta) (hb : XX X b Mb Rb tb) (dj : Dj Ra Mb = true := by rfl) (hm : behindInMarks op b = false := by first | exact nomark _ | rfl) : XX X (.Compare a [op] [b] pos) (Ma ++ Mb) [] (oOp rt ta tb) := by
  obtain ⟨r, ho, hh⟩ := ho
  exact ⟨pe_imp (pe_cmpR ho ha.pe hb.pe hm) fun σ H Q h => op_lift hh dj σ H Q h⟩
/-- a value that is a bool, as a test -/
def tBl (t : TX) : TXT := fun env Q => t env fun d env1 => ∃ b, d = .bl b ∧ Q b env1
theorem Rep.bl_inv {K : PySem.W.Frag} {Z H : Hp} {v : V} {b : Bool} {F : AS} (r : Rep K Z H v (.bl b) F) : v = .bl b := by cases r; rfl
theorem Rep.int_inv {K : PySem.W.Frag} {Z H : Hp} {v : V} {b : Int} {F : AS} (r : Rep K Z H v (.int b) F) : v = .int b := by cases r; rfl
theorem Rep.str_inv {K : PySem.W.Frag} {Z H : Hp} {v : V} {b : Str} {F : AS} (r : Rep K Z H v (.str b) F) : v = .str b := by cases r; rfl
theorem Rep.non_inv {K : PySem.W.Frag} {Z H : Hp} {v : V} {F : AS} (r : Rep K Z H v .non F) : v = .non := by cases r; rfl
theorem xt_cmp {op : CmpOp} (ho : OpT X (compareOp op) rt) (ha : XX X a Ma Ra ta) (hb : XX X b Mb Rb tb) (dj : Dj Ra Mb = true := by rfl) (hm : behindInMarks op b = false := by first | exact nomark _ | rfl) : XT X (.Compare a [op] [b] pos) (Ma ++ Mb) (tBl (oOp rt ta tb)) := by
  obtain ⟨r, ho, hh⟩ := ho
  refine ⟨pt_imp (pt_cmpR ho ha.pe hb.pe hm) fun σ H Q ⟨S, Qt, eH, s, q, k⟩ => ?_⟩
  subst eH
  refine op_lift hh dj σ S.H _ ⟨S, _, rfl, s, q, fun S' v d Fv ⟨c, e, q1⟩ s1 st v1 => ?_⟩
  subst e
  exact ⟨c, v1.rep.bl_inv, k S' c q1 s1 st⟩
theorem xt_val (ha : XX X a M R ta) (he : ∀ whole, isTrue a X.env whole = (do let v ← whole; standAt a.pos; holding [v] (truthy v)) := by intro _; rfl) : XT X a M (tBl ta) := by
  refine ⟨pt_imp (pt_val ha.pe he) fun σ H Q ⟨S, Qt, eH, s, q, k⟩ => ?_⟩
  subst eH
  refine ⟨S, _, rfl, s, q, fun S' v d Fv ⟨c, e, q1⟩ s1 st v1 => ?_⟩
  subst e
  exact ⟨c, v1.rep.bl_inv, k S' c q1 s1 st⟩
/-- a < b < c -/
def oChain (rt rt' : D → D → (D → Prop) → Prop) (ta tb tc : TX) : TX := fun env Q => ta env fun x env1 => tb env1 fun y env2 => rt x y fun z => ∃ k, z = .bl k ∧ if k = true then tc env2 fun w env3 => rt' y w fun z' => Q z' env3 else Q (.bl false) env2
/-- not -/
def tNotT (t : TXT) : TXT := fun env Q => t env fun b env1 => Q (!b) env1
theorem xt_not {t : TXT} (h : XT X a M t) : XT X (.UnaryOp .Not a pos) M (tNotT t) := ⟨pt_imp (pt_not h.pt) fun σ H Q ⟨S, Qt, eH, s, q, k⟩ => by
  subst eH
  exact ⟨S, _, rfl, s, q, fun S' b q1 s1 st => k S' (!b) q1 s1 st⟩⟩
structure XW (X : Cx) (e : Expr) (M : List Nat) (t : TXT) : Prop where
  pw : PW X e (liftT X.K M t)
theorem XW.pt {t : TXT} {e : Expr} (h : XW X e M t) : XT X e M t := ⟨h.pw.pt⟩
def tAndT (t u : TXT) : TXT := fun env Q => t env fun b env1 => if b = true then u env1 Q else Q false env1
def tOrT (t u : TXT) : TXT := fun env Q => t env fun b env1 => if b = true then Q true env1 else u env1 Q
theorem pw_imp {X : Cx} {e : Expr} {t t' : L2.TT} (h : PW X e t) (i : ∀ σ H Q, t' σ H Q → t σ H Q) : PW X e t' := ⟨fun w pins s σ H Q I q => h.run w pins s σ H Q I (i σ H Q q)⟩
theorem liftT_mono {K : PySem.W.Frag} {t : TXT} {N : List Nat} {σ : L2.St} {H : Hp} {Q : Bool → Hp → Prop} (h : liftT K N t σ H Q) (m : ∀ i, i ∈ M → i ∈ N) : liftT K M t σ H Q := by
  obtain ⟨S, Qt, eH, s, q, k⟩ := h
  exact ⟨S, Qt, eH, s, q, fun S' b q1 s1 st => k S' b q1 s1 (st.mono m)⟩
theorem xw_and1 {t : TXT} (h : XT X a M t) : XW X (.BoolOp .And [a] pos) M t := ⟨pw_and1 h.pt⟩
theorem xw_or1 {t : TXT} (h : XT X a M t) : XW X (.BoolOp .Or [a] pos) M t := ⟨pw_or1 h.pt⟩
theorem xw_and {t u : TXT} {rest : List Expr} (h : XT X a Ma t) (h2 : XW X (.BoolOp .And (b :: rest) pos) Mb u) : XW X (.BoolOp .And (a :: b :: rest) pos) (Ma ++ Mb) (tAndT t u) := ⟨pw_imp (pw_and h.pt h2.pw) fun σ H Q ⟨S, Qt, eH, s, q, k⟩ => by
  subst eH
  refine ⟨S, _, rfl, s, q, fun S1 c q1 s1 st1 => ?_⟩
  cases c with
  | true => exact ⟨S1, _, rfl, s1, q1, fun S2 c' q2 s2 st2 => k S2 c' q2 s2 (st1.trans st2)⟩
  | false => exact k S1 false q1 s1 (st1.mono fun _ z => List.mem_append_left _ z)⟩
theorem xw_or {t u : TXT} {rest : List Expr} (h : XT X a Ma t) (h2 : XW X (.BoolOp .Or (b :: rest) pos) Mb u) : XW X (.BoolOp .Or (a :: b :: rest) pos) (Ma ++ Mb) (tOrT t u) := ⟨pw_imp (pw_or h.pt h2.pw) fun σ H Q ⟨S, Qt, eH, s, q, k⟩ => by
  subst eH
  refine ⟨S, _, rfl, s, q, fun S1 c q1 s1 st1 => ?_⟩
  cases c with
  | true => exact k S1 true q1 s1 (st1.mono fun _ z => List.mem_append_left _ z)
  | false => exact ⟨S1, _, rfl, s1, q1, fun S2 c' q2 s2 st2 => k S2 c' q2 s2 (st1.trans st2)⟩⟩
/-- .. as values (bools) -/
def oAnd (ta tb : TX) : TX := fun env Q => ta env fun x env1 => ∃ c, x = .bl c ∧ if c = true then tb env1 Q else Q (.bl false) env1
def oOr (ta tb : TX) : TX := fun env Q => ta env fun x env1 => ∃ c, x = .bl c ∧ if c = true then Q (.bl true) env1 else tb env1 Q
theorem VP.bl {K : PySem.W.Frag} {S S1 : W} {c : Bool} : VP K M R S S1 (.bl c) (.bl c) nF := .imm (.bl c)
theorem x_one {op} (h : XX X a M R ta) : XX X (.BoolOp op [a] pos) M R ta := ⟨pe_one h.pe⟩
theorem x_and {rest : List Expr} (ha : XX X a Ma Ra ta) (hb : XX X (.BoolOp .And (b :: rest) pos) Mb Rb tb) : XX X (.BoolOp .And (a :: b :: rest) pos) (Ma ++ Mb) Rb (oAnd ta tb) := ⟨pe_imp (pe_and ha.pe hb.pe) fun σ H Q ⟨S, Qt, eH, s, q, k⟩ => by
  subst eH
  refine ⟨S, _, rfl, s, q, fun S1 x d Fx ⟨c, e, q1⟩ s1 st1 v1 => ?_⟩
  subst e
  refine ⟨c, v1.rep.bl_inv, ?_⟩
  cases c with
  | true => exact ⟨S1, _, rfl, s1, q1, fun S2 y e Fy q2 s2 st2 v2 => k S2 y e Fy q2 s2 (st1.trans st2) (v2.first st1)⟩
  | false => exact k S1 _ _ nF q1 s1 (st1.mono fun _ z => List.mem_append_left _ z) .bl⟩
theorem x_or {rest : List Expr} (ha : XX X a Ma Ra ta) (hb : XX X (.BoolOp .Or (b :: rest) pos) Mb Rb tb) : XX X (.BoolOp .Or (a :: b :: rest) pos) (Ma ++ Mb) Rb (oOr ta tb) := ⟨pe_imp (pe_or ha.pe hb.pe) fun σ H Q ⟨S, Qt, eH, s, q, k⟩ => by
  subst eH
  refine ⟨S, _, rfl, s, q, fun S1 x d Fx ⟨c, e, q1⟩ s1 st1 v1 => ?_⟩
  subst e
  refine ⟨c, v1.rep.bl_inv, ?_⟩
  cases c with
  | false => exact ⟨S1, _, rfl, s1, q1, fun S2 y e Fy q2 s2 st2 v2 => k S2 y e Fy q2 s2 (st1.trans st2) (v2.first st1)⟩
  | true => exact k S1 _ _ nF q1 s1 (st1.mono fun _ z => List.mem_append_left _ z) .bl⟩
def oNot (ta : TX) : TX := fun env Q => ta env fun x env1 => ∃ c, x = .bl c ∧ Q (.bl (!c)) env1
theorem x_not (ha : XX X a M R ta) : XX X (.UnaryOp .Not a pos) M [] (oNot ta) := ⟨pe_imp (pe_not ha.pe) fun σ H Q ⟨S, Qt, eH, s, q, k⟩ => by
  subst eH
  refine ⟨S, _, rfl, s, q, fun S1 x d Fx ⟨c, e, q1⟩ s1 st1 v1 => ?_⟩
  subst e
  exact ⟨c, v1.rep.bl_inv, k S1 _ _ nF q1 s1 st1 .bl⟩⟩
def oIf (t : TXT) (ta tb : TX) : TX := fun env Q => t env fun c env1 => if c = true then ta env1 Q else tb env1 Q
theorem x_if {c : Expr} {t : TXT} (hc : XT X c M t) (ha : XX X a Ma Ra ta) (hb : XX X b Mb Rb tb) : XX X (.IfExp c a b pos) (M ++ (Ma ++ Mb)) (Ra ++ Rb) (oIf t ta tb) := ⟨pe_imp (pe_ifExp hc.pt ha.pe hb.pe) fun σ H Q ⟨S, Qt, eH, s, q, k⟩ => by
  subst eH
  refine ⟨S, _, rfl, s, q, fun S1 c q1 s1 st1 => ?_⟩
  cases c with
  | true => exact ⟨S1, _, rfl, s1, q1, fun S2 y e Fy q2 s2 st2 v2 => k S2 y e Fy q2 s2 ((st1.trans st2).mono fun i hi => by simp only [List.mem_append] at hi ⊢; rcases hi with h | h <;> simp [h]) ((v2.first st1).mono (fun i hi => by simp only [List.mem_append] at hi ⊢; rcases hi with h | h <;> simp [h]) fun i hi => List.mem_append_left _ hi)⟩
  | false => exact ⟨S1, _, rfl, s1, q1, fun S2 y e Fy q2 s2 st2 v2 => k S2 y e Fy q2 s2 ((st1.trans st2).mono fun i hi => by simp only [List.mem_append] at hi ⊢; rcases hi with h | h <;> simp [h]) ((v2.first st1).mono (fun i hi => by simp only [List.mem_append] at hi ⊢; rcases hi with h | h <;> simp [h]) fun i hi => List.mem_append_right _ hi)⟩⟩

/-! ### ints -/
def rI2 (C : Int → Int → Prop) (g : Int → Int → D) : D → D → (D → Prop) → Prop := fun x y Q => ∃ i j, x = .int i ∧ y = .int j ∧ C i j ∧ Q (g i j)
def rI2' (g : Int → Int → D) : D → D → (D → Prop) → Prop := fun x y Q => ∃ i j, x = .int i ∧ y = .int j ∧ Q (g i j)
theorem opT_I {f : Value → Value → Sem Value} {C : Int → Int → Prop} {g : Int → Int → V} {gd : Int → Int → D} (h : OpR X f (rI C g)) (hg : ∀ i j Z H, Rep X.K Z H (g i j) (gd i j) nF) : OpT X f (rI2 C gd) :=
  ⟨_, h, fun σ S x d Fx y e Fy Qd P s rx ry ⟨i, j, e1, e2, c, q⟩ k => by
    subst e1 e2
    exact ⟨i, j, rx.int_inv, ry.int_inv, c, k _ _ _ _ _ q (.imm s (hg i j _ _))⟩⟩
theorem opT_I0 {f : Value → Value → Sem Value} {g : Int → Int → V} {gd : Int → Int → D} (h : OpR X f (rI0 g)) (hg : ∀ i j Z H, Rep X.K Z H (g i j) (gd i j) nF) : OpT X f (rI2' gd) :=
  ⟨_, h, fun σ S x d Fx y e Fy Qd P s rx ry ⟨i, j, e1, e2, q⟩ k => by
    subst e1 e2
    exact ⟨i, j, rx.int_inv, ry.int_inv, k _ _ _ _ _ q (.imm s (hg i j _ _))⟩⟩
abbrev rAddI : D → D → (D → Prop) → Prop := rI2' fun i j => .int (i + j)
theorem o_add : OpT X (binaryOp .Add) rAddI := opT_I0 op_add fun i j _ _ => .int _
abbrev rSubI : D → D → (D → Prop) → Prop := rI2' fun i j => .int (i - j)
theorem o_sub : OpT X (binaryOp .Sub) rSubI := opT_I0 op_sub fun i j _ _ => .int _
abbrev rMulI : D → D → (D → Prop) → Prop := rI2 CMul fun i j => .int (i * j)
theorem o_mul : OpT X (binaryOp .Mult) rMulI := opT_I op_mul fun i j _ _ => .int _
abbrev rFdivI : D → D → (D → Prop) → Prop := rI2 CDiv fun i j => .int (i / j)
theorem o_fdiv : OpT X (binaryOp .FloorDiv) rFdivI := opT_I op_fdiv fun i j _ _ => .int _
abbrev rModI : D → D → (D → Prop) → Prop := rI2 (fun _ j => 0 < j) fun i j => .int (i % j)
theorem o_mod : OpT X (binaryOp .Mod) rModI := opT_I op_mod fun i j _ _ => .int _
theorem o_pow : OpT X (binaryOp .Pow) (rI2 CPow fun i j => .int (i ^ j.toNat)) := opT_I op_pow fun i j _ _ => .int _
abbrev rAndI : D → D → (D → Prop) → Prop := rI2' fun i j => .int (Builtin.bitAnd i j)
theorem o_and : OpT X (binaryOp .BitAnd) rAndI := opT_I0 op_and fun i j _ _ => .int _
abbrev rOrI : D → D → (D → Prop) → Prop := rI2' fun i j => .int (Builtin.bitOr i j)
theorem o_or : OpT X (binaryOp .BitOr) rOrI := opT_I0 op_or fun i j _ _ => .int _
abbrev rLtI : D → D → (D → Prop) → Prop := rI2' fun i j => .bl (decide (i < j))
theorem o_lt : OpT X (compareOp .Lt) rLtI := opT_I0 op_lt fun i j _ _ => .bl _
abbrev rLeI : D → D → (D → Prop) → Prop := rI2' fun i j => .bl (decide (i ≤ j))
theorem o_le : OpT X (compareOp .LtE) rLeI := opT_I0 op_le fun i j _ _ => .bl _
abbrev rGtI : D → D → (D → Prop) → Prop := rI2' fun i j => .bl (decide (j < i))
theorem o_gt : OpT X (compareOp .Gt) rGtI := opT_I0 op_gt fun i j _ _ => .bl _
abbrev rGeI : D → D → (D → Prop) → Prop := rI2' fun i j => .bl (decide (j ≤ i))
theorem o_ge : OpT X (compareOp .GtE) rGeI := opT_I0 op_ge fun i j _ _ => .bl _
/-- == of ints -/
abbrev rEqI : D → D → (D → Prop) → Prop := rI2' fun i j => .bl (decide (i = j))
theorem o_eqI : OpT X (compareOp .Eq) rEqI :=
  ⟨_, op_eq, fun σ S x d Fx y e Fy Qd P s rx ry ⟨i, j, e1, e2, q⟩ k => by
    subst e1 e2
    rw [rx.int_inv, ry.int_inv]
    refine ⟨rfl, ?_⟩
    have : decide (V.int i = V.int j) = decide (i = j) := by rw [dec_int, Bool.beq_eq_decide_eq]
    rw [this]
    exact k _ _ _ _ _ q (.imm s (.bl _))⟩
abbrev rNeI : D → D → (D → Prop) → Prop := rI2' fun i j => .bl (!decide (i = j))
theorem o_neI : OpT X (compareOp .NotEq) rNeI :=
  ⟨_, op_ne, fun σ S x d Fx y e Fy Qd P s rx ry ⟨i, j, e1, e2, q⟩ k => by
    subst e1 e2
    rw [rx.int_inv, ry.int_inv]
    refine ⟨rfl, ?_⟩
    have : decide (V.int i = V.int j) = decide (i = j) := by rw [dec_int, Bool.beq_eq_decide_eq]
    rw [this]
    exact k _ _ _ _ _ q (.imm s (.bl _))⟩
def rU1 (g : Int → D) : D → (D → Prop) → Prop := fun x Q => ∃ i, x = .int i ∧ Q (g i)
abbrev rNegI : D → (D → Prop) → Prop := rU1 fun i => .int (-i)
theorem u_neg : UnT X (unaryOp .USub) rNegI :=
  ⟨_, un_neg, fun σ S x d Fx Qd P s rx ⟨i, e1, q⟩ k => by
    subst e1
    exact ⟨i, rx.int_inv, k _ _ _ _ _ q (.imm s (.int _))⟩⟩
/-- is None -/
theorem Rep.non_iff {K : PySem.W.Frag} {Z H : Hp} {v : V} {d : D} {F : AS} (r : Rep K Z H v d F) : (v = .non) ↔ (d = .non) := by
  cases r <;> simp
def isNon : D → Bool
  | .non => true
  | _ => false
theorem Rep.isNon {K : PySem.W.Frag} {Z H : Hp} {v : V} {d : D} {F : AS} (r : Rep K Z H v d F) : decide (v = .non) = isNon d := by
  cases r <;> simp [TT.isNon]
abbrev rIsN : D → D → (D → Prop) → Prop := fun x y Q => y = .non ∧ Q (.bl (isNon x))
theorem o_isN : OpT X (compareOp .Is) rIsN :=
  ⟨_, op_isN, fun σ S x d Fx y e Fy Qd P s rx ry ⟨e1, q⟩ k => by
    subst e1
    refine ⟨ry.non_inv, ?_⟩
    rw [rx.isNon]
    exact k _ _ _ _ _ q (.imm s (.bl _))⟩
abbrev rNotN : D → D → (D → Prop) → Prop := fun x y Q => y = .non ∧ Q (.bl (!isNon x))
theorem o_notN : OpT X (compareOp .IsNot) rNotN :=
  ⟨_, op_notN, fun σ S x d Fx y e Fy Qd P s rx ry ⟨e1, q⟩ k => by
    subst e1
    refine ⟨ry.non_inv, ?_⟩
    rw [rx.isNon]
    exact k _ _ _ _ _ q (.imm s (.bl _))⟩
theorem chain_lift {r r' : L2.R2} (hh : ∀ (σ : L2.St) (S : W) (x : V) (d : D) (Fx : AS) (y : V) (e : D) (Fy : AS) (Qd : D → Prop) (P : V → Hp → Prop), SR X.K σ S → Rep X.K S.Z S.H x d Fx → Rep X.K S.Z S.H y e Fy → rt d e Qd →
    (∀ Z' H' v d' Fv, Qd d' → Fr X.K S Z' H' v d' Fv → P v H') → r x y S.H P)
    (hh' : ∀ (σ : L2.St) (S : W) (x : V) (d : D) (Fx : AS) (y : V) (e : D) (Fy : AS) (Qd : D → Prop) (P : V → Hp → Prop), SR X.K σ S → Rep X.K S.Z S.H x d Fx → Rep X.K S.Z S.H y e Fy → rt' d e Qd →
    (∀ Z' H' v d' Fv, Qd d' → Fr X.K S Z' H' v d' Fv → P v H') → r' x y S.H P) {Mc Rc : List Nat} (dj : Dj Ra Mb = true) (dj2 : Dj Rb Mc = true) (σ : L2.St) (H : Hp) (Q : VK)
    (h : lift X.K (Ma ++ Mb ++ Mc) [] (oChain rt rt' ta tb tc) σ H Q) : tChain r r' (lift X.K Ma Ra ta) (lift X.K Mb Rb tb) (lift X.K Mc Rc tc) σ H Q := by
  obtain ⟨S, Qt, eH, s, q, k⟩ := h
  subst eH
  refine two dj s q fun S' x d Fx y e Fy q1 s1 st v1 v2 => ?_
  refine hh σ S' x d Fx y e Fy _ _ s1 v1.rep v2.rep q1 fun Z' H' v d' Fv ⟨c, ec, q2⟩ f => ?_
  subst ec
  refine ⟨c, f.rep.bl_inv, ?_⟩
  have s3 := f.sr s1
  have st3 := st.then0 (M := Ma ++ Mb) f.stp
  cases c with
  | false => exact k ⟨Z', H', S'.env, S'.F⟩ _ _ nF q2 s3 (st3.mono fun _ z => List.mem_append_left _ z) .bl
  | true =>
    refine ⟨⟨Z', H', S'.env, S'.F⟩, _, rfl, s3, q2, fun S4 w g Fw q4 s4 st4 v4 => ?_⟩
    have v2' := ((v2.later (N := []) s1 st f.stp (by unfold Dj; simp)).later s3 (st.trans f.stp) st4 dj2).rep
    refine hh' σ S4 y e Fy w g Fw _ _ s4 v2' v4.rep q4 fun Z5 H5 v5 d5 F5 q5 f5 => ?_
    have st5 := st3.trans st4
    exact k ⟨Z5, H5, S4.env, S4.F⟩ v5 d5 F5 q5 (f5.sr s4) (st5.then0 f5.stp) ((f5.vp s4).then0 st5)
theorem x_chain {op op' : CmpOp} {c : Expr} {Mc Rc : List Nat} (ho : OpT X (compareOp op) rt) (ho' : OpT X (compareOp op') rt') (ha : XX X a Ma Ra ta) (hb : XX X b Mb Rb tb) (hc : XX X c Mc Rc tc) (dj : Dj Ra Mb = true := by rfl) (dj2 : Dj Rb Mc = true := by rfl)
    (hm : lastMarks [op, op'] [b, c] = false := by with_unfolding_all rfl) : XX X (.Compare a [op, op'] [b, c] pos) (Ma ++ Mb ++ Mc) [] (oChain rt rt' ta tb tc) := by
  obtain ⟨r, ho, hh⟩ := ho
  obtain ⟨r', ho', hh'⟩ := ho'
  exact ⟨pe_imp (pe_chain ho ho' ha.pe hb.pe hc.pe hm) fun σ H Q h => chain_lift hh hh' dj dj2 σ H Q h⟩
theorem xt_chain {op op' : CmpOp} {c : Expr} {Mc Rc : List Nat} (ho : OpT X (compareOp op) rt) (ho' : OpT X (compareOp op') rt') (ha : XX X a Ma Ra ta) (hb : XX X b Mb Rb tb) (hc : XX X c Mc Rc tc) (dj : Dj Ra Mb = true := by rfl) (dj2 : Dj Rb Mc = true := by rfl)
    (hm : lastMarks [op, op'] [b, c] = false := by with_unfolding_all rfl) : XT X (.Compare a [op, op'] [b, c] pos) (Ma ++ Mb ++ Mc) (tBl (oChain rt rt' ta tb tc)) := by
  obtain ⟨r, ho, hh⟩ := ho
  obtain ⟨r', ho', hh'⟩ := ho'
  refine ⟨pt_imp (pt_chain ho ho' ha.pe hb.pe hc.pe hm) fun σ H Q ⟨S, Qt, eH, s, q, k⟩ => ?_⟩
  subst eH
  refine chain_lift hh hh' dj dj2 σ S.H _ ⟨S, _, rfl, s, q, fun S' v d Fv ⟨c, e, q1⟩ s1 st v1 => ?_⟩
  subst e
  exact ⟨c, v1.rep.bl_inv, k S' c q1 s1 st⟩
end
end TT

/-! T5: argument lists, displays, builtins, subscripts -/
namespace TT
open PySem PySem.Spec PyProof.Rows L2
/-! ### inversions -/
section
variable {K : PySem.W.Frag} {Z H : Hp} {v : V} {d : D} {F : AS} {vs : List V} {ds : List D}
theorem Rd.zh {a : Addr} {u : HO} (zh : ∀ a o, Z a = some o → H a = some o) (r : Rd Z a u) : Rd H a u := Rd.sub zh r
theorem Rep.lst_inv {o : Bool} {xs : List D} (zh : ∀ a o, Z a = some o → H a = some o) (r : Rep K Z H v (.lst o xs) F) : ∃ a vs, v = .ref a ∧ Rd H a (.lst vs) ∧ RepL K Z H vs xs F := by
  cases r with
  | lstO a b c e f => exact ⟨_, _, rfl, .inl b, e.mono fun c z => (f c z).1⟩
  | lstF a b => exact ⟨_, _, rfl, Rd.sub zh a, b.mono fun _ z => z.elim⟩
theorem Rep.kst_inv {xs : List D} (zh : ∀ a o, Z a = some o → H a = some o) (r : Rep K Z H v (.kst xs) F) : ∃ a vs, v = .ref a ∧ SqL K H a vs ∧ RepL K Z H vs xs F := by
  cases r with
  | kst a b => exact ⟨_, _, rfl, SqL.sub zh a, b.mono fun _ z => z.elim⟩
theorem Rep.tup_inv {xs : List D} (zh : ∀ a o, Z a = some o → H a = some o) (r : Rep K Z H v (.tup xs) F) : ∃ a vs, v = .ref a ∧ H a = some (.tup vs) ∧ Z a = some (.tup vs) ∧ RepL K Z H vs xs F := by
  cases r with
  | tup a b => exact ⟨_, _, rfl, zh _ _ a, a, b⟩
theorem Rep.dct_inv {o : Bool} {kvs : List (Key × D)} (zh : ∀ a o, Z a = some o → H a = some o) (r : Rep K Z H v (.dct o kvs) F) : ∃ a m, v = .ref a ∧ Rd H a (.dK m) ∧ m.map (·.1) = kvs.map (·.1) ∧ RepL K Z H (m.map (·.2)) (kvs.map (·.2)) F := by
  cases r with
  | dctO a b c e f g => exact ⟨_, _, rfl, .inl b, e, f.mono fun c z => (g c z).1⟩
  | dctF a b c => exact ⟨_, _, rfl, Rd.sub zh a, b, c.mono fun _ z => z.elim⟩
theorem Rep.dtt_inv {o : Bool} {kvs : List (List Key × D)} (zh : ∀ a o, Z a = some o → H a = some o) (r : Rep K Z H v (.dtt o kvs) F) : ∃ a m, v = .ref a ∧ Rd H a (.dT m) ∧ m.map (·.1) = kvs.map (·.1) ∧ RepL K Z H (m.map (·.2)) (kvs.map (·.2)) F := by
  cases r with
  | dttO a b c e f g => exact ⟨_, _, rfl, .inl b, e, f.mono fun c z => (g c z).1⟩
  | dttF a b c => exact ⟨_, _, rfl, Rd.sub zh a, b, c.mono fun _ z => z.elim⟩
theorem RepL.length : ∀ {vs : List V} {ds : List D} {F : AS}, RepL K Z H vs ds F → vs.length = ds.length
  | _, _, _, .nil => rfl
  | _, _, _, .cons _ h _ _ => congrArg (· + 1) (RepL.length h)
theorem RepL.get : ∀ {vs : List V} {ds : List D} {F : AS} {i : Nat} {d : D}, RepL K Z H vs ds F → ds[i]? = some d → ∃ v, vs[i]? = some v ∧ Rep K Z H v d F
  | _, _, _, _, _, .nil, e => by simp at e
  | _, _, _, 0, _, .cons r _ f _, e => by simp at e; subst e; exact ⟨_, rfl, r.mono f⟩
  | _, _, _, i + 1, _, .cons _ t _ g, e => by
    obtain ⟨v, h1, h2⟩ := RepL.get (i := i) t (by simpa using e)
    exact ⟨v, by simpa using h1, h2.mono fun a z => (g a z).1⟩
theorem RepL.ints : ∀ {vs : List V} {ns : List Int} {F : AS}, RepL K Z H vs (ns.map D.int) F → vs = ns.map V.int
  | _, [], _, h => by cases h; rfl
  | _, n :: ns, _, h => by
    cases h with
    | cons h1 h2 _ _ => rw [h1.int_inv, RepL.ints h2]; rfl
theorem RepL.bls : ∀ {vs : List V} {ns : List Bool} {F : AS}, RepL K Z H vs (ns.map D.bl) F → vs = ns.map V.bl
  | _, [], _, h => by cases h; rfl
  | _, n :: ns, _, h => by
    cases h with
    | cons h1 h2 _ _ => rw [h1.bl_inv, RepL.bls h2]; rfl
theorem RepL.of_ints : ∀ (ns : List Int) {F : AS}, RepL K Z H (ns.map V.int) (ns.map D.int) F
  | [], _ => .nil
  | n :: ns, _ => .cons (G := nF) (E := nF) (.int n) (RepL.of_ints ns) (fun _ z => z.elim) fun _ z => z.elim
theorem RepL.imm' : ∀ {vs : List V} {ds : List D} {F : AS} {H' : Hp} {G : AS}, RepL K Z H vs ds F → frzL ds = ds → RepL K Z H' vs ds G
  | _, _, _, _, _, .nil, _ => .nil
  | _, _, _, _, _, .cons h1 h2 _ _, e => by
    rw [frzL] at e
    exact .cons (G := nF) (E := nF) (h1.imm (List.cons.inj e).1) (RepL.imm' h2 (List.cons.inj e).2) (fun _ z => z.elim) fun _ z => z.elim
/-- each by itself (they may lie in one another) -/
abbrev RepA (K : PySem.W.Frag) (Z H : Hp) (F : AS) : List V → List D → Prop := Paired fun v d => Rep K Z H v d F
end

/-! ### argument lists -/
abbrev TXA := Env → (List D → Env → Prop) → Prop
structure VPA (K : PySem.W.Frag) (M R : List Nat) (S S' : W) (vs : List V) (ds : List D) (Fv : AS) : Prop where
  rep : RepA K S'.Z S'.H Fv vs ds
  tv : ∀ a, Fv a → (∃ o, S'.H a = some o) ∧ S'.Z a = none
  ow : ∀ a, Fv a → (∃ i, i ∈ R ∧ S'.F i a) ∨ ((∀ i, ¬ S'.F i a) ∧ (S.H a = none ∨ ∃ i, i ∈ M ∧ S.F i a))
def liftA (K : PySem.W.Frag) (M R : List Nat) (t : TXA) : TA := fun σ H Q => ∃ S Qt, S.H = H ∧ SR K σ S ∧ t S.env Qt ∧
  ∀ S' vs ds Fv, Qt ds S'.env → SR K σ S' → Stp M S S' → VPA K M R S S' vs ds Fv → Q vs S'.H
structure XA (X : Cx) (es : List Expr) (M R : List Nat) (t : TXA) : Prop where
  pa : PA X es (liftA X.K M R t)
/-- .. each owned by itself -/
structure VPL (K : PySem.W.Frag) (M : List Nat) (S S' : W) (vs : List V) (ds : List D) (Fv : AS) : Prop where
  rep : RepL K S'.Z S'.H vs ds Fv
  tv : ∀ a, Fv a → (∃ o, S'.H a = some o) ∧ S'.Z a = none
  ow : ∀ a, Fv a → (∀ i, ¬ S'.F i a) ∧ (S.H a = none ∨ ∃ i, i ∈ M ∧ S.F i a)
def liftL (K : PySem.W.Frag) (M : List Nat) (n : Nat) (t : TXA) : TA := fun σ H Q => ∃ S Qt, S.H = H ∧ SR K σ S ∧ t S.env Qt ∧
  ∀ S' vs ds Fv, Qt ds S'.env → ds.length = n → SR K σ S' → Stp M S S' → VPL K M S S' vs ds Fv → Q vs S'.H
structure XL (X : Cx) (es : List Expr) (M : List Nat) (t : TXA) : Prop where
  pa : PA X es (liftL X.K M es.length t)
theorem pa_imp {X : Cx} {e : List Expr} {t t' : TA} (h : PA X e t) (i : ∀ σ H Q, t' σ H Q → t σ H Q) : PA X e t' := ⟨fun pos pins s σ H Q I q => h.run pos pins s σ H Q I (i σ H Q q)⟩
def aNil : TXA := fun env Q => Q [] env
def aCons (t : TX) (u : TXA) : TXA := fun env Q => t env fun d env1 => u env1 fun ds env2 => Q (d :: ds) env2
section
variable {X : Cx} {e : Expr} {es : List Expr} {M M' Ma Mb R Ra Rb : List Nat} {t : TX} {u : TXA} {pos : Pos}
theorem xa_nil : XA X [] [] [] aNil := ⟨pa_imp pa_nil fun σ H Q ⟨S, Qt, eH, s, q, k⟩ => by
  subst eH
  exact k S [] [] nF q s (.refl _ _) ⟨.nil, fun _ z => z.elim, fun _ z => z.elim⟩⟩
theorem VP.paired {K : PySem.W.Frag} {Z H : Hp} {F G : AS} (h : ∀ a, F a → G a) : ∀ {vs : List V} {ds : List D}, RepA K Z H F vs ds → RepA K Z H G vs ds
  | _, _, .nil => .nil
  | _, _, .cons r t => .cons (r.mono h) (VP.paired h t)
theorem xa_cons (h : XX X e Ma Ra t) (h2 : XA X es Mb Rb u) (dj : Dj Ra Mb = true := by rfl) (hs : starEach (e :: es) X.env = (false, eval e X.env) :: starEach es X.env := by rfl) : XA X (e :: es) (Ma ++ Mb) (Ra ++ Rb) (aCons t u) := ⟨pa_imp (pa_cons h.pe h2.pa hs) fun σ H Q ⟨S, Qt, eH, s, q, k⟩ => by
  subst eH
  refine ⟨S, _, rfl, s, q, fun S1 x d Fx q1 s1 st1 v1 => ⟨S1, _, rfl, s1, q1, fun S2 vs ds Fs q2 s2 st2 v2 => ?_⟩⟩
  have w1 := v1.later s1 st1 st2 dj
  refine k S2 (x :: vs) (d :: ds) (fun a => Fx a ∨ Fs a) q2 s2 (st1.trans st2) ⟨.cons (w1.rep.mono fun _ z => .inl z) (VP.paired (fun _ z => .inr z) v2.rep), fun a z => z.elim (w1.tv a) (v2.tv a), fun a z => ?_⟩
  rcases z with z | z
  · exact (w1.ow a z).imp (fun ⟨i, a, b⟩ => ⟨i, List.mem_append_left _ a, b⟩) id
  · rcases v2.ow a z with ⟨i, h1, h2⟩ | ⟨h1, h2⟩
    · exact .inl ⟨i, List.mem_append_right _ h1, h2⟩
    · refine .inr ⟨h1, ?_⟩
      rcases h2 with h2 | ⟨i, h2, h3⟩
      · exact .inl (st1.none_of h2)
      · by_cases hm : i ∈ Ma
        · rcases st1.nf i a hm h3 with ⟨j, q1, q2⟩ | q
          · exact .inr ⟨j, List.mem_append_left _ q1, q2⟩
          · exact .inl q
        · rw [(st1.frm i hm).2] at h3
          exact .inr ⟨i, List.mem_append_right _ h2, h3⟩⟩
theorem xl_nil : XL X [] [] aNil := ⟨pa_imp pa_nil fun σ H Q ⟨S, Qt, eH, s, q, k⟩ => by
  subst eH
  exact k S [] [] nF q rfl s (.refl _ _) ⟨.nil, fun _ z => z.elim, fun _ z => z.elim⟩⟩
theorem xl_cons (h : XX X e Ma [] t) (h2 : XL X es Mb u) (hs : starEach (e :: es) X.env = (false, eval e X.env) :: starEach es X.env := by rfl) : XL X (e :: es) (Ma ++ Mb) (aCons t u) := ⟨pa_imp (pa_cons h.pe h2.pa hs) fun σ H Q ⟨S, Qt, eH, s, q, k⟩ => by
  subst eH
  refine ⟨S, _, rfl, s, q, fun S1 x d Fx q1 s1 st1 v1 => ⟨S1, _, rfl, s1, q1, fun S2 vs ds Fs q2 hl s2 st2 v2 => ?_⟩⟩
  have w1 := v1.later s1 st1 st2 (by unfold Dj; rfl)
  have ow1 : ∀ a, Fx a → (∀ i, ¬ S2.F i a) ∧ (S.H a = none ∨ ∃ i, i ∈ Ma ++ Mb ∧ S.F i a) := fun a z => by
    rcases w1.ow a z with ⟨i, h, _⟩ | h
    · cases h
    · exact h
  refine k S2 (x :: vs) (d :: ds) (fun a => Fx a ∨ Fs a) q2 (by rw [List.length_cons, hl]; rfl) s2 (st1.trans st2) ⟨.cons w1.rep v2.rep (fun _ z => .inl z) (fun a z => ⟨.inr z, fun y => ?_⟩), fun a z => z.elim (w1.tv a) (v2.tv a), fun a z => ?_⟩
  · -- apart: what comes later is new, or was a name's
    rcases (v2.ow a z).2 with h2 | ⟨i, h2, h3⟩
    · obtain ⟨⟨o, e⟩, _⟩ := v1.tv a y
      rw [h2] at e; cases e
    · rcases v1.ow a y with ⟨i, h, _⟩ | h
      · cases h
      · exact h.1 i h3
  · rcases z with z | z
    · exact ow1 a z
    · obtain ⟨h1, h2⟩ := v2.ow a z
      refine ⟨h1, ?_⟩
      rcases h2 with h2 | ⟨i, h2, h3⟩
      · exact .inl (st1.none_of h2)
      · by_cases hm : i ∈ Ma
        · rcases st1.nf i a hm h3 with ⟨j, q1, q2⟩ | q
          · exact .inr ⟨j, List.mem_append_left _ q1, q2⟩
          · exact .inl q
        · rw [(st1.frm i hm).2] at h3
          exact .inr ⟨i, List.mem_append_right _ h2, h3⟩⟩
/-- of a view that owns nothing -/
def oImm (t : TX) : TX := fun env Q => t env fun d env1 => d.frz = d ∧ Q d env1
theorem x_toimm (h : XX X e M R t) : XX X e M [] (oImm t) := ⟨pe_imp h.pe fun σ H Q ⟨S, Qt, eH, s, q, k⟩ => by
  subst eH
  exact ⟨S, _, rfl, s, q, fun S1 v d Fv ⟨f, q1⟩ s1 st1 v1 => k S1 v d nF q1 s1 st1 (.imm (v1.rep.imm f))⟩⟩
/-! ### displays -/
def oLst (t : TXA) : TX := fun env Q => t env fun ds env1 => Q (.lst true ds) env1
def oTup (t : TXA) : TX := fun env Q => t env fun ds env1 => Q (.tup ds) env1
theorem le_line {n : Nat} (h : n ≤ 1000) : n ≤ sizeLine := Nat.le_trans h (by rw [sizeLine_eq]; decide)
theorem x_lst (h : XL X es M u) (hn : es.length ≤ 1000 := by decide) : XX X (.List es pos) M [] (oLst u) := ⟨pe_imp (pe_lst h.pa) fun σ H Q ⟨S, Qt, eH, s, q, k⟩ => by
  subst eH
  refine ⟨S, _, rfl, s, q, fun S1 vs ds Fs q1 hl s1 st1 v1 => ⟨?_, fun p hp => ?_⟩⟩
  · rw [v1.rep.length, hl]; exact le_line hn
  · obtain ⟨x, zh⟩ := ext_new (o := .lst vs) s1.zh hp
    have zp : S1.Z p = none := by
      cases e : S1.Z p with
      | none => rfl
      | some u => have := s1.zh p u e; rw [hp] at this; cases this
    refine k ⟨S1.Z, upd S1.H p (.lst vs), S1.env, S1.F⟩ _ _ (fun a => a = p ∨ Fs a) q1 (s1.more x zh) (st1.then0 (.more x)) ⟨.lstO (.inl rfl) upd_same zp (v1.rep.ext x fun _ _ z => z) (fun b z => ⟨.inr z, fun e => ?_⟩), fun a z => ?_, fun a z => ?_⟩
    · obtain ⟨⟨o, e'⟩, _⟩ := v1.tv b z
      rw [e, hp] at e'; cases e'
    · rcases z with z | z
      · subst z; exact ⟨⟨_, upd_same⟩, zp⟩
      · obtain ⟨⟨o, e⟩, z⟩ := v1.tv a z
        exact ⟨⟨o, x.fr a o e fun z => z⟩, z⟩
    · rcases z with z | z
      · subst z; exact .inr ⟨fun i z => s1.noF hp z, .inl (st1.none_of hp)⟩
      · exact .inr (v1.ow a z)⟩
theorem x_tup {x1} (h : XL X es M u) (hn : es.length ≤ 1000 := by decide) : XX X (.Tuple es x1 pos) M [] (oTup u) := ⟨pe_imp (pe_tup h.pa) fun σ H Q ⟨S, Qt, eH, s, q, k⟩ => by
  subst eH
  refine ⟨S, _, rfl, s, q, fun S1 vs ds Fs q1 hl s1 st1 v1 => ⟨?_, fun p hp => ?_⟩⟩
  · rw [v1.rep.length, hl]; exact le_line hn
  · obtain ⟨x, zh⟩ := ext_newZ (o := .tup vs) s1.zh hp
    refine k ⟨upd S1.Z p (.tup vs), upd S1.H p (.tup vs), S1.env, S1.F⟩ _ _ Fs q1 (s1.more x zh) (st1.then0 (.more x)) ⟨.tup upd_same (v1.rep.ext x fun _ _ z => z), fun a z => ?_, fun a z => .inr (v1.ow a z)⟩
    obtain ⟨⟨o, e⟩, z⟩ := v1.tv a z
    have hap : a ≠ p := ne_of_none e hp
    exact ⟨⟨o, x.fr a o e fun z => z⟩, Eq.trans (upd_ne hap) z⟩⟩
/-! ### built-ins -/
def CallT (X : Cx) (f : Value) (rt : List D → (D → Prop) → Prop) : Prop :=
  ∃ r, CallR X f r ∧ ∀ (σ : L2.St) (S : W) (vs : List V) (ds : List D) (F : AS) (Qd : D → Prop) (P : V → Hp → Prop), SR X.K σ S → RepA X.K S.Z S.H F vs ds → rt ds Qd →
    (∀ Z' H' v d' Fv, Qd d' → Fr X.K S Z' H' v d' Fv → P v H') → r vs S.H P
def oCall (rt : List D → (D → Prop) → Prop) (u : TXA) : TX := fun env Q => u env fun ds env1 => rt ds fun r => Q r env1
variable {rt : List D → (D → Prop) → Prop} {x : Str} {p : Pos} {bid T : String}
theorem call_lift {r : List V → Hp → VK → Prop} (hh : ∀ (σ : L2.St) (S : W) (vs : List V) (ds : List D) (F : AS) (Qd : D → Prop) (P : V → Hp → Prop), SR X.K σ S → RepA X.K S.Z S.H F vs ds → rt ds Qd →
    (∀ Z' H' v d' Fv, Qd d' → Fr X.K S Z' H' v d' Fv → P v H') → r vs S.H P) (σ : L2.St) (H : Hp) (Q : VK) (h : lift X.K M [] (oCall rt u) σ H Q) : tCB r (liftA X.K M R u) σ H Q := by
  obtain ⟨S, Qt, eH, s, q, k⟩ := h
  subst eH
  refine ⟨S, _, rfl, s, q, fun S1 vs ds Fs q1 s1 st1 v1 => hh σ S1 vs ds Fs _ _ s1 v1.rep q1 fun Z' H' v d' Fv q2 f => ?_⟩
  exact k ⟨Z', H', S1.env, S1.F⟩ v d' Fv q2 (f.sr s1) (st1.then0 f.stp) ((f.vp s1).then0 st1)
theorem x_callB (hc : CallT X (.builtin bid) rt) (hg : Gl X x) (hm : X.mg x = none) (hv : bootBuiltins x = some (.builtin bid)) (ha : XA X (e :: es) M R u) (hn : x ≠ "__name__" := by decide) (hdbg : (x == ("__debug__" : Str)) = false := by decide)
    (he : starEach (e :: es) X.env = (false, eval e X.env) :: starEach es X.env := by rfl) (hpln : (backTo pos (starEach es X.env)).any (·.1) = false := by rfl) : XX X (.Call (.Name x p) (e :: es) [] pos) M [] (oCall rt u) := by
  obtain ⟨r, hc, hh⟩ := hc
  exact ⟨pe_imp (pe_callB hc hg hm hv ha.pa hn hdbg he hpln) fun σ H Q h => call_lift hh σ H Q h⟩
theorem x_callTy (hc : CallT X (.type T) rt) (hg : Gl X x) (hm : X.mg x = none) (hv : bootBuiltins x = some (.type T)) (ha : XA X (e :: es) M R u) (hn : x ≠ "__name__" := by decide) (hdbg : (x == ("__debug__" : Str)) = false := by decide)
    (he : starEach (e :: es) X.env = (false, eval e X.env) :: starEach es X.env := by rfl) (hpln : (backTo pos (starEach es X.env)).any (·.1) = false := by rfl) : XX X (.Call (.Name x p) (e :: es) [] pos) M [] (oCall rt u) := by
  obtain ⟨r, hc, hh⟩ := hc
  exact ⟨pe_imp (pe_callTy hc hg hm hv ha.pa hn hdbg he hpln) fun σ H Q h => call_lift hh σ H Q h⟩
/-- one argument -/
def r1 (g : D → (D → Prop) → Prop) : List D → (D → Prop) → Prop := fun ds Q => ∃ d, ds = [d] ∧ g d Q
theorem paired1 {K : PySem.W.Frag} {Z H : Hp} {F : AS} {vs : List V} {d : D} (h : RepA K Z H F vs [d]) : ∃ v, vs = [v] ∧ Rep K Z H v d F := by
  cases h with
  | cons r t => cases t; exact ⟨_, rfl, r⟩
theorem paired2 {K : PySem.W.Frag} {Z H : Hp} {F : AS} {vs : List V} {d e : D} (h : RepA K Z H F vs [d, e]) : ∃ v w, vs = [v, w] ∧ Rep K Z H v d F ∧ Rep K Z H w e F := by
  cases h with
  | cons r t => cases t with
    | cons r2 t => cases t; exact ⟨_, _, rfl, r, r2⟩
def lenD : D → Option Int
  | .lst _ xs => some xs.length
  | .kst xs => some xs.length
  | .tup xs => some xs.length
  | .str z => if z.length ≤ sizeLine then some z.length else none
  | _ => none
def gLen : List D → (D → Prop) → Prop := r1 fun d Q => ∃ n, lenD d = some n ∧ Q (.int n)
theorem c_len : CallT X (.builtin "len") gLen := by
  refine ⟨_, call_len, fun σ S vs ds F Qd P s ra ⟨d, e, n, hn, q⟩ k => ?_⟩
  subst e
  obtain ⟨v, rfl, r⟩ := paired1 ra
  have fin : ∀ m : Nat, (m : Int) = n → LenV X.K v S.H m → ∃ x m, [v] = [x] ∧ LenV X.K x S.H m ∧ P (.int m) S.H := fun m em hl => ⟨v, m, rfl, hl, k _ _ _ _ nF (em ▸ q) (.imm s (.int _))⟩
  cases d with
  | lst o xs =>
    obtain ⟨a, vs, rfl, h1, h2⟩ := r.lst_inv s.zh
    exact fin vs.length (by rw [h2.length]; exact Option.some.inj hn) (.inl ⟨vs, .inl h1, rfl⟩)
  | kst xs =>
    obtain ⟨a, vs, rfl, h1, h2⟩ := r.kst_inv s.zh
    exact fin vs.length (by rw [h2.length]; exact Option.some.inj hn) (.inl ⟨vs, h1, rfl⟩)
  | tup xs =>
    obtain ⟨a, vs, rfl, h1, _, h2⟩ := r.tup_inv s.zh
    exact fin vs.length (by rw [h2.length]; exact Option.some.inj hn) (.inr ⟨vs, SqT.of h1, rfl⟩)
  | str z =>
    obtain rfl := r.str_inv
    simp only [lenD] at hn
    split at hn
    · rename_i hz
      exact fin z.length (Option.some.inj hn) ⟨hz, rfl⟩
    · cases hn
  | _ => cases hn
def gAbs : List D → (D → Prop) → Prop := r1 fun d Q => ∃ i, d = .int i ∧ Q (.int (if i < 0 then -i else i))
theorem c_abs : CallT X (.builtin "abs") gAbs := by
  refine ⟨_, call_abs, fun σ S vs ds F Qd P s ra ⟨d, e, n, hn, q⟩ k => ?_⟩
  subst e hn
  obtain ⟨v, rfl, r⟩ := paired1 ra
  exact ⟨n, by rw [r.int_inv], k _ _ _ _ nF q (.imm s (.int _))⟩
def intD : D → Option Int
  | .int i => some i
  | .bl b => some (if b then 1 else 0)
  | _ => none
def gInt : List D → (D → Prop) → Prop := r1 fun d Q => ∃ i, intD d = some i ∧ Q (.int i)
theorem c_int : CallT X (.type "int") gInt := by
  refine ⟨_, call_int1, fun σ S vs ds F Qd P s ra ⟨d, e, n, hn, q⟩ k => ?_⟩
  subst e
  obtain ⟨v, rfl, r⟩ := paired1 ra
  cases d with
  | int i =>
    cases hn
    exact .inl ⟨n, by rw [r.int_inv], k _ _ _ _ nF q (.imm s (.int _))⟩
  | bl b =>
    cases hn
    exact .inr ⟨b, by rw [r.bl_inv], k _ _ _ _ nF q (.imm s (.int _))⟩
  | _ => cases hn
def gMax2 : List D → (D → Prop) → Prop := fun ds Q => ∃ i j, ds = [.int i, .int j] ∧ Q (.int (if j > i then j else i))
theorem c_max2 (hc : X.calm = true) : CallT X (.builtin "max") gMax2 := by
  refine ⟨_, call_max2 hc, fun σ S vs ds F Qd P s ra ⟨i, j, e, q⟩ k => ?_⟩
  subst e
  obtain ⟨v, w, rfl, r, r2⟩ := paired2 ra
  exact ⟨i, j, by rw [r.int_inv, r2.int_inv], k _ _ _ _ nF q (.imm s (.int _))⟩
def gMin2 : List D → (D → Prop) → Prop := fun ds Q => ∃ i j, ds = [.int i, .int j] ∧ Q (.int (if j < i then j else i))
theorem c_min2 (hc : X.calm = true) : CallT X (.builtin "min") gMin2 := by
  refine ⟨_, call_min2 hc, fun σ S vs ds F Qd P s ra ⟨i, j, e, q⟩ k => ?_⟩
  subst e
  obtain ⟨v, w, rfl, r, r2⟩ := paired2 ra
  exact ⟨i, j, by rw [r.int_inv, r2.int_inv], k _ _ _ _ nF q (.imm s (.int _))⟩
/-- a fresh list of things that own nothing -/
theorem Fr.lst {K : PySem.W.Frag} {σ : L2.St} {S : W} {vs : List V} {ds : List D} {q : Addr} (s : SR K σ S) (hp : S.H q = none) (r : RepL K S.Z S.H vs ds nF) : Fr K S S.Z (upd S.H q (.lst vs)) (.ref q) (.lst true ds) (fun a => a = q) := by
  obtain ⟨x, zh⟩ := ext_new (o := .lst vs) s.zh hp
  have zp : S.Z q = none := by
    cases e : S.Z q with
    | none => rfl
    | some u => have := s.zh q u e; rw [hp] at this; cases this
  exact ⟨x, zh, .lstO rfl upd_same zp (r.ext x fun _ _ z => z) fun _ z => z.elim, fun a e => by subst e; exact ⟨hp, ⟨_, upd_same⟩, zp⟩⟩
theorem Fr.tup {K : PySem.W.Frag} {σ : L2.St} {S : W} {vs : List V} {ds : List D} {q : Addr} (s : SR K σ S) (hp : S.H q = none) (r : RepL K S.Z S.H vs ds nF) : Fr K S (upd S.Z q (.tup vs)) (upd S.H q (.tup vs)) (.ref q) (.tup ds) nF := by
  obtain ⟨x, zh⟩ := ext_newZ (o := .tup vs) s.zh hp
  exact ⟨x, zh, .tup upd_same (r.ext x fun _ _ z => z), fun a z => z.elim⟩
/-- the items of a list, a tuple -/
def itemsD : D → Option (List D)
  | .lst _ xs => some xs
  | .kst xs => some xs
  | .tup xs => some xs
  | _ => none
def gList : List D → (D → Prop) → Prop := r1 fun d Q => ∃ xs, itemsD d = some xs ∧ frzL xs = xs ∧ Q (.lst true xs)
theorem c_list : CallT X (.type "list") gList := by
  refine ⟨_, call_list_of, fun σ S vs ds F Qd P s ra ⟨d, e, xs, hn, hf, q⟩ k => ?_⟩
  subst e
  obtain ⟨v, rfl, r⟩ := paired1 ra
  cases d with
  | lst o ys =>
    cases hn
    obtain ⟨a, vs, rfl, h1, h2⟩ := r.lst_inv s.zh
    exact ⟨a, vs, rfl, .inl (.inl h1), fun l hl => k _ _ _ _ _ q (.lst s hl (h2.imm' hf))⟩
  | kst ys =>
    cases hn
    obtain ⟨a, vs, rfl, h1, h2⟩ := r.kst_inv s.zh
    exact ⟨a, vs, rfl, .inl h1, fun l hl => k _ _ _ _ _ q (.lst s hl (h2.imm' hf))⟩
  | tup ys =>
    cases hn
    obtain ⟨a, vs, rfl, h1, _, h2⟩ := r.tup_inv s.zh
    exact ⟨a, vs, rfl, .inr (SqT.of h1), fun l hl => k _ _ _ _ _ q (.lst s hl (h2.imm' hf))⟩
  | _ => cases hn
def gTuple : List D → (D → Prop) → Prop := r1 fun d Q => ∃ xs, itemsD d = some xs ∧ frzL xs = xs ∧ Q (.tup xs)
theorem c_tuple : CallT X (.type "tuple") gTuple := by
  refine ⟨_, call_tuple_of, fun σ S vs ds F Qd P s ra ⟨d, e, xs, hn, hf, q⟩ k => ?_⟩
  subst e
  obtain ⟨v, rfl, r⟩ := paired1 ra
  cases d with
  | lst o ys =>
    cases hn
    obtain ⟨a, vs, rfl, h1, h2⟩ := r.lst_inv s.zh
    exact ⟨a, vs, rfl, .inl ⟨.inl h1, fun l hl => k _ _ _ _ _ q (.tup s hl (h2.imm' hf))⟩⟩
  | kst ys =>
    cases hn
    obtain ⟨a, vs, rfl, h1, h2⟩ := r.kst_inv s.zh
    exact ⟨a, vs, rfl, .inl ⟨h1, fun l hl => k _ _ _ _ _ q (.tup s hl (h2.imm' hf))⟩⟩
  | tup ys =>
    cases hn
    obtain ⟨a, vs, rfl, h1, h0, h2⟩ := r.tup_inv s.zh
    exact ⟨a, vs, rfl, .inr ⟨SqT.of h1, k _ _ _ _ nF q (.imm s (.tup h0 (h2.imm' hf)))⟩⟩
  | _ => cases hn
def gSum : List D → (D → Prop) → Prop := r1 fun d Q => ∃ (o : Bool) (ns : List Int), d = .lst o (ns.map D.int) ∧ Q (.int ns.sum)
theorem c_sum (hc : X.calm = true) : CallT X (.builtin "sum") gSum := by
  refine ⟨_, cr_sum hc, fun σ S vs ds F Qd P s ra ⟨d, e, o, ns, hn, q⟩ k => ?_⟩
  subst e hn
  obtain ⟨v, rfl, r⟩ := paired1 ra
  obtain ⟨a, vs, rfl, h1, h2⟩ := r.lst_inv s.zh
  exact ⟨a, ns, rfl, by rw [← h2.ints]; exact .inl h1, k _ _ _ _ nF q (.imm s (.int _))⟩
def gAny : List D → (D → Prop) → Prop := r1 fun d Q => ∃ (o : Bool) (ns : List Bool), d = .lst o (ns.map D.bl) ∧ Q (.bl (ns.any id))
theorem c_any (hc : X.calm = true) : CallT X (.builtin "any") gAny := by
  refine ⟨_, cr_any hc, fun σ S vs ds F Qd P s ra ⟨d, e, o, ns, hn, q⟩ k => ?_⟩
  subst e hn
  obtain ⟨v, rfl, r⟩ := paired1 ra
  obtain ⟨a, vs, rfl, h1, h2⟩ := r.lst_inv s.zh
  exact ⟨a, ns, rfl, by rw [← h2.bls]; exact .inl h1, k _ _ _ _ nF q (.imm s (.bl _))⟩
def gAll : List D → (D → Prop) → Prop := r1 fun d Q => ∃ (o : Bool) (ns : List Bool), d = .lst o (ns.map D.bl) ∧ Q (.bl (ns.all id))
theorem c_all (hc : X.calm = true) : CallT X (.builtin "all") gAll := by
  refine ⟨_, cr_all hc, fun σ S vs ds F Qd P s ra ⟨d, e, o, ns, hn, q⟩ k => ?_⟩
  subst e hn
  obtain ⟨v, rfl, r⟩ := paired1 ra
  obtain ⟨a, vs, rfl, h1, h2⟩ := r.lst_inv s.zh
  exact ⟨a, ns, rfl, by rw [← h2.bls]; exact .inl h1, k _ _ _ _ nF q (.imm s (.bl _))⟩
end
end TT

/-! T6: subscripts, slices, +, *, ==, in, dicts that are read -/
namespace TT
open PySem PySem.Spec PyProof.Rows L2
theorem atI_map_len {α β : Type} {xs : List α} {ys : List β} (hl : xs.length = ys.length) {i : Int} {y : β} (h : atI ys i = some y) : ∃ j : Nat, ys[j]? = some y ∧ ∀ x, xs[j]? = some x → atI xs i = some x := by
  unfold atI at h ⊢
  rw [hl]
  cases e : ixN ys.length i with
  | none => rw [e] at h; cases h
  | some j =>
    rw [e] at h
    exact ⟨j, h, fun x hx => hx⟩
/-- xs[i], t[i], s[i] -/
def getIx : D → D → Option D
  | .lst _ xs, .int i => atI xs i
  | .kst xs, .int i => atI xs i
  | .tup xs, .int i => atI xs i
  | .str z, .int i => if z.length ≤ sizeLine then (atI z.cps.toList i).map fun c => .str ⟨#[c]⟩ else none
  | _, _ => none
def oIx (ta tb : TX) : TX := fun env Q => ta env fun d env1 => tb env1 fun k env2 => ∃ r, getIx d k = some r ∧ Q r env2
section
variable {X : Cx} {a b e : Expr} {pos : Pos} {M Ma Mb R Ra Rb : List Nat} {ta tb t : TX}
theorem ix_rep {K : PySem.W.Frag} {S : W} {σ : L2.St} {x y : V} {d k r : D} {Fx Fy : AS} (s : SR K σ S) (rx : Rep K S.Z S.H x d Fx) (ry : Rep K S.Z S.H y k Fy) (h : getIx d k = some r) {P : V → Hp → Prop}
    (q : ∀ v, Rep K S.Z S.H v r Fx → P v S.H) : rIx K x y S.H P := by
  cases d with
  | lst o xs =>
    cases k with
    | int i =>
      obtain ⟨a, vs, rfl, h1, h2⟩ := rx.lst_inv s.zh
      obtain ⟨j, hj, hw⟩ := atI_map_len h2.length h
      obtain ⟨v, hv, rv⟩ := h2.get hj
      exact .inl ⟨a, vs, i, v, rfl, ry.int_inv, .inl h1, hw v hv, q v rv⟩
    | _ => cases h
  | kst xs =>
    cases k with
    | int i =>
      obtain ⟨a, vs, rfl, h1, h2⟩ := rx.kst_inv s.zh
      obtain ⟨j, hj, hw⟩ := atI_map_len h2.length h
      obtain ⟨v, hv, rv⟩ := h2.get hj
      exact .inl ⟨a, vs, i, v, rfl, ry.int_inv, h1, hw v hv, q v rv⟩
    | _ => cases h
  | tup xs =>
    cases k with
    | int i =>
      obtain ⟨a, vs, rfl, h1, _, h2⟩ := rx.tup_inv s.zh
      obtain ⟨j, hj, hw⟩ := atI_map_len h2.length h
      obtain ⟨v, hv, rv⟩ := h2.get hj
      exact .inr (.inl ⟨a, vs, i, v, rfl, ry.int_inv, SqT.of h1, hw v hv, q v rv⟩)
    | _ => cases h
  | str z =>
    cases k with
    | int i =>
      simp only [getIx] at h
      split at h
      · rename_i hz
        cases e : atI z.cps.toList i with
        | none => rw [e] at h; cases h
        | some c =>
          rw [e] at h
          cases h
          exact .inr (.inr ⟨z, i, c, rx.str_inv, ry.int_inv, hz, e, q _ (.str _)⟩)
      · cases h
    | _ => cases h
  | _ => cases k <;> cases h
theorem x_ix (ha : XX X a Ma Ra ta) (hb : XX X b Mb Rb tb) (dj : Dj Ra Mb = true := by rfl) (hs : PlainIx b := by exact fun _ _ => rfl) : XX X (.Subscript a b pos) (Ma ++ Mb) Ra (oIx ta tb) := ⟨pe_imp (pe_ix ix_seq ha.pe hb.pe hs) fun σ H Q ⟨S, Qt, eH, s, q, k⟩ => by
  subst eH
  refine two dj s q fun S' x d Fx y e Fy ⟨r, hr, q1⟩ s1 st v1 v2 => ?_
  exact ix_rep s1 v1.rep v2.rep hr fun v rv => k S' v r Fx q1 s1 st ⟨rv, v1.tv, v1.ow⟩⟩

/-! ### dicts that are read -/
def keyD : D → Option Key
  | .int i => some (.inl i)
  | .str x => some (.inr x)
  | _ => none
def keysD : List D → Option (List Key)
  | [] => some []
  | d :: r => match keyD d, keysD r with
    | some k, some ks => some (k :: ks)
    | _, _ => none
def lookK {κ : Type} [DecidableEq κ] (kvs : List (κ × D)) (k : κ) : Option D := (kvs.find? fun p => decide (p.1 = k)).map (·.2)
/-- what a dict has at a key (none: no dict, or no key) -/
def dget : D → D → Option (Option D)
  | .dct _ kvs, k => (keyD k).map fun k => lookK kvs k
  | .dtt _ kvs, .tup ks => (keysD ks).map fun k => lookK kvs k
  | _, _ => none
theorem Rep.key {K : PySem.W.Frag} {Z H : Hp} {v : V} {d : D} {F : AS} {k : Key} (r : Rep K Z H v d F) (h : keyD d = some k) : v = kV k := by
  cases d <;> simp only [keyD, Option.some.injEq, reduceCtorEq] at h <;> subst h
  · exact r.int_inv
  · exact r.str_inv
theorem RepL.keys {K : PySem.W.Frag} {Z H : Hp} : ∀ {vs : List V} {ds : List D} {F : AS} {ks : List Key}, RepL K Z H vs ds F → keysD ds = some ks → vs = ks.map kV
  | _, [], _, ks, .nil, h => by cases h; rfl
  | _, d :: ds, _, ks, .cons r t _ _, h => by
    unfold keysD at h
    cases e1 : keyD d with
    | none => rw [e1] at h; cases h
    | some k =>
      cases e2 : keysD ds with
      | none => rw [e1, e2] at h; cases h
      | some ks' =>
        rw [e1, e2] at h
        cases h
        rw [r.key e1, RepL.keys t e2]; rfl
theorem look_rep {κ : Type} [DecidableEq κ] {K : PySem.W.Frag} {Z H : Hp} (k : κ) : ∀ {m : List (κ × V)} {kvs : List (κ × D)} {F : AS}, m.map (·.1) = kvs.map (·.1) → RepL K Z H (m.map (·.2)) (kvs.map (·.2)) F →
    (lookK kvs k = none ∧ valV m k = none) ∨ ∃ v d, lookK kvs k = some d ∧ valV m k = some v ∧ Rep K Z H v d F
  | [], [], _, _, _ => .inl ⟨rfl, rfl⟩
  | [], _ :: _, _, h, _ => by cases h
  | _ :: _, [], _, h, _ => by cases h
  | (k1, v) :: m, (k2, d) :: kvs, F, h, r => by
    have h1 : k1 = k2 := (List.cons.inj h).1
    subst h1
    cases r with
    | cons r t f g =>
      by_cases e : k1 = k
      · refine .inr ⟨v, d, by simp [lookK, e], valV_pos e, r.mono f⟩
      · rcases look_rep k (List.cons.inj h).2 t with ⟨a, b⟩ | ⟨v', d', a, b, c⟩
        · exact .inl ⟨by simp only [lookK, List.find?_cons, e, decide_false] at a ⊢; exact a, by rw [valV_neg e]; exact b⟩
        · exact .inr ⟨v', d', by simp only [lookK, List.find?_cons, e, decide_false] at a ⊢; exact a, by rw [valV_neg e]; exact b, c.mono fun z y => (g z y).1⟩
theorem dget_rep {K : PySem.W.Frag} {S : W} {σ : L2.St} {x y : V} {d k : D} {o : Option D} {Fx Fy : AS} (s : SR K σ S) (rx : Rep K S.Z S.H x d Fx) (ry : Rep K S.Z S.H y k Fy) (h : dget d k = some o) :
    ∃ a, x = .ref a ∧ ((o = none ∧ DGet S.H a y none) ∨ ∃ v r, o = some r ∧ DGet S.H a y (some v) ∧ Rep K S.Z S.H v r Fx) := by
  cases d with
  | dct ow kvs =>
    obtain ⟨a, m, rfl, h1, h2, h3⟩ := rx.dct_inv s.zh
    simp only [dget] at h
    cases ek : keyD k with
    | none => rw [ek] at h; cases h
    | some kk =>
      rw [ek] at h
      have h : lookK kvs kk = o := Option.some.inj h
      refine ⟨a, rfl, ?_⟩
      rcases look_rep kk h2 h3 with ⟨e1, e2⟩ | ⟨v, r, e1, e2, e3⟩
      · exact .inl ⟨h.symm.trans e1, .inl ⟨m, kk, h1, ry.key ek, e2.symm⟩⟩
      · exact .inr ⟨v, r, h.symm.trans e1, .inl ⟨m, kk, h1, ry.key ek, e2.symm⟩, e3⟩
  | dtt ow kvs =>
    cases k with
    | tup ks =>
      obtain ⟨a, m, rfl, h1, h2, h3⟩ := rx.dtt_inv s.zh
      obtain ⟨b, vs, rfl, hb, _, hk⟩ := ry.tup_inv s.zh
      simp only [dget] at h
      cases ek : keysD ks with
      | none => rw [ek] at h; cases h
      | some kk =>
        rw [ek] at h
        have h : lookK kvs kk = o := Option.some.inj h
        refine ⟨a, rfl, ?_⟩
        rw [hk.keys ek] at hb
        rcases look_rep kk h2 h3 with ⟨e1, e2⟩ | ⟨v, r, e1, e2, e3⟩
        · exact .inl ⟨h.symm.trans e1, .inr ⟨m, kk, b, h1, rfl, hb, e2.symm⟩⟩
        · exact .inr ⟨v, r, h.symm.trans e1, .inr ⟨m, kk, b, h1, rfl, hb, e2.symm⟩, e3⟩
    | _ => cases h
  | _ => cases h
/-- d[k] -/
def oDGet (ta tb : TX) : TX := fun env Q => ta env fun d env1 => tb env1 fun k env2 => ∃ r, dget d k = some (some r) ∧ Q r env2
theorem x_dget (hu : X.A.units + 1 < cLine) (ha : XX X a Ma Ra ta) (hb : XX X b Mb Rb tb) (dj : Dj Ra Mb = true := by rfl) (hs : NoSl b := by exact fun _ _ => rfl) : XX X (.Subscript a b pos) (Ma ++ Mb) Ra (oDGet ta tb) := ⟨pe_imp (pe_dget hu ha.pe hb.pe hs) fun σ H Q ⟨S, Qt, eH, s, q, k⟩ => by
  subst eH
  refine two dj s q fun S' x d Fx y e Fy ⟨r, hr, q1⟩ s1 st v1 v2 => ?_
  obtain ⟨a, rfl, ⟨h, _⟩ | ⟨v, r', h1, h2, h3⟩⟩ := dget_rep s1 v1.rep v2.rep hr
  · cases h
  · cases h1
    exact ⟨a, v, rfl, h2, k S' v r Fx q1 s1 st ⟨h3, v1.tv, v1.ow⟩⟩⟩
/-- k in d, k not in d -/
def oDIn (neg : Bool) (tk td : TX) : TX := fun env Q => tk env fun k env1 => td env1 fun d env2 => ∃ o, dget d k = some o ∧ Q (.bl (if neg then !o.isSome else o.isSome)) env2
theorem din_lift (neg : Bool) (dj : Dj Ra Mb = true) (σ : L2.St) (H : Hp) (Q : VK) (h : lift X.K (Ma ++ Mb) [] (oDIn neg ta tb) σ H Q) :
    (lift X.K Ma Ra ta σ H fun y H1 => lift X.K Mb Rb tb σ H1 fun x H2 => ∃ a o, x = .ref a ∧ DGet H2 a y o ∧ Q (.bl (if neg then !o.isSome else o.isSome)) H2) := by
  obtain ⟨S, Qt, eH, s, q, k⟩ := h
  subst eH
  refine two dj s q fun S' y e Fy x d Fx ⟨r, hr, q1⟩ s1 st v1 v2 => ?_
  obtain ⟨a, rfl, ⟨h, h2⟩ | ⟨v, r', h1, h2, h3⟩⟩ := dget_rep s1 v2.rep v1.rep hr
  · subst h
    exact ⟨a, none, rfl, h2, k S' _ _ nF q1 s1 st .bl⟩
  · subst h1
    exact ⟨a, some v, rfl, h2, k S' _ _ nF q1 s1 st .bl⟩
theorem x_din (hu : X.A.units + 1 < cLine) (ha : XX X a Ma Ra ta) (hb : XX X b Mb Rb tb) (dj : Dj Ra Mb = true := by rfl) (h1 : behindInMarks .In b = false := by rfl) : XX X (.Compare a [.In] [b] pos) (Ma ++ Mb) [] (oDIn false ta tb) := ⟨pe_imp (pe_cmp (pc_din hu ha.pe hb.pe) h1) fun σ H Q h => din_lift false dj σ H Q h⟩
theorem x_dnin (hu : X.A.units + 1 < cLine) (ha : XX X a Ma Ra ta) (hb : XX X b Mb Rb tb) (dj : Dj Ra Mb = true := by rfl) (h1 : behindInMarks .NotIn b = false := by rfl) : XX X (.Compare a [.NotIn] [b] pos) (Ma ++ Mb) [] (oDIn true ta tb) := ⟨pe_imp (pe_cmp (pc_dnotin hu ha.pe hb.pe) h1) fun σ H Q h => din_lift true dj σ H Q h⟩
theorem xt_of {t : TX} {tt : TE} (h : PT X e (tB tt)) (i : ∀ σ H Q, lift X.K M R t σ H Q → tt σ H Q) : XT X e M (tBl t) := ⟨pt_imp h fun σ H Q ⟨S, Qt, eH, s, q, k⟩ => by
  subst eH
  refine i σ S.H _ ⟨S, _, rfl, s, q, fun S' v d Fv ⟨c, e, q1⟩ s1 st v1 => ?_⟩
  subst e
  exact ⟨c, v1.rep.bl_inv, k S' c q1 s1 st⟩⟩
theorem xt_din (hu : X.A.units + 1 < cLine) (ha : XX X a Ma Ra ta) (hb : XX X b Mb Rb tb) (dj : Dj Ra Mb = true := by rfl) (h1 : behindInMarks .In b = false := by rfl) : XT X (.Compare a [.In] [b] pos) (Ma ++ Mb) (tBl (oDIn false ta tb)) := xt_of (R := []) (pt_cmp (pc_din hu ha.pe hb.pe) h1) fun σ H Q h => din_lift false dj σ H Q h
theorem xt_dnin (hu : X.A.units + 1 < cLine) (ha : XX X a Ma Ra ta) (hb : XX X b Mb Rb tb) (dj : Dj Ra Mb = true := by rfl) (h1 : behindInMarks .NotIn b = false := by rfl) : XT X (.Compare a [.NotIn] [b] pos) (Ma ++ Mb) (tBl (oDIn true ta tb)) := xt_of (R := []) (pt_cmp (pc_dnotin hu ha.pe hb.pe) h1) fun σ H Q h => din_lift true dj σ H Q h

/-! ### data compared -/
mutual
def D.py : D → PyData
  | .non => .none
  | .bl b => .bool b
  | .int i => .int i
  | .str x => .str x
  | .tup xs => .tuple (pyL xs)
  | .lst _ xs => .list (pyL xs)
  | .kst xs => .list (pyL xs)
  | _ => .none
def pyL : List D → List PyData
  | [] => []
  | d :: r => d.py :: pyL r
end
mutual
def D.pyok : D → Bool
  | .non => true
  | .bl _ => true
  | .int _ => true
  | .str _ => true
  | .tup xs => pyokL xs
  | .lst _ xs => pyokL xs
  | .kst xs => pyokL xs
  | _ => false
def pyokL : List D → Bool
  | [] => true
  | d :: r => d.pyok && pyokL r
end
theorem pyL_map : ∀ xs : List D, pyL xs = xs.map D.py
  | [] => by rw [pyL]; rfl
  | d :: r => by rw [pyL, pyL_map r]; rfl
theorem pyokL_all : ∀ xs : List D, pyokL xs = xs.all D.pyok
  | [] => by rw [pyokL]; rfl
  | d :: r => by rw [pyokL, pyokL_all r]; rfl
theorem Rep.dp {K : PySem.W.Frag} {Z H : Hp} {v : V} {d : D} {F : AS} (zh : ∀ a o, Z a = some o → H a = some o) (r : Rep K Z H v d F) (ok : d.pyok = true) : Dp K H v d.py := by
  refine Rep.rec (K := K) (Z := Z) (H := H) (motive_1 := fun v d F _ => d.pyok = true → Dp K H v d.py) (motive_2 := fun v d F _ => pyokL d = true → DpAll K H v (pyL d))
    ?_ ?_ ?_ ?_ ?_ ?_ ?_ ?_ ?_ ?_ ?_ ?_ ?_ ?_ ?_ ?_ ?_ ?_ r ok
  · intro F _; rw [D.py]; exact .non
  · intro F b _; rw [D.py]; exact .bl b
  · intro F b _; rw [D.py]; exact .int b
  · intro F b _; rw [D.py]; exact .str b
  · intro F b h; rw [D.pyok] at h <;> first | cases h | (intros; contradiction)
  · intro F b h; rw [D.pyok] at h <;> first | cases h | (intros; contradiction)
  · intro F a vs xs h1 h2 ih h; rw [D.pyok] at h; rw [D.py]; exact .tup (SqT.of (zh _ _ h1)) (ih h)
  · intro F G a vs xs h1 h2 h3 h4 h5 ih h; rw [D.pyok] at h; rw [D.py]; exact .lst (SqL.of h2) (ih h)
  · intro F a vs xs h1 h2 ih h; rw [D.pyok] at h; rw [D.py]; exact .lst (.inl (Rd.sub zh h1)) (ih h)
  · intro F a vs xs h1 h2 ih h; rw [D.pyok] at h; rw [D.py]; exact .lst (SqL.sub zh h1) (ih h)
  all_goals first
    | (intro F; rw [pyL]; exact fun _ => .nil)
    | (intro F G E v vs d ds h1 h2 h3 h4 ih1 ih2 h; rw [pyokL, Bool.and_eq_true] at h; rw [pyL]; exact .cons (ih1 h.1) (ih2 h.2))
    | (intros; rename_i h; rw [D.pyok] at h <;> first | cases h | (intros; contradiction))
/-- data that can be compared -/
def cmpD (d : D) : Bool := d.pyok && SeqAt.shaped d.py
def rEqT (neg : Bool) : D → D → (D → Prop) → Prop := fun x y Q => cmpD x = true ∧ cmpD y = true ∧ Q (.bl (if neg then !PyData.eqv x.py y.py else PyData.eqv x.py y.py))
theorem o_eq (hu : X.A.units + 64 < cLine) : OpT X (compareOp .Eq) (rEqT false) := ⟨_, op_eqD hu, fun σ S x d Fx y e Fy Qd P s rx ry ⟨h1, h2, q⟩ k => by
  unfold cmpD at h1 h2
  rw [Bool.and_eq_true] at h1 h2
  exact ⟨_, _, rx.dp s.zh h1.1, ry.dp s.zh h2.1, h1.2, h2.2, k _ _ _ _ nF q (.imm s (.bl _))⟩⟩
theorem o_ne (hu : X.A.units + 64 < cLine) : OpT X (compareOp .NotEq) (rEqT true) := ⟨_, op_neD hu, fun σ S x d Fx y e Fy Qd P s rx ry ⟨h1, h2, q⟩ k => by
  unfold cmpD at h1 h2
  rw [Bool.and_eq_true] at h1 h2
  exact ⟨_, _, rx.dp s.zh h1.1, ry.dp s.zh h2.1, h1.2, h2.2, k _ _ _ _ nF q (.imm s (.bl _))⟩⟩
/-- x in a tuple: data of any depth -/
def rInTp (K : PySem.W.Frag) (neg : Bool) : L2.R2 := fun x y H Q => ∃ d ds, Dp K H x d ∧ Dp K H y (.tuple ds) ∧ SeqAt.shaped d = true ∧ SeqAt.shaped (.tuple ds) = true ∧ Q (.bl (if neg then !ds.any fun z => PyData.eqv z d else ds.any fun z => PyData.eqv z d)) H
theorem op_inTp (hu : X.A.units + 65 < cLine) : OpR X (compareOp .In) (rInTp X.K false) := fun _ _ _ _ _ _ _ _ _ inv rx ry ⟨dx, dl, gx, gl, shx, shl, fin⟩ =>
  let ⟨_, readX⟩ := Dp.reads inv dx _ _ gx rx
  let ⟨_, readL⟩ := Dp.reads inv (.tuple dl) _ _ gl ry
  SeqAt.in_tuple_reads readL readX (SeqAt.canLay_of_shaped shl) (SeqAt.canLay_of_shaped shx) (room_in_shaped shx hu) ⟨.bl _, _, inv, rfl, fin⟩
theorem op_notInTp (hu : X.A.units + 65 < cLine) : OpR X (compareOp .NotIn) (rInTp X.K true) := fun _ _ _ _ _ _ _ _ _ inv rx ry ⟨dx, dl, gx, gl, shx, shl, fin⟩ =>
  let ⟨_, readX⟩ := Dp.reads inv dx _ _ gx rx
  let ⟨_, readL⟩ := Dp.reads inv (.tuple dl) _ _ gl ry
  SeqAt.notIn_tuple_reads readL readX (SeqAt.canLay_of_shaped shl) (SeqAt.canLay_of_shaped shx) (room_in_shaped shx hu) ⟨.bl _, _, inv, rfl, fin⟩
def rInT (neg : Bool) : D → D → (D → Prop) → Prop := fun x y Q => ∃ xs, itemsD y = some xs ∧ cmpD x = true ∧ cmpD y = true ∧ Q (.bl (if neg then !xs.any fun z => PyData.eqv z.py x.py else xs.any fun z => PyData.eqv z.py x.py))
theorem any_py (f : PyData → Bool) (xs : List D) : (pyL xs).any f = xs.any fun z => f z.py := by rw [pyL_map, List.any_map]; rfl
theorem o_in (hu : X.A.units + 65 < cLine) : OpT X (compareOp .In) (rInT false) := ⟨_, (op_inD hu).or (op_inTp hu), fun σ S x d Fx y e Fy Qd P s rx ry ⟨xs, hx, h1, h2, q⟩ k => by
  unfold cmpD at h1 h2
  rw [Bool.and_eq_true] at h1 h2
  have dx := rx.dp s.zh h1.1
  have dy := ry.dp s.zh h2.1
  have fin := k _ _ _ _ nF q (.imm s (.bl _))
  cases e with
  | lst o ys => cases hx; rw [D.py] at dy h2; exact .inl ⟨_, _, dx, dy, h1.2, h2.2, by rw [any_py]; exact fin⟩
  | kst ys => cases hx; rw [D.py] at dy h2; exact .inl ⟨_, _, dx, dy, h1.2, h2.2, by rw [any_py]; exact fin⟩
  | tup ys => cases hx; rw [D.py] at dy h2; exact .inr ⟨_, _, dx, dy, h1.2, h2.2, by rw [any_py]; exact fin⟩
  | _ => cases hx⟩
theorem o_nin (hu : X.A.units + 65 < cLine) : OpT X (compareOp .NotIn) (rInT true) := ⟨_, (op_notInD hu).or (op_notInTp hu), fun σ S x d Fx y e Fy Qd P s rx ry ⟨xs, hx, h1, h2, q⟩ k => by
  unfold cmpD at h1 h2
  rw [Bool.and_eq_true] at h1 h2
  have dx := rx.dp s.zh h1.1
  have dy := ry.dp s.zh h2.1
  have fin := k _ _ _ _ nF q (.imm s (.bl _))
  cases e with
  | lst o ys => cases hx; rw [D.py] at dy h2; exact .inl ⟨_, _, dx, dy, h1.2, h2.2, by rw [any_py]; exact fin⟩
  | kst ys => cases hx; rw [D.py] at dy h2; exact .inl ⟨_, _, dx, dy, h1.2, h2.2, by rw [any_py]; exact fin⟩
  | tup ys => cases hx; rw [D.py] at dy h2; exact .inr ⟨_, _, dx, dy, h1.2, h2.2, by rw [any_py]; exact fin⟩
  | _ => cases hx⟩

/-! ### lists: +, *, slices -/
def rCat' : L2.R2 := fun x y H Q => ∃ l b xs zs, x = .ref l ∧ y = .ref b ∧ Rd H l (.lst xs) ∧ Rd H b (.lst zs) ∧ xs.length + zs.length ≤ sizeLine ∧ ∀ p, H p = none → Q (.ref p) (upd H p (.lst (xs ++ zs)))
theorem lst_rd {pins : List (Addr × Obj)} {s : Shared} {σ : L2.St} {H : Hp} {l : Addr} {xs : List V} (I : Inv X pins σ H s) (h : Rd H l (.lst xs)) : ∃ (its : List Value) (n : Nat), Vals xs its ∧ xs.length = its.length ∧ s.heap.get? l = some { cls := .type "list", data := .seq its.toArray n } := by
  obtain ⟨z, its, n, r, e⟩ := h.ok I.hok
  exact ⟨its, n, r, r.length, e⟩
theorem op_cat' : OpR X (binaryOp .Add) rCat' := fun _ s0 _ _ _ _ _ _ _ inv rx ry ⟨la, lb, us, ws, eqx, eqy, ra, rb, room, fin⟩ => by
  subst eqx eqy
  cases rx
  cases ry
  obtain ⟨itA, nA, relA, lenA, getA⟩ := lst_rd inv ra
  obtain ⟨itB, nB, relB, lenB, getB⟩ := lst_rd inv rb
  have both : itA.toArray ++ itB.toArray = (itA ++ itB).toArray := by rw [List.append_toArray]
  refine PySem.P.add_list getA getB ?_ (by rw [List.size_toArray, List.size_toArray, ← lenA, ← lenB]; exact room)
  rw [both]
  exact ⟨.ref _, _, Inv.lnew (t' := s0.toks) inv (relA.append relB) (by rw [List.length_append]; omega), rfl, fin _ inv.fresh⟩
theorem RepL.append {K : PySem.W.Frag} {Z H : Hp} : ∀ {vs ws : List V} {ds es : List D}, RepL K Z H vs ds nF → RepL K Z H ws es nF → RepL K Z H (vs ++ ws) (ds ++ es) nF
  | _, _, _, _, .nil, h => h
  | _, _, _, _, .cons r t f g, h => .cons (G := nF) (E := nF) (r.mono fun a z => f a z) (RepL.append (t.mono fun a z => (g a z).1) h) (fun _ z => z.elim) fun _ z => z.elim
theorem RepL.drop {K : PySem.W.Frag} {Z H : Hp} : ∀ {vs : List V} {ds : List D} {F : AS} (n : Nat), RepL K Z H vs ds F → RepL K Z H (vs.drop n) (ds.drop n) F
  | _, _, _, 0, h => h
  | _, _, _, _ + 1, .nil => .nil
  | _, _, _, n + 1, .cons _ t _ g => RepL.drop n (t.mono fun a z => (g a z).1)
theorem RepL.take {K : PySem.W.Frag} {Z H : Hp} : ∀ {vs : List V} {ds : List D} {F : AS} (n : Nat), RepL K Z H vs ds F → RepL K Z H (vs.take n) (ds.take n) F
  | _, _, _, 0, _ => .nil
  | _, _, _, _ + 1, .nil => .nil
  | _, _, _, n + 1, .cons r t f g => .cons r (RepL.take n t) f g
theorem frzL_append (xs ys : List D) : frzL (xs ++ ys) = frzL xs ++ frzL ys := by rw [frzL_map, frzL_map, frzL_map, List.map_append]
def rCatT : D → D → (D → Prop) → Prop := fun x y Q => ∃ o xs o' ys, x = .lst o xs ∧ y = .lst o' ys ∧ frzL xs = xs ∧ frzL ys = ys ∧ xs.length + ys.length ≤ sizeLine ∧ Q (.lst true (xs ++ ys))
theorem o_cat : OpT X (binaryOp .Add) rCatT := ⟨_, op_cat', fun σ S x d Fx y e Fy Qd P s rx ry ⟨o, xs, o', ys, e1, e2, f1, f2, hl, q⟩ k => by
  subst e1 e2
  obtain ⟨a, vs, rfl, h1, h2⟩ := rx.lst_inv s.zh
  obtain ⟨b, ws, rfl, h3, h4⟩ := ry.lst_inv s.zh
  exact ⟨a, b, vs, ws, rfl, rfl, h1, h3, by rw [h2.length, h4.length]; exact hl, fun p hp => k _ _ _ _ _ q (.lst s hp ((h2.imm' f1).append (h4.imm' f2)))⟩⟩
def rRep' : L2.R2 := fun x y H Q => ∃ l k xs, x = .ref l ∧ y = .int k ∧ H l = some (.lst xs) ∧ -(2 ^ 63) ≤ k ∧ k < 2 ^ 63 ∧ xs.length * k.toNat ≤ sizeLine ∧
  ∀ new, H new = none → Q (.ref new) (upd H new (.lst (List.replicate k.toNat xs).flatten))
/-- xs * k, xs an owned list -/
def rRepT : D → D → (D → Prop) → Prop := fun x y Q => ∃ xs k, x = .lst true xs ∧ y = .int k ∧ frzL xs = xs ∧ -(2 ^ 63) ≤ k ∧ k < 2 ^ 63 ∧ xs.length * k.toNat ≤ sizeLine ∧ Q (.lst true (List.replicate k.toNat xs).flatten)
theorem RepL.rep {K : PySem.W.Frag} {Z H : Hp} {vs : List V} {ds : List D} (h : RepL K Z H vs ds nF) : ∀ k : Nat, RepL K Z H (List.replicate k vs).flatten (List.replicate k ds).flatten nF
  | 0 => .nil
  | k + 1 => by rw [List.replicate_succ, List.replicate_succ, List.flatten_cons, List.flatten_cons]; exact h.append (RepL.rep h k)
theorem Rep.own_inv {K : PySem.W.Frag} {Z H : Hp} {v : V} {xs : List D} {F : AS} (r : Rep K Z H v (.lst true xs) F) : ∃ a vs G, v = .ref a ∧ F a ∧ H a = some (.lst vs) ∧ Z a = none ∧ RepL K Z H vs xs G ∧ ∀ b, G b → F b ∧ b ≠ a := by
  cases r with
  | lstO a b c e f => exact ⟨_, _, _, rfl, a, b, c, e, f⟩
theorem o_rep : OpT X (binaryOp .Mult) rRepT := ⟨_, op_rep, fun σ S x d Fx y e Fy Qd P s rx ry ⟨xs, k, e1, e2, f1, h1, h2, h3, q⟩ kk => by
  subst e1 e2
  obtain ⟨a, vs, G, rfl, _, g1, _, g2, _⟩ := rx.own_inv
  exact ⟨a, k, vs, rfl, ry.int_inv, g1, h1, h2, by rw [g2.length]; exact h3, fun p hp => kk _ _ _ _ _ q (.lst s hp ((g2.imm' f1).rep _))⟩⟩
/-- a slice's part -/
abbrev TXO := Env → (Option Int → Env → Prop) → Prop
def liftO (K : PySem.W.Frag) (M : List Nat) (t : TXO) : TO := fun σ H Q => ∃ S Qt, S.H = H ∧ SR K σ S ∧ t S.env Qt ∧ ∀ S' b, Qt b S'.env → SR K σ S' → Stp M S S' → Q b S'.H
structure XO (X : Cx) (e : Option Expr) (M : List Nat) (t : TXO) : Prop where
  po : PO X e (liftO X.K M t)
def pNone : TXO := fun env Q => Q none env
def pSome (t : TX) : TXO := fun env Q => t env fun d env1 => ∃ i, d = .int i ∧ Q (some i) env1
theorem po_imp {X : Cx} {e : Option Expr} {t t' : TO} (h : PO X e t) (i : ∀ σ H Q, t' σ H Q → t σ H Q) : PO X e t' := ⟨fun pins s σ H Q I q => h.run pins s σ H Q I (i σ H Q q)⟩
theorem xo_none : XO X none [] pNone := ⟨po_imp po_none fun σ H Q ⟨S, Qt, eH, s, q, k⟩ => by
  subst eH
  exact k S none q s (.refl _ _)⟩
theorem xo_some (h : XX X e M R t) : XO X (some e) M (pSome t) := ⟨po_imp (po_some h.pe) fun σ H Q ⟨S, Qt, eH, s, q, k⟩ => by
  subst eH
  refine ⟨S, _, rfl, s, q, fun S' v d Fv ⟨i, e, q1⟩ s1 st v1 => ?_⟩
  subst e
  exact ⟨i, v1.rep.int_inv, k S' (some i) q1 s1 st⟩⟩
def cutL {α : Type} (xs : List α) (lo hi : Option Int) : List α := (xs.drop (HT.sIx xs.length 0 lo)).take (HT.sIx xs.length xs.length hi - HT.sIx xs.length 0 lo)
theorem RepL.cut {K : PySem.W.Frag} {Z H : Hp} {vs : List V} {ds : List D} {F : AS} (h : RepL K Z H vs ds F) (lo hi : Option Int) : RepL K Z H (cutV vs lo hi) (cutL ds lo hi) F := by
  unfold cutV cutL
  rw [h.length]
  exact (h.drop _).take _
def lstItems : D → Option (List D)
  | .lst _ xs => some xs
  | .kst xs => some xs
  | _ => none
/-- a list's slice -/
def oSl (t : TX) (tl th : TXO) : TX := fun env Q => t env fun d env1 => tl env1 fun lo env2 => th env2 fun hi env3 => ∃ xs, lstItems d = some xs ∧ frzL (cutL xs lo hi) = cutL xs lo hi ∧ Q (.lst true (cutL xs lo hi)) env3
theorem x_slice {lo hi : Option Expr} {Ml Mh : List Nat} {tl th : TXO} {p2 : Pos} (ha : XX X a Ma Ra ta) (hl : XO X lo Ml tl) (hh : XO X hi Mh th) (d1 : Dj Ra Ml = true := by rfl) (d2 : Dj Ra Mh = true := by rfl) :
    XX X (.Subscript a (.Slice lo hi none p2) pos) (Ma ++ Ml ++ Mh) [] (oSl ta tl th) := ⟨pe_imp (pe_slice sl_list ha.pe hl.po hh.po) fun σ H Q ⟨S, Qt, eH, s, q, k⟩ => by
  subst eH
  refine ⟨S, _, rfl, s, q, fun S1 x d Fx q1 s1 st1 v1 => ⟨S1, _, rfl, s1, q1, fun S2 l q2 s2 st2 => ⟨S2, _, rfl, s2, q2, fun S3 h ⟨xs, e, f, q3⟩ s3 st3 => ?_⟩⟩⟩
  have v3 := ((v1.later s1 st1 st2 d1).later s2 (st1.trans st2) st3 d2).rep
  have st := (st1.trans st2).trans st3
  have fin : ∀ a vs, x = .ref a → SqL X.K S3.H a vs → RepL X.K S3.Z S3.H vs xs Fx → rSlL X.K x l h S3.H Q := fun a vs ex hs hr => ⟨a, vs, ex, hs, fun p hp => by
    have f := Fr.lst (q := p) s3 hp ((hr.cut l h).imm' f)
    exact k ⟨_, _, S3.env, S3.F⟩ _ _ _ q3 (f.sr s3) (st.then0 f.stp) ((f.vp s3).then0 st)⟩
  cases d with
  | lst o ys =>
    cases e
    obtain ⟨a, vs, ex, h1, h2⟩ := v3.lst_inv s3.zh
    exact fin a vs ex (.inl h1) h2
  | kst ys =>
    cases e
    obtain ⟨a, vs, ex, h1, h2⟩ := v3.kst_inv s3.zh
    exact fin a vs ex h1 h2
  | _ => cases e⟩
end
end TT

/-! T7: statements, what a name holds changed in place -/
namespace TT
open PySem PySem.Spec PyProof.Rows L2
structure TEnds where
  nx : Env → Prop
  rt : D → Env → Prop
  bk : Env → Prop := fun _ => False
  ct : Env → Prop := fun _ => False
abbrev TXS := TEnds → Env → Prop
/-- a step of a statement -/
structure StpS (A : List Nat) (σ σ' : L2.St) (S S' : W) : Prop where
  ext : Ext S.Z S.H (fun a => ∃ i, S.F i a) S'.Z S'.H
  nf : ∀ i a, S'.F i a → (∃ j, S.F j a) ∨ S.H a = none
  sg : ∀ i, i ∉ A → σ'[i]? = σ[i]?
structure VPs (K : PySem.W.Frag) (S S' : W) (v : V) (d : D) (Fv : AS) : Prop where
  rep : Rep K S'.Z S'.H v d Fv
  tv : ∀ a, Fv a → (∃ o, S'.H a = some o) ∧ S'.Z a = none
  ow : ∀ a, Fv a → (∀ i, ¬ S'.F i a) ∧ (S.H a = none ∨ ∃ i, S.F i a)
section
variable {K : PySem.W.Frag} {A B M R : List Nat} {S S1 S2 : W} {σ σ1 σ2 : L2.St} {v : V} {d : D} {Fv : AS}
theorem StpS.refl : StpS A σ σ S S := ⟨.refl _ _ _, fun i a h => .inl ⟨i, h⟩, fun _ _ => rfl⟩
theorem Stp.s (x : Stp M S S1) : StpS A σ σ S S1 := ⟨x.ext.mono fun _ ⟨i, _, h⟩ => ⟨i, h⟩, fun i a h => x.any h, fun _ _ => rfl⟩
theorem StpS.none_of (x : StpS A σ σ1 S S1) {a : Addr} (h : S1.H a = none) : S.H a = none := by
  cases q : S.H a with
  | none => rfl
  | some u =>
    obtain ⟨o', e'⟩ := x.ext.th a u q
    rw [h] at e'; cases e'
theorem StpS.trans (x : StpS A σ σ1 S S1) (y : StpS B σ1 σ2 S1 S2) : StpS (A ++ B) σ σ2 S S2 :=
  ⟨x.ext.trans y.ext (fun _ z => z) fun c ⟨i, h⟩ => x.nf i c h, fun i a h => (y.nf i a h).elim (fun ⟨j, h⟩ => x.nf j a h) fun h => .inr (x.none_of h),
    fun i n => (y.sg i fun z => n (List.mem_append_right _ z)).trans (x.sg i fun z => n (List.mem_append_left _ z))⟩
theorem StpS.mono (x : StpS A σ σ1 S S1) (h : ∀ i, i ∈ A → i ∈ B) : StpS B σ σ1 S S1 := ⟨x.ext, x.nf, fun i n => x.sg i fun z => n (h i z)⟩
theorem VPs.first (h : VPs K S1 S2 v d Fv) (x : StpS A σ σ1 S S1) : VPs K S S2 v d Fv := ⟨h.rep, h.tv, fun a z => ⟨(h.ow a z).1, (h.ow a z).2.elim (fun q => .inl (x.none_of q)) fun ⟨i, q⟩ => (x.nf i a q).elim .inr .inl⟩⟩
theorem VP.s (h : VP K M [] S S1 v d Fv) : VPs K S S1 v d Fv := ⟨h.rep, h.tv, fun a z => by
  rcases h.ow a z with ⟨i, h, _⟩ | ⟨h1, h2⟩
  · cases h
  · exact ⟨h1, h2.imp id fun ⟨i, _, q⟩ => ⟨i, q⟩⟩⟩
end
def liftS (K : PySem.W.Frag) (A : List Nat) (t : TXS) : TS := fun D σ H => ∃ S Dt, S.H = H ∧ SR K σ S ∧ t Dt S.env ∧
  (∀ σ' S', Dt.nx S'.env → SR K σ' S' → StpS A σ σ' S S' → D.nx σ' S'.H) ∧
  (∀ σ' S' v d Fv, Dt.rt d S'.env → SR K σ' S' → StpS A σ σ' S S' → VPs K S S' v d Fv → D.rt v S'.H) ∧
  (∀ σ' S', Dt.bk S'.env → SR K σ' S' → StpS A σ σ' S S' → D.bk σ' S'.H) ∧
  (∀ σ' S', Dt.ct S'.env → SR K σ' S' → StpS A σ σ' S S' → D.ct σ' S'.H)
structure XS (X : Cx) (st : Stmt) (A : List Nat) (t : TXS) : Prop where
  ps : PS X st (liftS X.K A t)
structure XSs (X : Cx) (st : List Stmt) (A : List Nat) (t : TXS) : Prop where
  pss : PSs X st (liftS X.K A t)
section
variable {X : Cx} {st : Stmt} {rest : List Stmt} {e a b : Expr} {t u : TXS} {tx ty : TX} {A B M Ma Mb R Ra Rb : List Nat} {pos : Pos}
def sNext : TXS := fun D env => D.nx env
def sSeq (t u : TXS) : TXS := fun D env => t { D with nx := u D } env
theorem xs_nil : XSs X [] [] sNext := ⟨pss_imp pss_nil fun D σ H ⟨S, Dt, eH, s, q, k, _⟩ => by
  subst eH
  exact k σ S q s .refl⟩
theorem liftS_mono {K : PySem.W.Frag} {D : Ends} {σ : L2.St} {H : Hp} (h : liftS K B t D σ H) (m : ∀ i, i ∈ A → i ∈ B) : liftS K A t D σ H := by
  obtain ⟨S, Dt, eH, s, q, k1, k2, k3, k4⟩ := h
  exact ⟨S, Dt, eH, s, q, fun σ' S' a b c => k1 σ' S' a b (c.mono m), fun σ' S' v d F a b c => k2 σ' S' v d F a b (c.mono m), fun σ' S' a b c => k3 σ' S' a b (c.mono m), fun σ' S' a b c => k4 σ' S' a b (c.mono m)⟩
theorem xs_cons (h1 : XS X st A t) (h2 : XSs X rest B u) : XSs X (st :: rest) (A ++ B) (sSeq t u) := ⟨pss_imp (pss_cons h1.ps h2.pss) fun D σ H ⟨S, Dt, eH, s, q, k1, k2, k3, k4⟩ => by
  subst eH
  have l : ∀ i, i ∈ A → i ∈ A ++ B := fun _ z => List.mem_append_left _ z
  refine ⟨S, { Dt with nx := u Dt }, rfl, s, q, fun σ1 S1 q1 s1 st1 => ?_, fun σ1 S1 v d Fv q1 s1 st1 w => k2 σ1 S1 v d Fv q1 s1 (st1.mono l) w, fun σ1 S1 q1 s1 st1 => k3 σ1 S1 q1 s1 (st1.mono l), fun σ1 S1 q1 s1 st1 => k4 σ1 S1 q1 s1 (st1.mono l)⟩
  exact ⟨S1, Dt, rfl, s1, q1, fun σ2 S2 q2 s2 st2 => k1 σ2 S2 q2 s2 (st1.trans st2), fun σ2 S2 v d Fv q2 s2 st2 w => k2 σ2 S2 v d Fv q2 s2 (st1.trans st2) (w.first st1), fun σ2 S2 q2 s2 st2 => k3 σ2 S2 q2 s2 (st1.trans st2), fun σ2 S2 q2 s2 st2 => k4 σ2 S2 q2 s2 (st1.trans st2)⟩⟩
theorem xs_one (h1 : XS X st A t) : XSs X [st] A t := ⟨pss_one h1.ps⟩
theorem s_pass : XS X (.Pass pos) [] sNext := ⟨ps_imp ps_pass fun D σ H ⟨S, Dt, eH, s, q, k, _⟩ => by
  subst eH
  exact k σ S q s .refl⟩
def sBrk : TXS := fun D env => D.bk env
def sCont : TXS := fun D env => D.ct env
theorem s_break : XS X (.Break pos) [] sBrk := ⟨ps_imp ps_break fun D σ H ⟨S, Dt, eH, s, q, _, _, k, _⟩ => by
  subst eH
  exact k σ S q s .refl⟩
theorem s_continue : XS X (.Continue pos) [] sCont := ⟨ps_imp ps_continue fun D σ H ⟨S, Dt, eH, s, q, _, _, _, k⟩ => by
  subst eH
  exact k σ S q s .refl⟩
def sNever : TXS := fun _ _ => False
theorem s_never : XS X st [] sNever := ⟨ps_imp ps_never fun D σ H ⟨S, Dt, eH, s, q, _⟩ => q⟩
def sExpr (t : TX) : TXS := fun D env => t env fun _ env1 => D.nx env1
theorem s_expr (h : XX X e M R tx) (hsw : swapsWith e none pos.line X.env = pure false := by rfl) : XS X (.Expr e pos) [] (sExpr tx) := ⟨ps_imp (ps_expr h.pe hsw) fun D σ H ⟨S, Dt, eH, s, q, k, _⟩ => by
  subst eH
  exact ⟨S, _, rfl, s, q, fun S1 v d Fv q1 s1 st1 v1 => k σ S1 q1 s1 st1.s⟩⟩
def sRet (t : TX) : TXS := fun D env => t env fun d env1 => D.rt d env1
theorem s_ret (h : XX X e M [] tx) : XS X (.Return (some e) pos) [] (sRet tx) := ⟨ps_imp (ps_ret h.pe) fun D σ H ⟨S, Dt, eH, s, q, _, k, _⟩ => by
  subst eH
  exact ⟨S, _, rfl, s, q, fun S1 v d Fv q1 s1 st1 v1 => k σ S1 v d Fv q1 s1 st1.s v1.s⟩⟩
def sRetN : TXS := fun D env => D.rt .non env
theorem s_retN : XS X (.Return none pos) [] sRetN := ⟨ps_imp ps_retN fun D σ H ⟨S, Dt, eH, s, q, _, k, _⟩ => by
  subst eH
  exact k σ S .non .non nF q s .refl ⟨.non, fun _ z => z.elim, fun _ z => z.elim⟩⟩
def sIf (c : TXT) (t u : TXS) : TXS := fun D env => c env fun b env1 => if b = true then t D env1 else u D env1
theorem s_if {c : Expr} {xs ys : List Stmt} {tc : TXT} (hc : XT X c M tc) (h1 : XSs X xs A t) (h2 : XSs X ys B u) : XS X (.If c xs ys pos) (A ++ B) (sIf tc t u) := ⟨ps_imp (ps_if hc.pt h1.pss h2.pss) fun D σ H ⟨S, Dt, eH, s, q, k1, k2, k3, k4⟩ => by
  subst eH
  refine ⟨S, _, rfl, s, q, fun S1 c q1 s1 st1 => ?_⟩
  have x : StpS [] σ σ S S1 := st1.s
  have fin : ∀ w : TXS, w Dt S1.env → liftS X.K (A ++ B) w D σ S1.H := fun w q1 => ⟨S1, Dt, rfl, s1, q1, fun σ2 S2 q2 s2 st2 => k1 σ2 S2 q2 s2 (x.trans st2), fun σ2 S2 v d Fv q2 s2 st2 w => k2 σ2 S2 v d Fv q2 s2 (x.trans st2) (w.first x), fun σ2 S2 q2 s2 st2 => k3 σ2 S2 q2 s2 (x.trans st2), fun σ2 S2 q2 s2 st2 => k4 σ2 S2 q2 s2 (x.trans st2)⟩
  cases c with
  | true => exact liftS_mono (fin t q1) fun _ z => List.mem_append_left _ z
  | false => exact liftS_mono (fin u q1) fun _ z => List.mem_append_right _ z⟩

/-! ### a name told anew -/
def putF (F : Nat → AS) (i : Nat) (G : AS) : Nat → AS := fun j => if j = i then G else F j
theorem putF_same {F : Nat → AS} {i : Nat} {G : AS} : putF F i G i = G := if_pos rfl
theorem putF_ne {F : Nat → AS} {i j : Nat} {G : AS} (h : j ≠ i) : putF F i G j = F j := if_neg h
theorem set_same {α : Type} {l : List α} {i : Nat} {x : α} (h : i < l.length) : (l.set i x)[i]? = some x := by rw [List.getElem?_set_self h]
theorem SR.set {K : PySem.W.Frag} {σ : L2.St} {S : W} {v : V} {d : D} {Fv : AS} (s : SR K σ S) (i : Nat) (r : Rep K S.Z S.H v d Fv) (tv : ∀ a, Fv a → (∃ o, S.H a = some o) ∧ S.Z a = none) (ow : ∀ a, Fv a → ∀ j, ¬ S.F j a) :
    SR K (σ.set i (some v)) ⟨S.Z, S.H, S.env.set i (some d), putF S.F i Fv⟩ := by
  refine s.go (F0 := nF) (.refl _ _ _) s.zh (fun j => ?_) (fun j k a h1 h2 => ?_) (by rw [List.length_set, List.length_set]; exact s.ln)
  · by_cases hj : j = i
    · subst hj
      rw [putF_same]
      refine .inr ⟨fun d' e => ?_, tv⟩
      have hl : j < S.env.length := by
        have := (List.getElem?_eq_some_iff.mp e).1
        simpa using this
      rw [set_same hl] at e
      cases e
      exact ⟨v, set_same (by rw [← s.ln]; exact hl), r⟩
    · exact .inl ⟨by rw [List.getElem?_set_ne (Ne.symm hj)], by rw [List.getElem?_set_ne (Ne.symm hj)], putF_ne hj, fun _ _ z => z⟩
  · by_cases hj : j = i
    · by_cases hk : k = i
      · rw [hj, hk]
      · subst hj
        rw [putF_same] at h1; rw [putF_ne hk] at h2
        exact absurd h2 (ow a h1 k)
    · by_cases hk : k = i
      · subst hk
        rw [putF_same] at h2; rw [putF_ne hj] at h1
        exact absurd h1 (ow a h2 j)
      · rw [putF_ne hj] at h1; rw [putF_ne hk] at h2
        exact s.ap j k a h1 h2
theorem StpS.set {σ : L2.St} {S : W} {v : V} {d : D} {Fv : AS} {i : Nat} {S0 : W} (x : StpS A σ σ S0 S) (ow : ∀ a, Fv a → S0.H a = none ∨ ∃ i, S0.F i a) : StpS (A ++ [i]) σ (σ.set i (some v)) S0 ⟨S.Z, S.H, S.env.set i (some d), putF S.F i Fv⟩ :=
  ⟨x.ext, fun j a h => by
    have h : putF S.F i Fv j a := h
    by_cases hj : j = i
    · subst hj
      rw [putF_same] at h
      exact (ow a h).symm
    · rw [putF_ne hj] at h
      exact x.nf j a h, fun j n => by
    have : j ≠ i := fun e => n (by simp [e])
    rw [List.getElem?_set_ne (Ne.symm this)]⟩
def sSet (i : Nat) (t : TX) : TXS := fun D env => t env fun d env1 => D.nx (env1.set i (some d))
theorem set_lift {i : Nat} (D : Ends) (σ : L2.St) (H : Hp) (h : liftS X.K [i] (sSet i tx) D σ H) : tAsg (lift X.K M [] tx) (gName i) D σ H := by
  obtain ⟨S, Dt, eH, s, q, k, _⟩ := h
  subst eH
  refine ⟨S, _, rfl, s, q, fun S1 v d Fv q1 s1 st1 v1 => ?_⟩
  have w := v1.s
  exact k _ ⟨S1.Z, S1.H, S1.env.set i (some d), putF S1.F i Fv⟩ q1 (s1.set i w.rep w.tv fun a z => (w.ow a z).1) ((st1.s (A := [])).set fun a z => (w.ow a z).2)
theorem s_set {i : Nat} {x : Str} {pos' : Pos} (hN : X.N.Nodup) (hi : X.N[i]? = some x) (hx : Loc X.env.scope x) (he : XX X e M [] tx) (hsw : swapsWith e (some (.Name x pos')) pos.line X.env = pure false := by rfl) (hf : X.fn x = true ∨ X.env.scope.names.lookup x = some .local := by first | exact .inl rfl | exact .inr rfl | assumption) :
    XS X (.Assign [.Name x pos'] e pos) [i] (sSet i tx) := ⟨ps_imp (ps_set hN hi hx he.pe hsw hf) fun D σ H h => set_lift D σ H h⟩
/-- .. by a rule of its own (comprehensions) -/
theorem s_set' {i : Nat} (h : PS X st (tAsg (lift X.K M [] tx) (gName i))) : XS X st [i] (sSet i tx) := ⟨ps_imp h fun D σ H h => set_lift D σ H h⟩
/-- a, b = x, y -/
def sPar (i j : Nat) (t : TXA) : TXS := fun D env => t env fun ds env1 => ∃ d e, ds = [d, e] ∧ D.nx ((env1.set i (some d)).set j (some e))
theorem s_par {i j : Nat} {x y : Str} {px py pt : Pos} {kt k2 pt2} {u : TXA} (hc : X.calm = true) (hN : X.N.Nodup) (hi : X.N[i]? = some x) (hj : X.N[j]? = some y) (hij : i ≠ j)
    (hx : X.env.scope.names.lookup x = some .local) (hy : X.env.scope.names.lookup y = some .local) (ha : XL X [a, b] M u)
    (hw : swappedStores [.Tuple [.Name x px, .Name y py] kt pt] (.Tuple [a, b] k2 pt2) X.env = pure (some [x, y]) := by rfl)
    (hsw : swapsWithSole [.Tuple [.Name x px, .Name y py] kt pt] (.Tuple [a, b] k2 pt2) pos.line X.env = pure false := by rfl) :
    XS X (.Assign [.Tuple [.Name x px, .Name y py] kt pt] (.Tuple [a, b] k2 pt2) pos) [i, j] (sPar i j u) := ⟨ps_imp (ps_par hc hN hi hj hij hx hy ha.pa hw hsw) fun D σ H ⟨S, Dt, eH, s, q, k, _⟩ => by
  subst eH
  refine ⟨S, _, rfl, s, q, fun S1 vs ds Fs ⟨d, e, ed, q1⟩ _ s1 st1 v1 => ?_⟩
  subst ed
  obtain ⟨v, w, rfl, G, E, r1, r2, g1, g2⟩ : ∃ v w, vs = [v, w] ∧ ∃ G E : AS, Rep X.K S1.Z S1.H v d G ∧ Rep X.K S1.Z S1.H w e E ∧ (∀ a, G a → Fs a) ∧ ∀ a, E a → Fs a ∧ ¬ G a := by
    cases v1.rep with
    | cons r t f g =>
      cases t with
      | cons r' t' f' g' =>
        cases t'
        exact ⟨_, _, rfl, _, _, r, r', f, fun a z => g a (f' a z)⟩
  refine ⟨v, w, rfl, ?_⟩
  have s2 := s1.set i r1 (fun a z => v1.tv a (g1 a z)) fun a z => (v1.ow a (g1 a z)).1
  have s3 := s2.set j r2 (fun a z => v1.tv a (g2 a z).1) fun a z k => by
    show ¬ putF S1.F i G k a
    by_cases hk : k = i
    · subst hk; rw [putF_same]; exact (g2 a z).2
    · rw [putF_ne hk]; exact (v1.ow a (g2 a z).1).1 k
  have ow : ∀ a, Fs a → S.H a = none ∨ ∃ i, S.F i a := fun a z => (v1.ow a z).2.imp id fun ⟨i, _, h⟩ => ⟨i, h⟩
  refine k _ ⟨S1.Z, S1.H, (S1.env.set i (some d)).set j (some e), putF (putF S1.F i G) j E⟩ q1 s3 ⟨(st1.s (A := []) (σ := σ)).ext, fun k a h => ?_, fun k n => ?_⟩
  · have h : putF (putF S1.F i G) j E k a := h
    by_cases hk : k = j
    · subst hk; rw [putF_same] at h; exact (ow a (g2 a h).1).symm
    · rw [putF_ne hk] at h
      by_cases hk2 : k = i
      · subst hk2; rw [putF_same] at h; exact (ow a (g1 a h)).symm
      · rw [putF_ne hk2] at h; exact st1.any h
  · have n1 : k ≠ i := fun z => n (by simp [z])
    have n2 : k ≠ j := fun z => n (by simp [z])
    rw [List.getElem?_set_ne (Ne.symm n2), List.getElem?_set_ne (Ne.symm n1)]⟩
/-- name op= e, a fresh value -/
def sAug (i : Nat) (t : TX) (rt : D → D → (D → Prop) → Prop) : TXS := fun D env => ∃ d0, env[i]? = some (some d0) ∧ d0.frz = d0 ∧ t env fun d env1 => rt d0 d fun r => D.nx (env1.set i (some r))
theorem augPIp {op : Operator} {r : L2.R2} (h : OpR X (inplaceOp op) r) : PIp X op r := fun pins s σ H x y v u Q I rx ry q => h pins s σ H x y v u Q I rx ry q
theorem s_aug {i : Nat} {x : Str} {op : Operator} {pos' : Pos} {rt : D → D → (D → Prop) → Prop} (hN : X.N.Nodup) (hi : X.N[i]? = some x) (hx : Loc X.env.scope x) (he : XX X e M R tx) (ho : OpT X (inplaceOp op) rt) (hf : X.fn x = true ∨ X.env.scope.names.lookup x = some .local := by first | exact .inl rfl | exact .inr rfl | assumption) :
    XS X (.AugAssign (.Name x pos') op e pos) [i] (sAug i tx rt) := by
  obtain ⟨r, ho, hh⟩ := ho
  refine ⟨ps_imp (ps_aug hN hi hx he.pe (augPIp ho) hf) fun D σ H ⟨S, Dt, eH, s, ⟨d0, e0, f0, q⟩, k, _⟩ => ?_⟩
  subst eH
  obtain ⟨v0, h0, r0⟩ := s.sl i d0 e0
  refine ⟨v0, h0, S, _, rfl, s, q, fun S1 v d Fv q1 s1 st1 v1 => ?_⟩
  have r0' : Rep X.K S1.Z S1.H v0 d0 nF := (r0.imm (H' := S.H) (G := nF) f0).keep st1.ext.zs fun a o z => z.elim
  refine hh σ S1 v0 d0 nF v d Fv _ _ s1 r0' v1.rep q1 fun Z' H' w d' F' q2 f => ?_
  have vp := f.vp (M := []) (R := []) s1
  have w := (vp.s).first (st1.s (A := []) (σ := σ))
  exact k _ ⟨Z', H', S1.env.set i (some d'), putF S1.F i F'⟩ q2 ((f.sr s1).set i w.rep w.tv fun a z => (w.ow a z).1) (((st1.then0 f.stp).s (A := [])).set fun a z => (w.ow a z).2)
theorem io_add : OpT X (inplaceOp .Add) (rI2' fun i j => .int (i + j)) := opT_I0 iop_add fun i j _ _ => .int _
theorem io_sub : OpT X (inplaceOp .Sub) (rI2' fun i j => .int (i - j)) := opT_I0 iop_sub fun i j _ _ => .int _

/-! ### in place -/
/-- what the name i owns is changed at a -/
theorem SR.mut {K : PySem.W.Frag} {σ : L2.St} {S : W} {i : Nat} {v : V} {a : Addr} {o' : HO} {d' : D} {G : AS} (s : SR K σ S) (hσ : σ[i]? = some (some v)) (ha : S.F i a)
    (rep : Rep K S.Z (upd S.H a o') v d' G) (hG : ∀ b, G b → (S.F i b ∨ ∀ j, ¬ S.F j b) ∧ (∃ o, upd S.H a o' b = some o) ∧ S.Z b = none) (hi : ∀ M', M' = i → True := fun _ _ => trivial) :
    SR K σ ⟨S.Z, upd S.H a o', S.env.set i (some d'), putF S.F i G⟩ ∧ (∀ b, upd S.H a o' b = none → S.H b = none) ∧ Ext S.Z S.H (fun b => b = a) S.Z (upd S.H a o') := by
  have x : Ext S.Z S.H (fun b => b = a) S.Z (upd S.H a o') := ⟨fun _ _ h => h, fun b o h n => by rw [upd_ne n]; exact h, fun b o h => by
    by_cases e : b = a
    · exact ⟨o', by rw [e]; exact upd_same⟩
    · exact ⟨o, by rw [upd_ne e]; exact h⟩, fun b o h n => by rw [n] at h; cases h⟩
  refine ⟨?_, fun b h => ?_, x⟩
  · refine s.go x (fun b o h => ?_) (fun j => ?_) (fun j k b h1 h2 => ?_) (by rw [List.length_set]; exact s.ln)
    · have : b ≠ a := fun e => by rw [e, (s.tr i a ha).2] at h; cases h
      rw [upd_ne this]
      exact s.zh b o h
    · by_cases hj : j = i
      · subst hj
        rw [putF_same]
        refine .inr ⟨fun d e => ?_, fun b h => (hG b h).2⟩
        have hl : j < S.env.length := by
          have := (List.getElem?_eq_some_iff.mp e).1
          simpa using this
        rw [set_same hl] at e
        cases e
        exact ⟨v, hσ, rep⟩
      · exact .inl ⟨by rw [List.getElem?_set_ne (Ne.symm hj)], rfl, putF_ne hj, fun b h z => hj (s.ap j i b h (z ▸ ha))⟩
    · have key : ∀ j, putF S.F i G j b → (S.F j b ∨ (j = i ∧ ∀ k, ¬ S.F k b)) := fun j h => by
        by_cases hj : j = i
        · subst hj
          rw [putF_same] at h
          exact (hG b h).1.imp id fun z => ⟨rfl, z⟩
        · rw [putF_ne hj] at h; exact .inl h
      rcases key j h1 with q1 | ⟨q1, n1⟩ <;> rcases key k h2 with q2 | ⟨q2, n2⟩
      · exact s.ap j k b q1 q2
      · exact absurd q1 (n2 j)
      · exact absurd q2 (n1 k)
      · rw [q1, q2]
  · by_cases e : b = a
    · rw [e, upd_same] at h; cases h
    · rw [upd_ne e] at h; exact h
/-- .. as a step -/
theorem Stp.mut {S0 S : W} {i : Nat} {a : Addr} {o' : HO} {d' : D} {G : AS} (x : Stp M S0 S) (ha : S.F i a) (hx : Ext S.Z S.H (fun b => b = a) S.Z (upd S.H a o'))
    (hG : ∀ b, G b → S.F i b ∨ S0.H b = none ∨ ∃ j, j ∈ M ∧ S0.F j b) : Stp (M ++ [i]) S0 ⟨S.Z, upd S.H a o', S.env.set i (some d'), putF S.F i G⟩ := by
  have key : ∀ b, S.F i b → (∃ j, j ∈ M ++ [i] ∧ S0.F j b) ∨ S0.H b = none := fun b h => by
    by_cases hm : i ∈ M
    · rcases x.nf i b hm h with ⟨j, q1, q2⟩ | q
      · exact .inl ⟨j, List.mem_append_left _ q1, q2⟩
      · exact .inr q
    · rw [(x.frm i hm).2] at h
      exact .inl ⟨i, by simp, h⟩
  refine ⟨x.ext.trans hx (fun c ⟨j, h1, h2⟩ => ⟨j, List.mem_append_left _ h1, h2⟩) fun c e => by subst e; exact key c ha, fun j n => ?_, fun j b hj h => ?_⟩
  · have n1 : j ∉ M := fun z => n (List.mem_append_left _ z)
    have n2 : j ≠ i := fun z => n (by simp [z])
    exact ⟨Eq.trans (List.getElem?_set_ne (Ne.symm n2)) (x.frm j n1).1, Eq.trans (putF_ne n2) (x.frm j n1).2⟩
  · have h : putF S.F i G j b := h
    by_cases e : j = i
    · subst e
      rw [putF_same] at h
      rcases hG b h with q | q | ⟨k, q1, q2⟩
      · exact key b q
      · exact .inr q
      · exact .inl ⟨k, List.mem_append_left _ q1, q2⟩
    · rw [putF_ne e] at h
      by_cases hm : j ∈ M
      · rcases x.nf j b hm h with ⟨k, q1, q2⟩ | q
        · exact .inl ⟨k, List.mem_append_left _ q1, q2⟩
        · exact .inr q
      · rw [(x.frm j hm).2] at h
        exact .inl ⟨j, hj, h⟩
end
end TT

/-! T8: lists and dicts of names changed in place; dict displays -/
namespace TT
open PySem PySem.Spec PyProof.Rows L2
section
variable {K : PySem.W.Frag} {Z H : Hp}
theorem RepL.snoc {vs : List V} {ds : List D} {v : V} {d : D} {F G : AS} (h : RepL K Z H vs ds F) (r : Rep K Z H v d G) (ap : ∀ a, G a → ¬ F a) : RepL K Z H (vs ++ [v]) (ds ++ [d]) (fun a => F a ∨ G a) := by
  induction vs generalizing ds F with
  | nil =>
    cases h
    exact .cons r .nil (fun a z => .inr z) (E := nF) fun a z => z.elim
  | cons w vs ih =>
    cases h with
    | cons r1 t f g =>
      rename_i G1 E1 d1 ds1
      refine .cons r1 (ih t fun a z y => ap a z (g a y).1) (fun a z => .inl (f a z)) fun a z => ?_
      rcases z with z | z
      · exact ⟨.inl (g a z).1, (g a z).2⟩
      · exact ⟨.inr z, fun y => ap a z (f a y)⟩
theorem RepL.set {vs : List V} {ds : List D} {v : V} {d : D} {F G : AS} (h : RepL K Z H vs ds F) (j : Nat) (r : Rep K Z H v d G) (ap : ∀ a, G a → ¬ F a) : RepL K Z H (vs.set j v) (ds.set j d) (fun a => F a ∨ G a) := by
  induction vs generalizing ds F j with
  | nil => cases h; simp only [List.set_nil]; exact .nil
  | cons w vs ih =>
    cases h with
    | cons r1 t f g =>
      cases j with
      | zero => exact .cons r t (fun a z => .inr z) fun a z => ⟨.inl (g a z).1, fun y => ap a y (g a z).1⟩
      | succ j =>
        refine .cons r1 (ih t j fun a z y => ap a z (g a y).1) (fun a z => .inl (f a z)) fun a z => ?_
        rcases z with z | z
        · exact ⟨.inl (g a z).1, (g a z).2⟩
        · exact ⟨.inr z, fun y => ap a z (f a y)⟩
/-- changed at a, that is none of these -/
theorem RepL.upd {vs : List V} {ds : List D} {F : AS} {a : Addr} {o : HO} (h : RepL K Z H vs ds F) (na : ¬ F a) : RepL K Z (upd H a o) vs ds F :=
  h.keep (fun _ _ h => h) fun b u f e z => ⟨by
    have nb : b ≠ a := fun e' => na (e' ▸ f)
    rw [upd_ne nb]; exact e, z⟩
theorem Rep.upd {v : V} {d : D} {F : AS} {a : Addr} {o : HO} (h : Rep K Z H v d F) (na : ¬ F a) : Rep K Z (upd H a o) v d F :=
  h.keep (fun _ _ h => h) fun b u f e z => ⟨by
    have nb : b ≠ a := fun e' => na (e' ▸ f)
    rw [upd_ne nb]; exact e, z⟩
end
section
variable {X : Cx} {e a b : Expr} {es : List Expr} {tx ty tk td : TX} {M Ma Mb R Ra Rb : List Nat} {pos p1 apos : Pos} {x : Str} {i : Nat}
theorem tyV_lst {K : PySem.W.Frag} {S : W} {σ : L2.St} {v : V} {o : Bool} {xs : List D} {F : AS} (s : SR K σ S) (r : Rep K S.Z S.H v (.lst o xs) F) : tyV K "list" v S.H := by
  obtain ⟨a, vs, rfl, h1, _⟩ := r.lst_inv s.zh
  exact .inl ⟨rfl, vs, .inl h1⟩
theorem sl_at {K : PySem.W.Frag} {S : W} {σ : L2.St} {d : D} (s : SR K σ S) (e : S.env[i]? = some (some d)) {v : V} (h : σ[i]? = some (some v)) : Rep K S.Z S.H v d (S.F i) := by
  obtain ⟨v', h', r⟩ := s.sl i d e
  rw [h] at h'
  cases h'
  exact r
/-- x.append(e) -/
def oApp (i : Nat) (t : TX) : TX := fun env Q => (∃ o xs, env[i]? = some (some (.lst o xs))) ∧ t env fun d env1 => ∃ xs, env1[i]? = some (some (.lst true xs)) ∧ xs.length < sizeLine ∧ Q .non (env1.set i (some (.lst true (xs ++ [d]))))
theorem x_append (hx : PE X (.Name x p1) (tVar i)) (ha : XX X e M [] tx)
    (hbase : attributeBase (.Name x p1) "append" X.env (eval (.Name x p1) X.env) = eval (.Name x p1) X.env := by rfl)
    (hfew : ((backTo pos (starEach [e] X.env)).all (fun x => !x.1) && (backToKw pos (keywordEach [] X.env)).all (fun x => x.1.isSome)
      && decide ([e].length + ([] : List Keyword).length + (if ([] : List Keyword).isEmpty then 0 else 1) < 30)) = true := by rfl)
    (hline : (apos.endLine == pos.line) = true := by rfl) (hs : starEach [e] X.env = (false, eval e X.env) :: starEach [] X.env := by rfl) (hplain : (backTo pos (starEach [] X.env)).any (·.1) = false := by rfl) :
    XX X (.Call (.Attribute (.Name x p1) "append" apos) [e] [] pos) (M ++ [i]) [] (oApp i tx) := ⟨pe_imp (pe_bm PySem.F.plainAttrs_list PySem.F.slot_list_append PySem.F.type_list_append mt_append hx (pa_cons ha.pe pa_nil hs) hbase hfew hline hs hplain) fun σ H Q ⟨S, Qt, eH, s, ⟨⟨o, xs0, e0⟩, q⟩, k⟩ => by
  subst eH
  obtain ⟨v0, h0, r0⟩ := s.sl i _ e0
  refine ⟨v0, h0, tyV_lst s r0, S, _, rfl, s, q, fun S1 y d Fy ⟨xs, e1, hl, q1⟩ s1 st1 v1 => ?_⟩
  have r1 := sl_at s1 e1 h0
  obtain ⟨a, vs, G, rfl, fa, ha, za, rl, hG⟩ := r1.own_inv
  have w := v1.s
  have hn : ∀ b, Fy b → ¬ S1.F i b := fun b z => (w.ow b z).1 i
  have nya : ¬ Fy a := fun z => hn a z fa
  have nga : ¬ G a := fun z => (hG a z).2 rfl
  refine ⟨a, vs, y, rfl, rfl, ha, by rw [rl.length]; exact hl, ?_⟩
  have rep : Rep X.K S1.Z (upd S1.H a (.lst (vs ++ [y]))) (.ref a) (.lst true (xs ++ [d])) (fun b => S1.F i b ∨ Fy b) :=
    .lstO (.inl fa) upd_same za ((rl.upd nga).snoc (w.rep.upd nya) fun b z y => hn b z (hG b y).1) fun b z => z.elim (fun z => ⟨.inl (hG b z).1, (hG b z).2⟩) fun z => ⟨.inr z, fun e => nya (e ▸ z)⟩
  have tr : ∀ b, S1.F i b ∨ Fy b → (∃ o, upd S1.H a (.lst (vs ++ [y])) b = some o) ∧ S1.Z b = none := fun b z => by
    have h : (∃ o, S1.H b = some o) ∧ S1.Z b = none := z.elim (s1.tr i b) (w.tv b)
    obtain ⟨⟨o, h⟩, hz⟩ := h
    refine ⟨?_, hz⟩
    by_cases e : b = a
    · exact ⟨_, by rw [e]; exact upd_same⟩
    · exact ⟨o, by rw [upd_ne e]; exact h⟩
  obtain ⟨s2, _, x2⟩ := s1.mut (i := i) h0 fa rep fun b z => ⟨z.imp id fun z => (w.ow b z).1, tr b z⟩
  exact k _ _ _ nF q1 s2 (st1.mut fa x2 fun b z => z.imp id fun z => by
    rcases v1.ow b z with ⟨j, h, _⟩ | ⟨_, h⟩
    · cases h
    · exact h) (.imm .non)⟩
/-- where a name's list (dict, ..) at a is changed to o', its tree to d' -/
theorem mut_step {K : PySem.W.Frag} {σ : L2.St} {S0 S1 : W} {o' : HO} {d' : D} {a : Addr} {Fy : AS} (s1 : SR K σ S1) (st1 : Stp M S0 S1) (h0 : σ[i]? = some (some (.ref a))) (fa : S1.F i a)
    (ow : ∀ b, Fy b → (∀ j, ¬ S1.F j b) ∧ (S0.H b = none ∨ ∃ j, j ∈ M ∧ S0.F j b)) (tv : ∀ b, Fy b → (∃ o, S1.H b = some o) ∧ S1.Z b = none)
    (rep : Rep K S1.Z (upd S1.H a o') (.ref a) d' (fun b => S1.F i b ∨ Fy b)) :
    SR K σ ⟨S1.Z, upd S1.H a o', S1.env.set i (some d'), putF S1.F i (fun b => S1.F i b ∨ Fy b)⟩ ∧ Stp (M ++ [i]) S0 ⟨S1.Z, upd S1.H a o', S1.env.set i (some d'), putF S1.F i (fun b => S1.F i b ∨ Fy b)⟩ := by
  have tr : ∀ b, S1.F i b ∨ Fy b → (∃ o, upd S1.H a o' b = some o) ∧ S1.Z b = none := fun b z => by
    have h : (∃ o, S1.H b = some o) ∧ S1.Z b = none := z.elim (s1.tr i b) (tv b)
    obtain ⟨⟨o, h⟩, hz⟩ := h
    refine ⟨?_, hz⟩
    by_cases e : b = a
    · exact ⟨_, by rw [e]; exact upd_same⟩
    · exact ⟨o, by rw [upd_ne e]; exact h⟩
  obtain ⟨s2, _, x2⟩ := s1.mut (i := i) h0 fa rep fun b z => ⟨z.imp id fun z => (ow b z).1, tr b z⟩
  exact ⟨s2, st1.mut fa x2 fun b z => z.imp id fun z => (ow b z).2⟩
theorem VP.ow' {K : PySem.W.Frag} {S S1 : W} {v : V} {d : D} {Fy : AS} (v1 : VP K M [] S S1 v d Fy) : ∀ b, Fy b → (∀ j, ¬ S1.F j b) ∧ (S.H b = none ∨ ∃ j, j ∈ M ∧ S.F j b) := fun b z => by
  rcases v1.ow b z with ⟨j, h, _⟩ | h
  · cases h
  · exact h
/-- x[k] = e, x a list -/
def sSetL (i : Nat) (te tk : TX) : TXS := fun D env => te env fun d env1 => (∃ d0, env1[i]? = some (some d0)) ∧ tk env1 fun kd env2 => ∃ xs n j, kd = .int n ∧ env2[i]? = some (some (.lst true xs)) ∧ ixN xs.length n = some j ∧ D.nx (env2.set i (some (.lst true (xs.set j d))))
theorem s_setL {ik : Expr} (hx : PE X (.Name x p1) (tVar i)) (hv : XX X e Ma [] tx) (hk : XX X ik Mb Rb tk)
    (ha : ∀ v, assign (.Subscript (.Name x p1) ik apos) X.env v = (do
      let cv1 ← holding [v] (eval (.Name x p1) X.env)
      let kv1 ← holding [v, cv1] (eval ik X.env)
      standAt apos
      holding [v, cv1, kv1] (setItem cv1 kv1 v)
      release [v, cv1, kv1] []) := by intro _; rfl)
    (hs : swapsWithSole [.Subscript (.Name x p1) ik apos] e pos.line X.env = pure false := by rfl) (hw : swappedStores [.Subscript (.Name x p1) ik apos] e X.env = pure none := by rfl)
    (h1 : (assignEach [.Subscript (.Name x p1) ik apos] X.env).map (·.2) = [assign (.Subscript (.Name x p1) ik apos) X.env] := by rfl) : XS X (.Assign [.Subscript (.Name x p1) ik apos] e pos) [] (sSetL i tx tk) := ⟨ps_imp (ps_asg hv.pe (pg_sub hx hk.pe set_list ha) hs hw h1) fun D σ H ⟨S, Dt, eH, s, q, kk, _⟩ => by
  subst eH
  refine ⟨S, _, rfl, s, q, fun S1 y d Fy ⟨⟨d0, e0⟩, q1⟩ s1 st1 v1 => ?_⟩
  obtain ⟨v0, h0, r0⟩ := s1.sl i _ e0
  refine ⟨v0, h0, S1, _, rfl, s1, q1, fun S2 kv1 kd Fk ⟨xs, n, j, ek, e2, hj, q2⟩ s2 st2 v2 => ?_⟩
  subst ek
  have r1 := sl_at s2 e2 h0
  obtain ⟨a, vs, G, rfl, fa, ha, za, rl, hG⟩ := r1.own_inv
  have v1' := v1.later s1 st1 st2 (by unfold Dj; rfl)
  have ow := v1'.ow'
  have nya : ¬ Fy a := fun z => (ow a z).1 i fa
  have nga : ¬ G a := fun z => (hG a z).2 rfl
  refine ⟨a, vs, n, j, rfl, v2.rep.int_inv, ha, by rw [rl.length]; exact hj, ?_⟩
  obtain ⟨s3, st3⟩ := mut_step (o' := .lst (vs.set j y)) (d' := .lst true (xs.set j d)) s2 (st1.trans st2) h0 fa ow v1'.tv
    (.lstO (.inl fa) upd_same za ((rl.upd nga).set j (v1'.rep.upd nya) fun b z y => (ow b z).1 i (hG b y).1) fun b z => z.elim (fun z => ⟨.inl (hG b z).1, (hG b z).2⟩) fun z => ⟨.inr z, fun e => nya (e ▸ z)⟩)
  exact kk σ _ q2 s3 (st3.s.mono fun _ z => z)⟩

/-! ### dicts -/
def putD {κ : Type} [DecidableEq κ] (kvs : List (κ × D)) (k : κ) (d : D) : List (κ × D) :=
  if (kvs.any fun kv => decide (kv.1 = k)) = true then kvs.map (fun kv => if kv.1 = k then (kv.1, d) else kv) else kvs ++ [(k, d)]
theorem any_keys {κ : Type} [DecidableEq κ] (k : κ) : ∀ {m : List (κ × V)} {kvs : List (κ × D)}, m.map (·.1) = kvs.map (·.1) → (m.any fun kv => decide (kv.1 = k)) = kvs.any fun kv => decide (kv.1 = k)
  | [], [], _ => rfl
  | [], _ :: _, h => by cases h
  | _ :: _, [], h => by cases h
  | p :: m, q :: kvs, h => by
    have h1 : p.1 = q.1 := (List.cons.inj h).1
    rw [List.any_cons, List.any_cons, h1, any_keys k (List.cons.inj h).2]
theorem put_keys {κ : Type} [DecidableEq κ] (k : κ) (v : V) (d : D) {m : List (κ × V)} {kvs : List (κ × D)} (h : m.map (·.1) = kvs.map (·.1)) : (putK m k v).map (·.1) = (putD kvs k d).map (·.1) := by
  have e := any_keys k h
  unfold putK putD
  rw [e]
  split
  · rw [List.map_map, List.map_map]
    have h1 : (m.map ((fun p : κ × V => p.1) ∘ fun kv => if kv.1 = k then (kv.1, v) else kv)) = m.map (·.1) := List.map_congr_left fun p _ => by
      show (if p.1 = k then (p.1, v) else p).1 = p.1
      split <;> rfl
    have h2 : (kvs.map ((fun p : κ × D => p.1) ∘ fun kv => if kv.1 = k then (kv.1, d) else kv)) = kvs.map (·.1) := List.map_congr_left fun p _ => by
      show (if p.1 = k then (p.1, d) else p).1 = p.1
      split <;> rfl
    rw [h1, h2, h]
  · rw [List.map_append, List.map_append, h]; rfl
/-- keys are told once -/
theorem repl_rep {κ : Type} [DecidableEq κ] {K : PySem.W.Frag} {Z H : Hp} (k : κ) {v : V} {d : D} {G : AS} : ∀ {m : List (κ × V)} {kvs : List (κ × D)} {F : AS}, m.map (·.1) = kvs.map (·.1) → (kvs.map (·.1)).Nodup → RepL K Z H (m.map (·.2)) (kvs.map (·.2)) F → Rep K Z H v d G → (∀ a, G a → ¬ F a) →
    RepL K Z H ((m.map fun kv => if kv.1 = k then (kv.1, v) else kv).map (·.2)) ((kvs.map fun kv => if kv.1 = k then (kv.1, d) else kv).map (·.2)) (fun a => F a ∨ G a)
  | [], [], _, _, _, _, _, _ => .nil
  | [], _ :: _, _, h, _, _, _, _ => by cases h
  | _ :: _, [], _, h, _, _, _, _ => by cases h
  | (k1, v1) :: m, (k2, d1) :: kvs, F, h, nd, r, rv, ap => by
    have h1 : k1 = k2 := (List.cons.inj h).1
    subst h1
    have hk := (List.cons.inj h).2
    have nd2 := List.nodup_cons.mp nd
    cases r with
    | cons r t f g =>
      rename_i G1 E1
      by_cases e : k1 = k
      · subst e
        have n1 : (m.map fun kv => if kv.1 = k1 then (kv.1, v) else kv) = m := by
          conv => rhs; rw [← List.map_id m]
          refine List.map_congr_left fun p hp => ?_
          have : p.1 ≠ k1 := fun e => nd2.1 (by
            have h := List.mem_map_of_mem (f := fun x : κ × V => x.1) hp
            rw [e, hk] at h; exact h)
          simp [this]
        have n2 : (kvs.map fun kv => if kv.1 = k1 then (kv.1, d) else kv) = kvs := by
          conv => rhs; rw [← List.map_id kvs]
          refine List.map_congr_left fun p hp => ?_
          have : p.1 ≠ k1 := fun e => nd2.1 (by
            have h := List.mem_map_of_mem (f := fun x : κ × D => x.1) hp
            rw [e] at h; exact h)
          simp [this]
        simp only [List.map_cons, if_true]
        rw [n1, n2]
        exact .cons rv t (fun a z => .inr z) fun a z => ⟨.inl (g a z).1, fun y => ap a y (g a z).1⟩
      · simp only [List.map_cons, if_neg e]
        refine .cons r (repl_rep k hk nd2.2 t rv fun a z y => ap a z (g a y).1) (fun a z => .inl (f a z)) fun a z => ?_
        rcases z with z | z
        · exact ⟨.inl (g a z).1, (g a z).2⟩
        · exact ⟨.inr z, fun y => ap a z (f a y)⟩
theorem put_rep {κ : Type} [DecidableEq κ] {K : PySem.W.Frag} {Z H : Hp} (k : κ) {v : V} {d : D} {F G : AS} {m : List (κ × V)} {kvs : List (κ × D)} (h : m.map (·.1) = kvs.map (·.1)) (nd : (kvs.map (·.1)).Nodup) (r : RepL K Z H (m.map (·.2)) (kvs.map (·.2)) F)
    (rv : Rep K Z H v d G) (ap : ∀ a, G a → ¬ F a) : RepL K Z H ((putK m k v).map (·.2)) ((putD kvs k d).map (·.2)) (fun a => F a ∨ G a) := by
  have e := any_keys k h
  unfold putK putD
  rw [e]
  split
  · exact repl_rep k h nd r rv ap
  · rw [List.map_append, List.map_append]
    exact r.snoc rv ap
theorem putD_nodup {κ : Type} [DecidableEq κ] {kvs : List (κ × D)} {k : κ} {d : D} (nd : (kvs.map (·.1)).Nodup) : ((putD kvs k d).map (·.1)).Nodup := by
  unfold putD
  split
  · have h2 : ((kvs.map fun kv => if kv.1 = k then (kv.1, d) else kv).map (·.1)) = kvs.map (·.1) := by
      rw [List.map_map]
      refine List.map_congr_left fun p _ => ?_
      show (if p.1 = k then (p.1, d) else p).1 = p.1
      split <;> rfl
    rw [h2]; exact nd
  · rename_i h
    rw [List.map_append]
    refine List.nodup_append.mpr ⟨nd, by simp, fun a ha b hb => ?_⟩
    have hb : b = k := by simpa using hb
    subst hb
    rintro rfl
    obtain ⟨p, hp, e⟩ := List.mem_map.mp ha
    exact h (List.any_eq_true.mpr ⟨p, hp, by simpa using e⟩)
/-- x[k] = e, x a dict -/
def putX : D → D → D → Option D
  | .dct true kvs, k, d => if (kvs.map (·.1)).Nodup ∧ kvs.length < sizeLine then (keyD k).map fun k => .dct true (putD kvs k d) else none
  | .dtt true kvs, .tup ks, d => if (kvs.map (·.1)).Nodup ∧ kvs.length < sizeLine then (keysD ks).map fun k => .dtt true (putD kvs k d) else none
  | _, _, _ => none
def sPutD (i : Nat) (te tk : TX) : TXS := fun D env => te env fun d env1 => (∃ d0, env1[i]? = some (some d0)) ∧ tk env1 fun kd env2 => ∃ o r, env2[i]? = some (some o) ∧ putX o kd d = some r ∧ D.nx (env2.set i (some r))
theorem Rep.dctO_inv {K : PySem.W.Frag} {Z H : Hp} {v : V} {xs : List (Key × D)} {F : AS} (r : Rep K Z H v (.dct true xs) F) : ∃ a m G, v = .ref a ∧ F a ∧ H a = some (.dK m) ∧ Z a = none ∧ m.map (·.1) = xs.map (·.1) ∧ RepL K Z H (m.map (·.2)) (xs.map (·.2)) G ∧ ∀ b, G b → F b ∧ b ≠ a := by
  cases r with
  | dctO a b c d e f => exact ⟨_, _, _, rfl, a, b, c, d, e, f⟩
theorem Rep.dttO_inv {K : PySem.W.Frag} {Z H : Hp} {v : V} {xs : List (List Key × D)} {F : AS} (r : Rep K Z H v (.dtt true xs) F) : ∃ a m G, v = .ref a ∧ F a ∧ H a = some (.dT m) ∧ Z a = none ∧ m.map (·.1) = xs.map (·.1) ∧ RepL K Z H (m.map (·.2)) (xs.map (·.2)) G ∧ ∀ b, G b → F b ∧ b ≠ a := by
  cases r with
  | dttO a b c d e f => exact ⟨_, _, _, rfl, a, b, c, d, e, f⟩
theorem keys_len {κ : Type} {m : List (κ × V)} {kvs : List (κ × D)} (h : m.map (·.1) = kvs.map (·.1)) : m.length = kvs.length := by
  have := congrArg List.length h
  simpa using this
/-- the dict at the name behind a store -/
theorem put_dict {K : PySem.W.Frag} {σ : L2.St} {S0 S1 : W} {v0 y : V} {vk v : V} {o kd d r : D} {Fk Fy : AS} (s1 : SR K σ S1) (st1 : Stp M S0 S1) (h0 : σ[i]? = some (some v0)) (e : S1.env[i]? = some (some o)) (rk : Rep K S1.Z S1.H vk kd Fk)
    (v1 : VP K M [] S0 S1 v d Fy) (hp : putX o kd d = some r) : ∃ a H' F', v0 = .ref a ∧ DPut S1.H a vk v H' ∧ SR K σ ⟨S1.Z, H', S1.env.set i (some r), F'⟩ ∧ Stp (M ++ [i]) S0 ⟨S1.Z, H', S1.env.set i (some r), F'⟩ := by
  have r1 := sl_at s1 e h0
  have ow := v1.ow'
  cases o with
  | dct ob kvs =>
    cases ob with
    | false => cases hp
    | true =>
      obtain ⟨a, m, G, rfl, fa, ha, za, hm, rl, hG⟩ := r1.dctO_inv
      have nya : ¬ Fy a := fun z => (ow a z).1 i fa
      have nga : ¬ G a := fun z => (hG a z).2 rfl
      simp only [putX] at hp
      split at hp
      · rename_i hnd
        cases ek : keyD kd with
        | none => rw [ek] at hp; cases hp
        | some k =>
          rw [ek] at hp
          cases hp
          obtain ⟨s3, st3⟩ := mut_step (o' := .dK (putK m k v)) (d' := .dct true (putD kvs k d)) s1 st1 h0 fa ow v1.tv
            (.dctO (.inl fa) upd_same za (put_keys k v d hm) (put_rep k hm hnd.1 (rl.upd nga) (v1.rep.upd nya) fun b z y => (ow b z).1 i (hG b y).1) fun b z => z.elim (fun z => ⟨.inl (hG b z).1, (hG b z).2⟩) fun z => ⟨.inr z, fun e => nya (e ▸ z)⟩)
          exact ⟨a, _, _, rfl, .inl ⟨m, k, ha, rk.key ek, by rw [keys_len hm]; exact hnd.2, rfl⟩, s3, st3⟩
      · cases hp
  | dtt ob kvs =>
    cases ob with
    | false => cases kd <;> cases hp
    | true =>
      cases kd with
      | tup ks =>
        obtain ⟨a, m, G, rfl, fa, ha, za, hm, rl, hG⟩ := r1.dttO_inv
        obtain ⟨b, ws, rfl, hb, _, hks⟩ := rk.tup_inv s1.zh
        have nya : ¬ Fy a := fun z => (ow a z).1 i fa
        have nga : ¬ G a := fun z => (hG a z).2 rfl
        simp only [putX] at hp
        split at hp
        · rename_i hnd
          cases ek : keysD ks with
          | none => rw [ek] at hp; cases hp
          | some k =>
            rw [ek] at hp
            cases hp
            rw [hks.keys ek] at hb
            obtain ⟨s3, st3⟩ := mut_step (o' := .dT (putK m k v)) (d' := .dtt true (putD kvs k d)) s1 st1 h0 fa ow v1.tv
              (.dttO (.inl fa) upd_same za (put_keys k v d hm) (put_rep k hm hnd.1 (rl.upd nga) (v1.rep.upd nya) fun b z y => (ow b z).1 i (hG b y).1) fun b z => z.elim (fun z => ⟨.inl (hG b z).1, (hG b z).2⟩) fun z => ⟨.inr z, fun e => nya (e ▸ z)⟩)
            exact ⟨a, _, _, rfl, .inr ⟨m, k, b, ha, rfl, hb, by rw [keys_len hm]; exact hnd.2, rfl⟩, s3, st3⟩
        · cases hp
      | _ => cases hp
  | _ => cases hp
theorem s_dput {ik : Expr} (hu : X.A.units + 1 < cLine) (hx : PE X (.Name x p1) (tVar i)) (hv : XX X e Ma [] tx) (hk : XX X ik Mb Rb tk)
    (hs : swapsWith e (some (.Subscript (.Name x p1) ik apos)) pos.line X.env = pure false := by rfl) : XS X (.Assign [.Subscript (.Name x p1) ik apos] e pos) [] (sPutD i tx tk) := ⟨ps_imp (ps_dput hu hx hk.pe hv.pe hs) fun D σ H ⟨S, Dt, eH, s, q, kk, _⟩ => by
  subst eH
  refine ⟨S, _, rfl, s, q, fun S1 y d Fy ⟨⟨d0, e0⟩, q1⟩ s1 st1 v1 => ?_⟩
  obtain ⟨v0, h0, r0⟩ := s1.sl i _ e0
  refine ⟨v0, h0, S1, _, rfl, s1, q1, fun S2 kv1 kd Fk ⟨o, r, e2, hp, q2⟩ s2 st2 v2 => ?_⟩
  obtain ⟨a, H', F', rfl, dp, s3, st3⟩ := put_dict (y := y) s2 (st1.trans st2) h0 e2 v2.rep (v1.later s1 st1 st2 (by unfold Dj; rfl)) hp
  exact ⟨a, H', rfl, dp, kk σ _ q2 s3 (st3.s.mono fun _ z => z)⟩⟩
/-- {} -/
theorem x_dnew : XX X (.Dict [] [] pos) [] [] (cD (.dct true [])) := ⟨pe_imp pe_dnewK fun σ H Q ⟨S, Qt, eH, s, q, k⟩ p hp => by
  subst eH
  obtain ⟨x, zh⟩ := ext_new (o := .dK []) s.zh hp
  have zp : S.Z p = none := by
    cases e : S.Z p with
    | none => rfl
    | some u => have := s.zh p u e; rw [hp] at this; cases this
  exact k ⟨S.Z, upd S.H p (.dK []), S.env, S.F⟩ _ _ (fun a => a = p) q (s.more x zh) (.more x) ⟨.dctO (G := nF) rfl upd_same zp rfl .nil fun _ z => False.elim z, fun a e => by subst e; exact ⟨⟨_, upd_same⟩, zp⟩, fun a e => by subst e; exact .inr ⟨fun i z => s.noF hp z, .inl hp⟩⟩⟩
theorem x_dnewT : XX X (.Dict [] [] pos) [] [] (cD (.dtt true [])) := ⟨pe_imp pe_dnewT fun σ H Q ⟨S, Qt, eH, s, q, k⟩ p hp => by
  subst eH
  obtain ⟨x, zh⟩ := ext_new (o := .dT []) s.zh hp
  have zp : S.Z p = none := by
    cases e : S.Z p with
    | none => rfl
    | some u => have := s.zh p u e; rw [hp] at this; cases this
  exact k ⟨S.Z, upd S.H p (.dT []), S.env, S.F⟩ _ _ (fun a => a = p) q (s.more x zh) (.more x) ⟨.dttO (G := nF) rfl upd_same zp rfl .nil fun _ z => False.elim z, fun a e => by subst e; exact ⟨⟨_, upd_same⟩, zp⟩, fun a e => by subst e; exact .inr ⟨fun i z => s.noF hp z, .inl hp⟩⟩⟩
/-! the pairs of a display -/
abbrev TXP := Env → (List (Key × D) → Env → Prop) → Prop
structure VPP (K : PySem.W.Frag) (M : List Nat) (S S' : W) (ps : List (V × V)) (kvs : List (Key × D)) (Fv : AS) : Prop where
  ks : ps.map (·.1) = kvs.map fun p => kV p.1
  rep : RepL K S'.Z S'.H (ps.map (·.2)) (kvs.map (·.2)) Fv
  tv : ∀ a, Fv a → (∃ o, S'.H a = some o) ∧ S'.Z a = none
  ow : ∀ a, Fv a → (∀ i, ¬ S'.F i a) ∧ (S.H a = none ∨ ∃ i, i ∈ M ∧ S.F i a)
def liftPs (K : PySem.W.Frag) (M : List Nat) (n : Nat) (t : TXP) (σ : L2.St) (H : Hp) (Q : List (V × V) → Hp → Prop) : Prop := ∃ S Qt, S.H = H ∧ SR K σ S ∧ t S.env Qt ∧
  ∀ S' ps kvs Fv, Qt kvs S'.env → kvs.length = n → SR K σ S' → Stp M S S' → VPP K M S S' ps kvs Fv → Q ps S'.H
structure XD (X : Cx) (pos : Pos) (ks : List (Option Expr)) (vs : List Expr) (M : List Nat) (t : TXP) : Prop where
  pp : ∃ trs, PPs X pos ks vs trs ∧ ∀ σ H Q, liftPs X.K M vs.length t σ H Q → tPairs trs σ H Q
def dNil : TXP := fun env Q => Q [] env
def dCons (tk tv : TX) (t : TXP) : TXP := fun env Q => tk env fun kd env1 => tv env1 fun d env2 => t env2 fun kvs env3 => ∃ k, keyD kd = some k ∧ Q ((k, d) :: kvs) env3
theorem xd_nil : XD X pos [] [] [] dNil := ⟨[], pps_nil, fun σ H Q ⟨S, Qt, eH, s, q, k⟩ => by
  subst eH
  exact k S [] [] nF q rfl s (.refl _ _) ⟨rfl, .nil, fun _ z => z.elim, fun _ z => z.elim⟩⟩
theorem key_scal {d : D} {k : Key} (h : keyD d = some k) : d.frz = d := by cases d <;> simp only [keyD, reduceCtorEq] at h <;> rw [D.frz]
theorem xd_cons {kx vx : Expr} {ks : List (Option Expr)} {vs : List Expr} {Mc : List Nat} {t : TXP} (hk : XX X kx Ma Ra tk) (hv : XX X vx Mb [] tx) (h : XD X pos ks vs Mc t) (dj : Dj Ra (Mb ++ Mc) = true := by rfl) : XD X pos (some kx :: ks) (vx :: vs) (Ma ++ (Mb ++ Mc)) (dCons tk tx t) := by
  obtain ⟨trs, hp, hh⟩ := h
  refine ⟨_, pps_cons hk.pe hv.pe hp, fun σ H Q ⟨S, Qt, eH, s, q, k⟩ => ?_⟩
  subst eH
  refine ⟨S, _, rfl, s, q, fun S1 y kd Fk q1 s1 st1 v1 => ⟨S1, _, rfl, s1, q1, fun S2 z d Fd q2 s2 st2 v2 => hh σ S2.H _ ⟨S2, _, rfl, s2, q2, fun S3 ps kvs Fs ⟨kk, ek, q3⟩ hl s3 st3 v3 => ?_⟩⟩⟩
  have st23 := st2.trans st3
  have st := st1.trans st23
  have v1' := v1.later s1 st1 st23 dj
  have v2' := v2.later s2 st2 st3 (by unfold Dj; rfl)
  have ow2 := v2'.first st1
  have ow2' := ow2.ow'
  refine k S3 ((y, z) :: ps) ((kk, d) :: kvs) (fun a => Fd a ∨ Fs a) q3 (by rw [List.length_cons, hl]; rfl) s3 st ⟨?_, ?_, fun a z => z.elim (ow2.tv a) (v3.tv a), fun a z => ?_⟩
  · rw [List.map_cons, List.map_cons, v3.ks]
    show y :: _ = kV kk :: _
    rw [v1'.rep.key ek]
  · refine .cons ow2.rep v3.rep (fun _ z => .inl z) fun a z => ⟨.inr z, fun y => ?_⟩
    rcases (v3.ow a z).2 with h2 | ⟨i, h2, h3⟩
    · obtain ⟨⟨o, e⟩, _⟩ := v2.tv a y
      rw [h2] at e; cases e
    · exact (v2.ow' a y).1 i h3
  · rcases z with z | z
    · exact ow2' a z
    · obtain ⟨h1, h2⟩ := v3.ow a z
      refine ⟨h1, ?_⟩
      have st12 := st1.trans st2
      rcases h2 with h2 | ⟨i, h2, h3⟩
      · exact .inl (st12.none_of h2)
      · by_cases hm : i ∈ Ma ++ Mb
        · rcases st12.nf i a hm h3 with ⟨j, q1, q2⟩ | q
          · refine .inr ⟨j, ?_, q2⟩
            rw [← List.append_assoc]; exact List.mem_append_left _ q1
          · exact .inl q
        · rw [(st12.frm i hm).2] at h3
          refine .inr ⟨i, ?_, h3⟩
          rw [← List.append_assoc]; exact List.mem_append_right _ h2
theorem merge_new : ∀ (more kvs : List (Key × V)), (kvs.map (·.1) ++ more.map (·.1)).Nodup → mergeK kvs more = kvs ++ more
  | [], kvs, _ => by rw [List.append_nil]; rfl
  | (k, v) :: more, kvs, nd => by
    have hn : valV kvs k = none := by
      cases e : valV kvs k with
      | none => rfl
      | some w =>
        exfalso
        unfold valV at e
        obtain ⟨p, hp, _⟩ := Option.map_eq_some_iff.mp e
        have h1 := List.mem_of_find?_eq_some hp
        have h2 : p.1 = k := by simpa using List.find?_some hp
        have nd' := (List.nodup_append.mp nd).2.2 p.1 (List.mem_map_of_mem h1) k (by simp)
        exact nd' h2
    show mergeK (putK kvs k v) more = _
    rw [putK_new v hn, merge_new more (kvs ++ [(k, v)]) (by simpa [List.append_assoc] using nd), List.append_assoc]; rfl
def oDisp (t : TXP) : TX := fun env Q => t env fun kvs env1 => (kvs.map (·.1)).Nodup ∧ Q (.dct true kvs) env1
theorem x_disp {ks : List (Option Expr)} {vs : List Expr} {t : TXP} (h : XD X pos ks vs M t) (hall : ks.all (·.isSome) = true := by rfl) (hl : ks.length = vs.length := by rfl) (h0 : ks ≠ [] := by (intro z; cases z)) (h15 : vs.length ≤ 15 := by decide) :
    XX X (.Dict ks vs pos) M [] (oDisp t) := by
  obtain ⟨trs, hp, hh⟩ := h
  refine ⟨pe_imp (pe_disp hp hall hl h0 (by rw [hl]; exact h15)) fun σ H Q ⟨S, Qt, eH, s, q, k⟩ p hp => ?_⟩
  subst eH
  obtain ⟨x, zh⟩ := ext_new (o := .dK []) s.zh hp
  have zp : S.Z p = none := by
    cases e : S.Z p with
    | none => rfl
    | some u => have := s.zh p u e; rw [hp] at this; cases this
  have s0 : SR X.K σ ⟨S.Z, upd S.H p (.dK []), S.env, S.F⟩ := s.more x zh
  have st0 : Stp [] S ⟨S.Z, upd S.H p (.dK []), S.env, S.F⟩ := .more x
  refine hh σ _ _ ⟨⟨S.Z, upd S.H p (.dK []), S.env, S.F⟩, _, rfl, s0, q, fun S1 ps kvs Fs ⟨nd, q1⟩ hl1 s1 st1 v1 => ?_⟩
  have np : ¬ ∃ i, i ∈ M ∧ S.F i p := fun ⟨i, _, z⟩ => s.noF hp z
  have hp1 : S1.H p = some (.dK []) := st1.ext.fr p _ upd_same np
  have zp1 : S1.Z p = none := by
    cases e : S1.Z p with
    | none => rfl
    | some u =>
      rcases st1.ext.nz p u e zp with e' | e'
      · exact nomatch (upd_same.symm.trans e' : (some (HO.dK []) : Option HO) = none)
      · exact absurd e' np
  have nfp : ∀ i, ¬ S1.F i p := fun i z => by
    rcases st1.any z with ⟨j, q⟩ | q
    · exact s.noF hp q
    · exact nomatch (upd_same.symm.trans q : (some (HO.dK []) : Option HO) = none)
  have nsp : ¬ Fs p := fun z => by
    rcases (v1.ow p z).2 with q | q
    · exact nomatch (upd_same.symm.trans q : (some (HO.dK []) : Option HO) = none)
    · exact np q
  -- the pairs as a dict's
  have hps : ps = (List.zip (kvs.map (·.1)) (ps.map (·.2))).map fun kv => (kV kv.1, kv.2) := by
    have h1 := v1.ks
    have h2 : ∀ (ps : List (V × V)) (ks : List Key), ps.map (·.1) = ks.map kV → ps = (List.zip ks (ps.map (·.2))).map fun kv => (kV kv.1, kv.2) := by
      intro ps
      induction ps with
      | nil => intro ks _; simp
      | cons a r ih =>
        intro ks h
        cases ks with
        | nil => cases h
        | cons k ks =>
          obtain ⟨a1, a2⟩ := a
          have h1 : a1 = kV k := (List.cons.inj h).1
          subst h1
          exact congrArg ((kV k, a2) :: ·) (ih ks (List.cons.inj h).2)
    exact h2 ps (kvs.map (·.1)) (by rw [h1, List.map_map]; rfl)
  have hlen : (kvs.map (·.1)).length = (ps.map (·.2)).length := by
    have := congrArg List.length v1.ks
    simp only [List.length_map] at this ⊢
    exact this.symm
  refine ⟨hp1, List.zip (kvs.map (·.1)) (ps.map (·.2)), hps, ?_, ?_⟩
  · rw [List.length_zip, ← hlen, Nat.min_self, List.length_map, hl1]; exact h15
  · have ek : (List.zip (kvs.map (·.1)) (ps.map (·.2))).map (·.1) = kvs.map (·.1) := List.map_fst_zip (Nat.le_of_eq hlen)
    have ev : (List.zip (kvs.map (·.1)) (ps.map (·.2))).map (·.2) = ps.map (·.2) := List.map_snd_zip (Nat.le_of_eq hlen.symm)
    rw [merge_new _ [] (by rw [List.map_nil, List.nil_append, ek]; exact nd), List.nil_append]
    have x2 : Ext S1.Z S1.H (fun b => b = p) S1.Z (upd S1.H p (.dK (List.zip (kvs.map (·.1)) (ps.map (·.2))))) := ⟨fun _ _ h => h, fun b o h n => by rw [upd_ne n]; exact h, fun b o h => by
      by_cases e : b = p
      · exact ⟨_, by rw [e]; exact upd_same⟩
      · exact ⟨o, by rw [upd_ne e]; exact h⟩, fun b o h n => by rw [n] at h; cases h⟩
    have xs0 : Ext S.Z S.H (fun a => ∃ i, i ∈ M ∧ S.F i a) S1.Z (upd S1.H p (.dK (List.zip (kvs.map (·.1)) (ps.map (·.2))))) := by
      refine (x.trans st1.ext (F2 := fun a => ∃ i, i ∈ M ∧ S.F i a) (fun _ z => z.elim) fun c z => .inl z).trans x2 (fun _ z => z) fun c e => .inr (by rw [e]; exact hp)
    refine k ⟨S1.Z, upd S1.H p (.dK (List.zip (kvs.map (·.1)) (ps.map (·.2)))), S1.env, S1.F⟩ _ _ (fun a => a = p ∨ Fs a) q1 ?_ ⟨xs0, st1.frm, fun i a m h => ?_⟩ ⟨?_, fun a z => ?_, fun a z => ?_⟩
    · refine s1.go x2 (fun a o h => ?_) (fun i => .inl ⟨rfl, rfl, rfl, fun a h e => nfp i (e ▸ h)⟩) s1.ap s1.ln
      have : a ≠ p := fun e => by rw [e, zp1] at h; cases h
      rw [upd_ne this]; exact s1.zh a o h
    · rcases st1.nf i a m h with q | q
      · exact .inl q
      · refine .inr ?_
        by_cases e : a = p
        · rw [e]; exact hp
        · have : (upd S.H p (.dK [])) a = none := q
          rw [upd_ne e] at this; exact this
    · refine .dctO (.inl rfl) upd_same zp1 (by rw [ek]) ?_ (fun b z => ⟨.inr z, fun e => nsp (e ▸ z)⟩) (G := Fs)
      rw [ev]
      exact v1.rep.upd nsp
    · rcases z with z | z
      · subst z; exact ⟨⟨_, upd_same⟩, zp1⟩
      · obtain ⟨⟨o, e⟩, z0⟩ := v1.tv a z
        have : a ≠ p := fun e => nsp (e ▸ z)
        exact ⟨⟨o, Eq.trans (upd_ne this) e⟩, z0⟩
    · rcases z with z | z
      · subst z; exact .inr ⟨nfp, .inl hp⟩
      · obtain ⟨h1, h2⟩ := v1.ow a z
        refine .inr ⟨h1, h2.imp (fun q => ?_) id⟩
        by_cases e : a = p
        · rw [e]; exact hp
        · have : (upd S.H p (.dK [])) a = none := q
          rw [upd_ne e] at this; exact this
end
end TT

/-! T9: what is walked; comprehensions; for, while -/
namespace TT
open PySem PySem.Spec PyProof.Rows L2
/-- what a walk yields: these things, that own nothing, whatever happens meanwhile -/
structure ItOk (K : PySem.W.Frag) (S : W) (J : It) (items : List D) : Prop where
  go : ∀ (i : Nat) (Z H : Hp), (∀ a o, S.Z a = some o → Z a = some o) → (∀ a o, Z a = some o → H a = some o) → i < items.length → J.go i H
  stop : ∀ (i : Nat) (Z H : Hp), (∀ a o, S.Z a = some o → Z a = some o) → (∀ a o, Z a = some o → H a = some o) → items.length ≤ i → J.stop i H
  yld : ∀ (i : Nat) (Z H : Hp) (x : V) (H' : Hp), (∀ a o, S.Z a = some o → Z a = some o) → (∀ a o, Z a = some o → H a = some o) → J.yld i H x H' → ∀ d, items[i]? = some d → ∃ Z', Ext Z H nF Z' H' ∧ (∀ a o, Z' a = some o → H' a = some o) ∧ Rep K Z' H' x d nF
abbrev TXI := Env → (List D → Env → Prop) → Prop
def liftI (K : PySem.W.Frag) (M : List Nat) (t : TXI) : TI := fun σ H R => ∃ S Qt, S.H = H ∧ SR K σ S ∧ t S.env Qt ∧
  ∀ S' items J, Qt items S'.env → SR K σ S' → Stp M S S' → ItOk K S' J items → R J S'.H
structure XI (X : Cx) (tg iter : Expr) (M : List Nat) (t : TXI) : Prop where
  pi : PI X tg iter (liftI X.K M t)
theorem pi_imp {X : Cx} {tg e : Expr} {t t' : TI} (h : PI X tg e t) (i : ∀ σ H Q, t' σ H Q → t σ H Q) : PI X tg e t' := ⟨fun pins s σ H Q I q => h.run pins s σ H Q I (i σ H Q q)⟩
section
variable {K : PySem.W.Frag} {M R : List Nat} {S S1 : W} {σ : L2.St} {v : V} {d : D} {Fv : AS}
/-- a value of no name's is frozen -/
theorem VP.freeze (v1 : VP K M [] S S1 v d Fv) (s1 : SR K σ S1) (st1 : Stp M S S1) :
    SR K σ ⟨frzZ S1.Z S1.H Fv, S1.H, S1.env, S1.F⟩ ∧ Stp M S ⟨frzZ S1.Z S1.H Fv, S1.H, S1.env, S1.F⟩ ∧ ∀ G, Rep K (frzZ S1.Z S1.H Fv) S1.H v d.frz G := by
  have x := ext_frz v1.tv
  have ow := v1.ow'
  refine ⟨s1.go x (frzZ_zh s1.zh) (fun i => .inl ⟨rfl, rfl, rfl, fun a h z => (ow a z).1 i h⟩) s1.ap s1.ln, ⟨st1.ext.trans x (fun _ z => z) fun c z => (ow c z).2.symm, st1.frm, st1.nf⟩, fun G => v1.rep.frzz v1.tv⟩
theorem RepL.at {K : PySem.W.Frag} {Z H : Hp} {vs : List V} {ds : List D} {F : AS} (h : RepL K Z H vs ds F) {i : Nat} {v : V} (e : vs[i]? = some v) : ∃ d, ds[i]? = some d ∧ Rep K Z H v d F := by
  have hl := h.length
  obtain ⟨h1, _⟩ := List.getElem?_eq_some_iff.mp e
  have : ds[i]? = some ds[i] := List.getElem?_eq_getElem (by omega)
  obtain ⟨w, h2, h3⟩ := h.get this
  rw [e] at h2; cases h2
  exact ⟨_, this, h3⟩
theorem sql_inj {Z : Hp} {a : Addr} {xs : List V} (h : SqL K Z a xs) : True := trivial
end
section
variable {X : Cx} {e tg a b : Expr} {tx : TX} {u : TXA} {M Ma Mb R Ra Rb : List Nat} {pos p : Pos}
/-- a list (none of a name's own: frozen ahead, or just made) -/
def iL (t : TX) : TXI := fun env Q => t env fun d env1 => ∃ xs, lstItems d = some xs ∧ Q (frzL xs) env1
theorem itl_ok {K : PySem.W.Frag} {S : W} {a : Addr} {vs : List V} {xs : List D} (h : SqL K S.Z a vs) (r : RepL K S.Z S.H vs xs nF)
    (inj : ∀ (Z H : Hp), (∀ a o, S.Z a = some o → Z a = some o) → (∀ a o, Z a = some o → H a = some o) → ∀ ws, SqL K H a ws → SqL K H a vs) : ItOk K S (Itl K a) xs where
  go := fun i Z H h1 h2 hi => by
    have hlt : i < vs.length := by rw [r.length]; exact hi
    have hv : vs[i]? = some vs[i] := List.getElem?_eq_getElem hlt
    exact ⟨vs, _, SqL.sub h2 (SqL.sub h1 h), hv⟩
  stop := fun i Z H h1 h2 hi => ⟨vs, SqL.sub h2 (SqL.sub h1 h), by rw [r.length]; exact hi⟩
  yld := fun i Z H x H' h1 h2 ⟨e, y⟩ d hd => by
    subst e
    have hx := y vs (SqL.sub h2 (SqL.sub h1 h))
    obtain ⟨v, hv, rv⟩ := r.get hd
    rw [hx] at hv; cases hv
    exact ⟨Z, .refl _ _ _, h2, rv.keep h1 fun _ _ z => z.elim⟩
theorem xi_list (h : XX X e M [] tx) : XI X tg e M (iL tx) := ⟨pi_imp (pi_list h.pe) fun σ H Q ⟨S, Qt, eH, s, q, k⟩ => by
  subst eH
  refine ⟨S, _, rfl, s, q, fun S1 v d Fv ⟨xs, ex, q1⟩ s1 st1 v1 => ?_⟩
  obtain ⟨s2, st2, rep⟩ := v1.freeze s1 st1
  have r := rep nF
  cases d with
  | lst o ys =>
    cases ex
    rw [D.frz] at r
    cases r with
    | lstF h1 h2 =>
      exact ⟨_, rfl, ⟨_, .inl (Rd.sub s2.zh h1)⟩, k ⟨frzZ S1.Z S1.H Fv, S1.H, S1.env, S1.F⟩ _ _ q1 s2 st2 (itl_ok (.inl h1) h2 fun Z H g1 g2 _ _ => .inl (Rd.sub g2 (Rd.sub g1 h1)))⟩
  | kst ys =>
    cases ex
    rw [D.frz] at r
    cases r with
    | kst h1 h2 =>
      exact ⟨_, rfl, ⟨_, SqL.sub s2.zh h1⟩, k ⟨frzZ S1.Z S1.H Fv, S1.H, S1.env, S1.F⟩ _ _ q1 s2 st2 (itl_ok h1 h2 fun Z H g1 g2 _ _ => SqL.sub g2 (SqL.sub g1 h1))⟩
  | _ => cases ex⟩
/-- a tuple -/
def iT (t : TX) : TXI := fun env Q => t env fun d env1 => ∃ xs, d = .tup xs ∧ Q (frzL xs) env1
theorem xi_tup (h : XX X e M [] tx) : XI X tg e M (iT tx) := ⟨pi_imp (pi_tup h.pe) fun σ H Q ⟨S, Qt, eH, s, q, k⟩ => by
  subst eH
  refine ⟨S, _, rfl, s, q, fun S1 v d Fv ⟨xs, ex, q1⟩ s1 st1 v1 => ?_⟩
  subst ex
  obtain ⟨s2, st2, rep⟩ := v1.freeze s1 st1
  have r := rep nF
  rw [D.frz] at r
  obtain ⟨a, vs, rfl, h1, h0, h2⟩ := r.tup_inv s2.zh
  have up : ∀ (Z H : Hp), (∀ a o, (frzZ S1.Z S1.H Fv) a = some o → Z a = some o) → (∀ a o, Z a = some o → H a = some o) → SqT X.K H a vs := fun Z H g1 g2 => SqT.of (g2 _ _ (g1 _ _ h0))
  refine ⟨a, rfl, ⟨vs, SqT.of h1⟩, k ⟨frzZ S1.Z S1.H Fv, S1.H, S1.env, S1.F⟩ (frzL xs) _ q1 s2 st2 ⟨fun i Z H g1 g2 hi => ?_, fun i Z H g1 g2 hi => ?_, fun i Z H x H' g1 g2 ⟨e, y⟩ d hd => ?_⟩⟩
  · have hlt : i < vs.length := by rw [h2.length]; exact hi
    have hv : vs[i]? = some vs[i] := List.getElem?_eq_getElem hlt
    exact ⟨vs, _, up Z H g1 g2, hv⟩
  · exact ⟨vs, up Z H g1 g2, by rw [h2.length]; exact hi⟩
  · subst e
    have hx := y vs (up Z _ g1 g2)
    obtain ⟨v, hv, rv⟩ := h2.get hd
    rw [hx] at hv; cases hv
    exact ⟨Z, .refl _ _ _, g2, rv.keep g1 fun _ _ z => z.elim⟩⟩
/-- range -/
def rgD (lo : Int) (n : Nat) : List D := (List.range n).map fun i => .int (lo + (i : Nat))
theorem rgD_length (lo : Int) (n : Nat) : (rgD lo n).length = n := by unfold rgD; rw [List.length_map, List.length_range]
theorem itr_ok {K : PySem.W.Frag} {S : W} (lo : Int) (n : Nat) : ItOk K S (Itr lo n) (rgD lo n) where
  go := fun i Z H _ _ hi => by rw [rgD_length] at hi; exact hi
  stop := fun i Z H _ _ hi => by rw [rgD_length] at hi; exact hi
  yld := fun i Z H x H' _ h2 ⟨e, y⟩ d hd => by
    subst e y
    unfold rgD at hd
    rw [List.getElem?_map] at hd
    cases q : (List.range n)[i]? with
    | none => rw [q] at hd; cases hd
    | some j =>
      rw [q] at hd
      cases hd
      obtain ⟨h1, h3⟩ := List.getElem?_eq_some_iff.mp q
      rw [List.getElem_range] at h3
      subst h3
      exact ⟨Z, .refl _ _ _, h2, .int _⟩
def iR1 (u : TXA) : TXI := fun env Q => u env fun ds env1 => ∃ j : Int, ds = [.int j] ∧ -(2 ^ 62) ≤ j ∧ j < 2 ^ 62 ∧ Q (rgD 0 j.toNat) env1
def iR2 (u : TXA) : TXI := fun env Q => u env fun ds env1 => ∃ i j : Int, ds = [.int i, .int j] ∧ (-(2 ^ 62) ≤ i ∧ i < 2 ^ 62 ∧ -(2 ^ 62) ≤ j ∧ j < 2 ^ 62) ∧ Q (rgD i (j - i).toNat) env1
theorem xi_range1 (hg : Gl X "range") (hm : X.mg "range" = none) (ha : XA X [a] M R u) (hs : starEach [a] X.env = [(false, eval a X.env)] := by rfl) : XI X tg (.Call (.Name "range" p) [a] [] pos) M (iR1 u) := ⟨pi_imp (pi_range1 hg hm ha.pa hs) fun σ H Q ⟨S, Qt, eH, s, q, k⟩ => by
  subst eH
  refine ⟨S, _, rfl, s, q, fun S1 vs ds Fv ⟨j, ed, h1, h2, q1⟩ s1 st1 v1 => ?_⟩
  subst ed
  obtain ⟨v, rfl, r⟩ := paired1 v1.rep
  exact ⟨j, by rw [r.int_inv], h1, h2, k S1 _ _ q1 s1 st1 (itr_ok _ _)⟩⟩
theorem xi_range2 (hg : Gl X "range") (hm : X.mg "range" = none) (ha : XA X [a, b] M R u) (hs : starEach [a, b] X.env = [(false, eval a X.env), (false, eval b X.env)] := by rfl) (hs2 : starEach [b] X.env = [(false, eval b X.env)] := by rfl) : XI X tg (.Call (.Name "range" p) [a, b] [] pos) M (iR2 u) := ⟨pi_imp (pi_range2 hg hm ha.pa hs hs2) fun σ H Q ⟨S, Qt, eH, s, q, k⟩ => by
  subst eH
  refine ⟨S, _, rfl, s, q, fun S1 vs ds Fv ⟨i, j, ed, h1, q1⟩ s1 st1 v1 => ?_⟩
  subst ed
  obtain ⟨v, w, rfl, r, r2⟩ := paired2 v1.rep
  exact ⟨i, j, by rw [r.int_inv, r2.int_inv], h1, k S1 _ _ q1 s1 st1 (itr_ok _ _)⟩⟩
end

/-! ### targets -/
abbrev TXG := D → Env → (Env → Prop) → Prop
/-- a target by what it makes of the names (A: the names) -/
def GOk (K : PySem.W.Frag) (g : TG) (A : List Nat) (gi : TXG) : Prop := ∀ (v : V) (d : D) (σ : L2.St) (S : W) (Q : L2.St → Hp → Prop) (Qt : Env → Prop), SR K σ S → Rep K S.Z S.H v d nF → gi d S.env Qt →
  (∀ σ' S', Qt S'.env → SR K σ' S' → S'.Z = S.Z → S'.H = S.H → (∀ i a, S'.F i a → S.F i a) → (∀ i, i ∉ A → σ'[i]? = σ[i]? ∧ S'.env[i]? = S.env[i]? ∧ S'.F i = S.F i) → σ'.length = σ.length → Q σ' S'.H) → g v σ S.H Q
def gNm (i : Nat) : TXG := fun d env Q => Q (env.set i (some d))
theorem gok_name {K : PySem.W.Frag} (i : Nat) : GOk K (gName i) [i] (gNm i) := fun v d σ S Q Qt s r q k => by
  refine k _ ⟨S.Z, S.H, S.env.set i (some d), putF S.F i nF⟩ q (s.set i r (fun _ z => z.elim) fun _ z => z.elim) rfl rfl (fun j a h => ?_) (fun j n => ?_) (by rw [List.length_set])
  · have h : putF S.F i nF j a := h
    by_cases e : j = i
    · subst e; rw [putF_same] at h; exact h.elim
    · rw [putF_ne e] at h; exact h
  · have e : j ≠ i := by simpa using n
    exact ⟨by rw [List.getElem?_set_ne (Ne.symm e)], by show (S.env.set i (some d))[j]? = _; rw [List.getElem?_set_ne (Ne.symm e)], putF_ne e⟩
abbrev TXGs := List D → Env → (Env → Prop) → Prop
def GsOk (K : PySem.W.Frag) (g : TGs) (A : List Nat) (gi : TXGs) : Prop := ∀ (v : List V) (d : List D) (σ : L2.St) (S : W) (Q : L2.St → Hp → Prop) (Qt : Env → Prop), SR K σ S → RepL K S.Z S.H v d nF → gi d S.env Qt →
  (∀ σ' S', Qt S'.env → SR K σ' S' → S'.Z = S.Z → S'.H = S.H → (∀ i a, S'.F i a → S.F i a) → (∀ i, i ∉ A → σ'[i]? = σ[i]? ∧ S'.env[i]? = S.env[i]? ∧ S'.F i = S.F i) → σ'.length = σ.length → Q σ' S'.H) → g v σ S.H Q
def gsNil : TXGs := fun ds env Q => ds = [] ∧ Q env
def gsCons (g : TXG) (r : TXGs) : TXGs := fun ds env Q => ∃ d ds', ds = d :: ds' ∧ g d env fun env1 => r ds' env1 Q
theorem gsok_nil {K : PySem.W.Frag} : GsOk K gNil [] gsNil := fun v d σ S Q Qt s r ⟨e, q⟩ k => by
  subst e
  cases r
  exact ⟨rfl, k σ S q s rfl rfl (fun _ _ h => h) (fun _ _ => ⟨rfl, rfl, rfl⟩) rfl⟩
theorem gsok_cons {K : PySem.W.Frag} {g : TG} {gs : TGs} {A B : List Nat} {gi : TXG} {gsi : TXGs} (h : GOk K g A gi) (h2 : GsOk K gs B gsi) : GsOk K (gCons g gs) (A ++ B) (gsCons gi gsi) := fun v d σ S Q Qt s r ⟨d1, ds, e, q⟩ k => by
  subst e
  cases r with
  | cons r1 r2 f1 f2 =>
    rename_i G1 E1 w1 ws
    refine ⟨_, _, rfl, h _ d1 σ S _ _ s (r1.mono f1) q fun σ1 S1 q1 s1 z1 h1 n1 m1 l1 => ?_⟩
    have r2' : RepL K S1.Z S1.H ws ds nF := by rw [z1, h1]; exact r2.mono fun a z => (f2 a z).1
    refine h2 _ ds σ1 S1 Q _ s1 r2' q1 fun σ2 S2 q2 s2 z2 h2 n2 m2 l2 => ?_
    refine k σ2 S2 q2 s2 (z2.trans z1) (h2.trans h1) (fun i a h => n1 i a (n2 i a h)) (fun i n => ?_) (l2.trans l1)
    have a1 := m1 i fun z => n (List.mem_append_left _ z)
    have a2 := m2 i fun z => n (List.mem_append_right _ z)
    exact ⟨a2.1.trans a1.1, a2.2.1.trans a1.2.1, a2.2.2.trans a1.2.2⟩
def gTp (n : Nat) (g : TXGs) : TXG := fun d env Q => ∃ xs, d = .tup xs ∧ xs.length = n ∧ g xs env Q
theorem gok_tup {K : PySem.W.Frag} {gs : TGs} {A : List Nat} {gi : TXGs} {n : Nat} (h : GsOk K gs A gi) : GOk K (gTup K n gs) A (gTp n gi) := fun v d σ S Q Qt s r ⟨xs, e, hn, q⟩ k => by
  subst e
  obtain ⟨a, vs, rfl, h1, _, h2⟩ := r.tup_inv s.zh
  exact ⟨a, vs, rfl, SqT.of h1, by rw [h2.length]; exact hn, h vs xs σ S Q Qt s h2 q k⟩

/-! ### for -/
def forL (gi : TXG) (tb : TXS) (D0 : TEnds) : List D → Env → Prop
  | [], env => D0.nx env
  | d :: r, env => gi d env fun env1 => tb { nx := forL gi tb D0 r, rt := D0.rt, bk := D0.nx, ct := forL gi tb D0 r } env1
def sFor (ti : TXI) (gi : TXG) (tb : TXS) : TXS := fun D0 env => ti env fun items env1 => forL gi tb D0 items env1
section
variable {X : Cx} {iter tg : Expr} {body : List Stmt} {ti : TXI} {g : TG} {gi : TXG} {tb : TXS} {M A B : List Nat} {pos : Pos}
theorem s_for (hp : PassesOwn (model X.prog X.w) X.A X.env X.xe) (hc : X.calm = true) (hi : XI X tg iter M ti) (hg : PG X tg g) (hgi : GOk X.K g A gi) (hb : XSs X body B tb)
    (hs : ∀ x, foldedSetIterable iter X.env x = pure x := by intro _; rfl) : XS X (.For tg iter body [] pos) (A ++ B) (sFor ti gi tb) := ⟨ps_imp (ps_for hp hc hi.pi hg hb.pss hs) fun D0 σ H ⟨S, Dt, eH, s, q, k1, k2, k3, k4⟩ => by
  subst eH
  refine ⟨S, _, rfl, s, q, fun S1 items J q1 s1 st1 ok => ?_⟩
  refine ⟨fun i m σ' H' => m = items.length - i ∧ i ≤ items.length ∧ ∃ S', S'.H = H' ∧ SR X.K σ' S' ∧ StpS (A ++ B) σ σ' S S' ∧ (∀ a o, S1.Z a = some o → S'.Z a = some o) ∧ forL gi tb Dt (items.drop i) S'.env,
    ⟨items.length, by simp, Nat.zero_le _, S1, rfl, s1, st1.s.mono (A := []) (fun _ z => nomatch z), fun _ _ h => h, q1⟩, ?_⟩
  rintro i m σ' H' ⟨rfl, hi, S', rfl, s', st', zz, q'⟩
  by_cases hlt : i < items.length
  · have hd : items.drop i = items[i] :: items.drop (i + 1) := List.drop_eq_getElem_cons hlt
    rw [hd] at q'
    refine .inr ⟨ok.go i S'.Z S'.H zz s'.zh hlt, fun σ2 H2 => ∃ S2, S2.H = H2 ∧ SR X.K σ2 S2 ∧ StpS (A ++ B) σ σ2 S S2 ∧ (∀ a o, S1.Z a = some o → S2.Z a = some o) ∧ forL gi tb Dt (items.drop (i + 1)) S2.env,
      fun σ2 H2 ⟨S2, e2, s2, st2, z2, q2⟩ => ⟨items.length - (i + 1), by omega, rfl, hlt, S2, e2, s2, st2, z2, q2⟩, fun x H2 y => ?_⟩
    obtain ⟨Z2, x2, zh2, rx⟩ := ok.yld i S'.Z S'.H x H2 zz s'.zh y items[i] (by simp [hlt])
    have s2 : SR X.K σ' ⟨Z2, H2, S'.env, S'.F⟩ := s'.more x2 zh2
    have st2 : StpS (A ++ B) σ σ' S ⟨Z2, H2, S'.env, S'.F⟩ := ⟨st'.ext.trans x2 (fun _ z => z) fun _ z => z.elim, st'.nf, st'.sg⟩
    refine hgi x items[i] σ' ⟨Z2, H2, S'.env, S'.F⟩ _ _ s2 rx q' fun σ3 S3 q3 s3 z3 h3 n3 m3 l3 => ?_
    have st3 : StpS (A ++ B) σ σ3 S S3 := ⟨by rw [z3, h3]; exact st2.ext, fun i a h => st2.nf i a (n3 i a h), fun i n => (m3 i fun z => n (List.mem_append_left _ z)).1.trans (st2.sg i n)⟩
    have zz3 : ∀ a o, S1.Z a = some o → S3.Z a = some o := fun a o h => by rw [z3]; exact x2.zs a o (zz a o h)
    have back : ∀ {σ4 : L2.St} {S4 : W}, StpS B σ3 σ4 S3 S4 → StpS (A ++ B) σ σ4 S S4 := fun {σ4 S4} h => (st3.trans h).mono fun i hi => by
      simp only [List.mem_append] at hi ⊢
      rcases hi with (h | h) | h <;> simp [h]
    have nxt : ∀ σ4 S4, forL gi tb Dt (items.drop (i + 1)) S4.env → SR X.K σ4 S4 → StpS B σ3 σ4 S3 S4 → ∃ S2, S2.H = S4.H ∧ SR X.K σ4 S2 ∧ StpS (A ++ B) σ σ4 S S2 ∧ (∀ a o, S1.Z a = some o → S2.Z a = some o) ∧ forL gi tb Dt (items.drop (i + 1)) S2.env := fun σ4 S4 q4 s4 st4 => ⟨S4, rfl, s4, back st4, fun a o h => st4.ext.zs a o (zz3 a o h), q4⟩
    exact ⟨S3, _, rfl, s3, q3, nxt, fun σ4 S4 v d Fv q4 s4 st4 w => k2 σ4 S4 v d Fv q4 s4 (back st4) (w.first st3), fun σ4 S4 q4 s4 st4 => k1 σ4 S4 q4 s4 (back st4), nxt⟩
  · have e : i = items.length := by omega
    subst e
    rw [List.drop_length] at q'
    exact .inl ⟨ok.stop _ S'.Z S'.H zz s'.zh (Nat.le_refl _), k1 σ' S' q' s' st'⟩⟩
/-! ### while -/
def sWhile (c : TXT) (tb : TXS) : TXS := fun D0 env => ∃ Wv : Nat → Env → Prop, (∃ m, Wv m env) ∧ ∀ m env, Wv m env → c env fun b env1 => if b = true then tb { nx := fun e => ∃ m', m' < m ∧ Wv m' e, rt := D0.rt, bk := D0.nx, ct := fun e => ∃ m', m' < m ∧ Wv m' e } env1 else D0.nx env1
theorem s_while {c : Expr} {tc : TXT} (hp : PassesOwn (model X.prog X.w) X.A X.env X.xe) (hc : XT X c M tc) (hb : XSs X body B tb) : XS X (.While c body [] pos) B (sWhile tc tb) := ⟨ps_imp (ps_while hp hc.pt hb.pss) fun D0 σ H ⟨S, Dt, eH, s, ⟨Wv, ⟨m0, w0⟩, turn⟩, k1, k2, k3, k4⟩ => by
  subst eH
  refine ⟨fun m σ' H' => ∃ S', S'.H = H' ∧ SR X.K σ' S' ∧ StpS B σ σ' S S' ∧ Wv m S'.env, ⟨m0, S, rfl, s, .refl, w0⟩, ?_⟩
  rintro m σ' H' ⟨S', rfl, s', st', w'⟩
  refine ⟨S', _, rfl, s', turn m S'.env w', fun S2 b q2 s2 st2 => ?_⟩
  have x2 : StpS [] σ' σ' S' S2 := st2.s
  have bb : ∀ i, i ∈ B ++ [] → i ∈ B := fun i h => by simpa using h
  have st2' : StpS B σ σ' S S2 := (st'.trans x2).mono bb
  have back : ∀ {σ4 : L2.St} {S4 : W}, StpS B σ' σ4 S2 S4 → StpS B σ σ4 S S4 := fun h => (st2'.trans h).mono fun i hi => by simpa using hi
  cases b with
  | false => exact k1 σ' S2 q2 s2 st2'
  | true =>
    have nxt : ∀ σ4 S4, (∃ m', m' < m ∧ Wv m' S4.env) → SR X.K σ4 S4 → StpS B σ' σ4 S2 S4 → ∃ m', m' < m ∧ ∃ S5, S5.H = S4.H ∧ SR X.K σ4 S5 ∧ StpS B σ σ4 S S5 ∧ Wv m' S5.env := fun σ4 S4 ⟨m', hm, q4⟩ s4 st4 => ⟨m', hm, S4, rfl, s4, back st4, q4⟩
    exact ⟨fun σ4 H4 => ∃ m', m' < m ∧ ∃ S5, S5.H = H4 ∧ SR X.K σ4 S5 ∧ StpS B σ σ4 S S5 ∧ Wv m' S5.env, fun _ _ h => h, S2, _, rfl, s2, q2, nxt, fun σ4 S4 v d Fv q4 s4 st4 w => k2 σ4 S4 v d Fv q4 s4 (back st4) (w.first st2'), fun σ4 S4 q4 s4 st4 => k1 σ4 S4 q4 s4 (back st4), nxt⟩⟩
end
end TT

/-! T10: list comprehensions -/
namespace TT
open PySem PySem.Spec PyProof.Rows L2
def wipeE (env : Env) : List Nat → Env
  | [] => env
  | v :: vs => (wipeE env vs).set v none
theorem wipeE_length (env : Env) : ∀ vs : List Nat, (wipeE env vs).length = env.length
  | [] => rfl
  | v :: vs => by unfold wipeE; rw [List.length_set, wipeE_length env vs]
theorem wipeE_out {env : Env} {i : Nat} : ∀ {vs : List Nat}, i ∉ vs → (wipeE env vs)[i]? = env[i]?
  | [], _ => rfl
  | v :: vs, h => by
    unfold wipeE
    rw [List.getElem?_set_ne (fun e => h (by simp [e])), wipeE_out fun z => h (List.mem_cons_of_mem _ z)]
theorem wipeE_in {env : Env} {i : Nat} {d : D} : ∀ {vs : List Nat}, i ∈ vs → (wipeE env vs)[i]? ≠ some (some d)
  | v :: vs, h => by
    unfold wipeE
    by_cases e : v = i
    · subst e
      rw [List.getElem?_set]
      simp only [if_true]
      split <;> simp
    · rw [List.getElem?_set_ne e]
      exact wipeE_in ((List.mem_cons.mp h).resolve_left (Ne.symm e))
theorem wipe_in {σ : L2.St} {i : Nat} : ∀ {vs : List Nat}, i ∈ vs → (wipe σ vs)[i]? = (if i < σ.length then some none else none)
  | v :: vs, h => by
    unfold wipe
    by_cases e : v = i
    · subst e
      rw [List.getElem?_set, wipe_length]
      simp
    · rw [List.getElem?_set_ne e]
      exact wipe_in ((List.mem_cons.mp h).resolve_left (Ne.symm e))
theorem wipe_congr {σ τ : L2.St} {vs : List Nat} (hl : σ.length = τ.length) (h : ∀ i, i ∉ vs → σ[i]? = τ[i]?) : wipe σ vs = wipe τ vs := by
  refine List.ext_getElem? fun i => ?_
  by_cases hi : i ∈ vs
  · rw [wipe_in hi, wipe_in hi, hl]
  · rw [wipe_out hi, wipe_out hi, h i hi]
def dropV (F : Nat → AS) (vs : List Nat) : Nat → AS := fun i a => i ∉ vs ∧ F i a
theorem dropV_out {F : Nat → AS} {vs : List Nat} {i : Nat} (h : i ∉ vs) : dropV F vs i = F i := by funext a; unfold dropV; simp [h]
section
variable {K : PySem.W.Frag} {M N R : List Nat} {S S1 S2 : W} {σ τ : L2.St} {v : V} {d : D} {Fv : AS} {vs : List Nat}
def W.wipe (S : W) (vs : List Nat) : W := ⟨S.Z, S.H, wipeE S.env vs, dropV S.F vs⟩
theorem SR.wipe (s : SR K σ S) (vs : List Nat) : SR K (L2.wipe σ vs) (S.wipe vs) := by
  refine s.go (F0 := nF) (.refl _ _ _) s.zh (fun i => ?_) (fun i j a h1 h2 => s.ap i j a h1.2 h2.2) (by rw [wipeE_length, wipe_length]; exact s.ln)
  by_cases hi : i ∈ vs
  · exact .inr ⟨fun d e => absurd e (wipeE_in hi), fun a h => absurd hi h.1⟩
  · exact .inl ⟨wipeE_out hi, wipe_out hi, dropV_out hi, fun _ _ z => z⟩
/-- back to the slots as they were -/
theorem SR.unwipe (s : SR K (L2.wipe σ vs) S) (h : ∀ i, i ∈ vs → ∀ d, S.env[i]? ≠ some (some d)) : SR K σ ⟨S.Z, S.H, S.env, dropV S.F vs⟩ := by
  refine s.go (F0 := nF) (.refl _ _ _) s.zh (fun i => ?_) (fun i j a h1 h2 => s.ap i j a h1.2 h2.2) (by rw [s.ln, wipe_length])
  by_cases hi : i ∈ vs
  · exact .inr ⟨fun d e => absurd e (h i hi d), fun a h => absurd hi h.1⟩
  · exact .inl ⟨rfl, (wipe_out hi).symm, dropV_out hi, fun _ _ z => z⟩
theorem Stp.wipe (x : Stp M S S1) : Stp (M ++ vs) S (S1.wipe vs) := by
  refine ⟨x.ext.mono fun c ⟨i, a, b⟩ => ⟨i, List.mem_append_left _ a, b⟩, fun i n => ?_, fun i a hi h => ?_⟩
  · have n1 : i ∉ M := fun z => n (List.mem_append_left _ z)
    have n2 : i ∉ vs := fun z => n (List.mem_append_right _ z)
    exact ⟨Eq.trans (wipeE_out n2) (x.frm i n1).1, Eq.trans (dropV_out n2) (x.frm i n1).2⟩
  · have h : S1.F i a := h.2
    by_cases hm : i ∈ M
    · exact (x.nf i a hm h).imp (fun ⟨j, a, b⟩ => ⟨j, List.mem_append_left _ a, b⟩) id
    · rw [(x.frm i hm).2] at h
      exact .inl ⟨i, hi, h⟩
/-- an object of nobody's here -/
structure Off (S : W) (a : Addr) (o : HO) : Prop where
  h : S.H a = some o
  z : S.Z a = none
  f : ∀ i, ¬ S.F i a
theorem Off.ext {a : Addr} {o : HO} {F0 : AS} (x : Off S a o) (e : Ext S.Z S.H F0 S1.Z S1.H) (n0 : ¬ F0 a) (nf : ∀ i, S1.F i a → (∃ j, S.F j a) ∨ S.H a = none) : Off S1 a o := by
  refine ⟨e.fr a o x.h n0, ?_, fun i z => ?_⟩
  · cases q : S1.Z a with
    | none => rfl
    | some u =>
      rcases e.nz a u q x.z with e' | e'
      · rw [x.h] at e'; cases e'
      · exact absurd e' n0
  · rcases nf i z with ⟨j, q⟩ | q
    · exact x.f j q
    · rw [x.h] at q; cases q
theorem Off.stp {a : Addr} {o : HO} (x : Off S a o) (st : Stp M S S1) : Off S1 a o := x.ext st.ext (fun ⟨i, _, h⟩ => x.f i h) fun i h => st.any h
/-- a made list of nobody's here -/
structure Acc (K : PySem.W.Frag) (S : W) (Dd : Addr) (vs : List V) (ds : List D) (Fa : AS) : Prop where
  hd : Off S Dd (.lst vs)
  rep : RepL K S.Z S.H vs ds Fa
  off : ∀ a, Fa a → (∃ o, Off S a o) ∧ a ≠ Dd
theorem Acc.stp {Dd : Addr} {vs : List V} {ds : List D} {Fa : AS} (x : Acc K S Dd vs ds Fa) (st : Stp M S S1) : Acc K S1 Dd vs ds Fa :=
  ⟨x.hd.stp st, x.rep.ext st.ext fun a z ⟨i, _, h⟩ => by
    obtain ⟨⟨o, q⟩, _⟩ := x.off a z
    exact q.f i h, fun a z => let ⟨⟨o, q⟩, n⟩ := x.off a z; ⟨⟨o, q.stp st⟩, n⟩⟩
end
def compL (gi : TXG) (tt : TXT) (te : TX) (vs : List Nat) : List D → Env → List D → (List D → Env → Prop) → Prop
  | [], env, acc, Q => Q acc env
  | d :: r, env, acc, Q => gi d env fun env1 => tt env1 fun b env2 => if b = true then te env2 fun y env3 => compL gi tt te vs r (wipeE env3 vs) (acc ++ [y]) Q else compL gi tt te vs r (wipeE env2 vs) acc Q
def oComp (ti : TXI) (gi : TXG) (tt : TXT) (te : TX) (vs : List Nat) : TX := fun env Q => ti env fun items env1 => items.length ≤ sizeLine ∧ compL gi tt te vs items (wipeE env1 vs) [] fun acc env2 => Q (.lst true acc) env2
section
variable {X : Cx} {elt tg iter : Expr} {ifs : List Expr} {scope : Scope} {own : List (Str × Nat)} {pos spos py : Pos} {ti : TXI} {g : TG} {gi : TXG} {tt : TXT} {te : TX} {Mi Mt Me A vs : List Nat}
structure XTs (X : Cx) (ifs : List Expr) (M : List Nat) (t : TXT) : Prop where
  pts : PTs X ifs (liftT X.K M t)
theorem pts_imp {X : Cx} {e : List Expr} {t t' : L2.TT} (h : PTs X e t) (i : ∀ σ H Q, t' σ H Q → t σ H Q) : PTs X e t' := ⟨fun pins s σ H Q I q => h.run pins s σ H Q I (i σ H Q q)⟩
def tYesT : TXT := fun env Q => Q true env
theorem xts_nil : XTs X [] [] tYesT := ⟨pts_imp pts_nil fun σ H Q ⟨S, Qt, eH, s, q, k⟩ => by
  subst eH
  exact k S true q s (.refl _ _)⟩
theorem xts_one {c : Expr} {M : List Nat} (h : XT X c M tt) : XTs X [c] M tt := ⟨pts_one h.pt⟩
theorem comp_lift {K : PySem.W.Frag} (hgi : GOk K g A gi) (hA : ∀ i, i ∈ A → i ∈ vs) (σ : L2.St) (H : Hp) (Q : VK) (h : lift K (Mi ++ (vs ++ (Mt ++ Me))) [] (oComp ti gi tt te vs) σ H Q) :
    tLc (liftI K Mi ti) g (liftT K Mt tt) (lift K Me [] te) vs σ H Q := by
  obtain ⟨S, Qt, eH, s, q, k⟩ := h
  subst eH
  refine ⟨S, _, rfl, s, q, fun S1 items J ⟨hlen, q1⟩ s1 st1 ok Dd hD => ?_⟩
  generalize hN : vs ++ (Mt ++ Me) = N at k
  have mvs : ∀ i, i ∈ vs → i ∈ N := fun i h => by rw [← hN]; exact List.mem_append_left _ h
  have mt : ∀ i, i ∈ Mt → i ∈ N := fun i h => by rw [← hN]; exact List.mem_append_right _ (List.mem_append_left _ h)
  have me : ∀ i, i ∈ Me → i ∈ N := fun i h => by rw [← hN]; exact List.mem_append_right _ (List.mem_append_right _ h)
  -- what holds between two turns
  let Pv : Nat → Hp → Prop := fun i H' => ∃ S' accV acc Fa, S'.H = H' ∧ SR K (wipe σ vs) S' ∧ Stp N S1 S' ∧ (∀ a o, S1.Z a = some o → S'.Z a = some o) ∧ Acc K S' Dd accV acc Fa ∧ (∀ a, Fa a → S1.H a = none ∨ ∃ j, j ∈ N ∧ S1.F j a) ∧
    acc.length ≤ i ∧ (∀ i, i ∈ vs → ∀ d, S'.env[i]? ≠ some (some d)) ∧ compL gi tt te vs (items.drop i) S'.env acc fun acc env2 => Qt (.lst true acc) env2
  have zD : S1.Z Dd = none := by
    cases e : S1.Z Dd with
    | none => rfl
    | some u => have := s1.zh Dd u e; rw [hD] at this; cases this
  have p0 : Pv 0 (upd S1.H Dd (.lst [])) := by
    obtain ⟨x, zh⟩ := ext_new (o := .lst []) s1.zh hD
    have sw := s1.wipe vs
    have sN : SR K (wipe σ vs) ⟨S1.Z, upd S1.H Dd (.lst []), wipeE S1.env vs, dropV S1.F vs⟩ := sw.more x zh
    refine ⟨_, [], [], nF, rfl, sN, ?_, fun _ _ h => h, ⟨⟨upd_same, zD, fun i z => s1.noF hD z.2⟩, .nil, fun _ z => z.elim⟩, fun _ z => z.elim, Nat.le_refl _, fun i hi d => wipeE_in hi, q1⟩
    have w : Stp ([] ++ vs) S1 (S1.wipe vs) := (Stp.refl [] S1).wipe
    exact (w.then0 (Stp.more (S := S1.wipe vs) x)).mono fun i hi => mvs i (by simpa using hi)
  refine ⟨fun i m H' => m = items.length - i ∧ i ≤ items.length ∧ Pv i H', ⟨items.length, by simp, Nat.zero_le _, p0⟩, ?_⟩
  rintro i m H' ⟨rfl, hi, S', accV, acc, Fa, rfl, s', st', zz, ac, owA, hal, hw, q'⟩
  by_cases hlt : i < items.length
  · have hd : items.drop i = items[i] :: items.drop (i + 1) := List.drop_eq_getElem_cons hlt
    rw [hd] at q'
    refine .inr ⟨ok.go i S'.Z S'.H zz s'.zh hlt, Pv (i + 1), fun H2 p2 => ⟨items.length - (i + 1), by omega, rfl, hlt, p2⟩, fun x H2 y => ?_⟩
    obtain ⟨Z2, x2, zh2, rx⟩ := ok.yld i S'.Z S'.H x H2 zz s'.zh y items[i] (by simp [hlt])
    have s2 : SR K (wipe σ vs) ⟨Z2, H2, S'.env, S'.F⟩ := s'.more x2 zh2
    have st2 : Stp N S1 ⟨Z2, H2, S'.env, S'.F⟩ := st'.then0 (.more x2)
    have ac2 : Acc K ⟨Z2, H2, S'.env, S'.F⟩ Dd accV acc Fa := ac.stp (M := []) (.more x2)
    refine hgi x items[i] (wipe σ vs) ⟨Z2, H2, S'.env, S'.F⟩ _ _ s2 rx q' fun σ3 S3 q3 s3 z3 h3 n3 m3 l3 => ?_
    have st3' : Stp A ⟨Z2, H2, S'.env, S'.F⟩ S3 := by
      obtain ⟨Z3, H3, env3, F3⟩ := S3
      obtain rfl : Z3 = Z2 := z3
      obtain rfl : H3 = H2 := h3
      exact ⟨.refl _ _ _, fun i n => (m3 i n).2, fun i a hi h => .inl ⟨i, hi, n3 i a h⟩⟩
    have st3 : Stp N S1 S3 := (st2.trans st3').mono fun i hi => (List.mem_append.mp hi).elim id fun h => mvs i (hA i h)
    have zz3 : ∀ a o, S1.Z a = some o → S3.Z a = some o := fun a o h => by rw [z3]; exact x2.zs a o (zz a o h)
    have ac3 : Acc K S3 Dd accV acc Fa := ac2.stp st3'
    have wσ : wipe σ3 vs = wipe σ vs := by
      have h1 : wipe σ3 vs = wipe (wipe σ vs) vs := wipe_congr l3 fun i n => (m3 i fun z => n (hA i z)).1
      have h2 : wipe (wipe σ vs) vs = wipe σ vs := wipe_congr (wipe_length _ _) fun i n => wipe_out n
      exact h1.trans h2
    refine ⟨wσ, S3, _, rfl, s3, q3, fun S4 b q4 s4 st4 => ?_⟩
    have ac4 := ac3.stp st4
    have st4' : Stp N S1 S4 := (st3.trans st4).mono fun i hi => (List.mem_append.mp hi).elim id (mt i)
    have zz4 : ∀ a o, S1.Z a = some o → S4.Z a = some o := fun a o h => st4.ext.zs a o (zz3 a o h)
    cases b with
    | false =>
      have s5 : SR K (wipe σ vs) (S4.wipe vs) := by
        have := s4.wipe vs
        rw [wσ] at this; exact this
      have w : Stp ([] ++ vs) S4 (S4.wipe vs) := (Stp.refl [] S4).wipe
      exact ⟨S4.wipe vs, accV, acc, Fa, rfl, s5, (st4'.trans w).mono fun i hi => (List.mem_append.mp hi).elim id fun h => mvs i (by simpa using h), zz4, ac4.stp w, owA, Nat.le_succ_of_le hal, fun i hi d => wipeE_in hi, q4⟩
    | true =>
      refine ⟨S4, _, rfl, s4, q4, fun S5 yv yd Fy q5 s5 st5 v5 => ?_⟩
      have ac5 := ac4.stp st5
      have st5' : Stp N S1 S5 := (st4'.trans st5).mono fun i hi => (List.mem_append.mp hi).elim id (me i)
      have zz5 : ∀ a o, S1.Z a = some o → S5.Z a = some o := fun a o h => st5.ext.zs a o (zz4 a o h)
      refine ⟨accV, ac5.hd.h, by rw [ac5.rep.length]; exact Nat.lt_of_le_of_lt hal (Nat.lt_of_lt_of_le hlt hlen), ?_⟩
      have ow := v5.ow'
      -- y is apart from what was made so far
      have apY : ∀ a, Fy a → ¬ Fa a ∧ a ≠ Dd := fun a z => by
        have key : ∀ o, Off S4 a o → False := fun o q => by
          rcases (ow a z).2 with h | ⟨j, _, h⟩
          · rw [q.h] at h; cases h
          · exact q.f j h
        refine ⟨fun y => ?_, fun e => ?_⟩
        · obtain ⟨⟨o, q⟩, _⟩ := ac4.off a y
          exact key o q
        · subst e; exact key _ ac4.hd
      have x6 : Ext S5.Z S5.H (fun b => b = Dd) S5.Z (upd S5.H Dd (.lst (accV ++ [yv]))) := ⟨fun _ _ h => h, fun b o h n => by rw [upd_ne n]; exact h, fun b o h => by
        by_cases e : b = Dd
        · exact ⟨_, by rw [e]; exact upd_same⟩
        · exact ⟨o, by rw [upd_ne e]; exact h⟩, fun b o h n => by rw [n] at h; cases h⟩
      have s6 : SR K σ3 ⟨S5.Z, upd S5.H Dd (.lst (accV ++ [yv])), S5.env, S5.F⟩ := by
        refine s5.go x6 (fun a o h => ?_) (fun i => .inl ⟨rfl, rfl, rfl, fun a h e => ac5.hd.f i (e ▸ h)⟩) s5.ap s5.ln
        have : a ≠ Dd := fun e => by rw [e, ac5.hd.z] at h; cases h
        rw [upd_ne this]; exact s5.zh a o h
      have hDs : S1.H Dd = none := hD
      have st6 : Stp N S1 ⟨S5.Z, upd S5.H Dd (.lst (accV ++ [yv])), S5.env, S5.F⟩ := ⟨st5'.ext.trans x6 (fun _ z => z) fun c e => .inr (by rw [e]; exact hDs), st5'.frm, st5'.nf⟩
      have s7 : SR K (wipe σ vs) (W.wipe ⟨S5.Z, upd S5.H Dd (.lst (accV ++ [yv])), S5.env, S5.F⟩ vs) := by
        have := s6.wipe vs
        rw [wσ] at this; exact this
      refine ⟨_, accV ++ [yv], acc ++ [yd], fun a => Fa a ∨ Fy a, rfl, s7, (st6.wipe).mono fun i hi => (List.mem_append.mp hi).elim id (mvs i), zz5, ⟨⟨upd_same, ac5.hd.z, fun i z => ac5.hd.f i z.2⟩, ?_, fun a z => ?_⟩, fun a z => ?_, ?_, fun i hi d => wipeE_in hi, q5⟩
      · exact RepL.snoc (ac5.rep.upd fun z => (ac5.off _ z).2 rfl) (v5.rep.upd fun z => (apY _ z).2 rfl) fun a z => (apY a z).1
      · rcases z with z | z
        · obtain ⟨⟨o, q⟩, n⟩ := ac5.off a z
          exact ⟨⟨o, Eq.trans (upd_ne n) q.h, q.z, fun i y => q.f i y.2⟩, n⟩
        · obtain ⟨⟨o, q⟩, zq⟩ := v5.tv a z
          exact ⟨⟨o, Eq.trans (upd_ne (apY a z).2) q, zq, fun i y => (ow a z).1 i y.2⟩, (apY a z).2⟩
      · rcases z with z | z
        · exact owA a z
        · rcases (ow a z).2 with h | ⟨j, h1, h2⟩
          · exact .inl (st4'.none_of h)
          · by_cases hj : j ∈ N
            · exact (st4'.nf j a hj h2).symm
            · exact absurd (me j h1) hj
      · rw [List.length_append]; exact Nat.succ_le_succ hal
  · have e : i = items.length := by omega
    subst e
    rw [List.drop_length] at q'
    refine .inl ⟨ok.stop _ S'.Z S'.H zz s'.zh (Nat.le_refl _), ?_⟩
    have su := s'.unwipe hw
    have stU : Stp N S1 ⟨S'.Z, S'.H, S'.env, dropV S'.F vs⟩ := ⟨st'.ext, fun i n => ⟨(st'.frm i n).1, Eq.trans (dropV_out fun z => n (mvs i z)) (st'.frm i n).2⟩, fun i a hi h => st'.nf i a hi h.2⟩
    refine k ⟨S'.Z, S'.H, S'.env, dropV S'.F vs⟩ _ _ (fun a => a = Dd ∨ Fa a) q' su (st1.trans stU) ⟨.lstO (.inl rfl) ac.hd.h ac.hd.z ac.rep fun b z => ⟨.inr z, (ac.off b z).2⟩, fun a z => ?_, fun a z => .inr ?_⟩
    · rcases z with z | z
      · subst z; exact ⟨⟨_, ac.hd.h⟩, ac.hd.z⟩
      · obtain ⟨⟨o, q⟩, _⟩ := ac.off a z
        exact ⟨⟨o, q.h⟩, q.z⟩
    · rcases z with z | z
      · subst z; exact ⟨fun i y => ac.hd.f i y.2, .inl (st1.none_of hD)⟩
      · obtain ⟨⟨o, q⟩, _⟩ := ac.off a z
        refine ⟨fun i y => q.f i y.2, ?_⟩
        rcases owA a z with h | ⟨j, h1, h2⟩
        · exact .inl (st1.none_of h)
        · by_cases hm : j ∈ Mi
          · rcases st1.nf j a hm h2 with ⟨j', q1, q2⟩ | q
            · exact .inr ⟨j', List.mem_append_left _ q1, q2⟩
            · exact .inl q
          · rw [(st1.frm j hm).2] at h2
            exact .inr ⟨j, List.mem_append_right _ h1, h2⟩
theorem x_comp (hc : X.calm = true) (hN : X.N.Nodup) (hi : XI X tg iter Mi ti) (ok : BlkOk X.N X.env.scope scope own) (hA : ∀ i, i ∈ A → i ∈ own.map (·.2))
    (hg : ∀ (s : Shared) (H : Hp) (C : Addr) (cl : List (Str × Addr)) (fp : List Addr), PG (X.blk s H scope (compEnvC scope cl C X.env) fp) tg g) (hgi : GOk X.K g A gi) (ht : ∀ (s : Shared) (H : Hp) (C : Addr) (cl : List (Str × Addr)) (fp : List Addr), XTs (X.blk s H scope (compEnvC scope cl C X.env) fp) ifs Mt tt)
    (he : ∀ (s : Shared) (H : Hp) (C : Addr) (cl : List (Str × Addr)) (fp : List Addr), XX (X.blk s H scope (compEnvC scope cl C X.env) fp) elt Me [] te) (hs : ∀ x, foldedSetIterable iter X.env x = pure x := by intro _; rfl) :
    XX X (.ListComp elt [⟨tg, iter, ifs, 0⟩] scope pos) (Mi ++ (own.map (·.2) ++ (Mt ++ Me))) [] (oComp ti gi tt te (own.map (·.2))) :=
  ⟨pe_imp (pe_lc hc hN hi.pi ok hg (fun s H C cl fp => (ht s H C cl fp).pts) (fun s H C cl fp => (he s H C cl fp).pe) hs) fun σ H Q h => comp_lift hgi hA σ H Q h⟩
theorem s_setComp {i : Nat} {y : Str} (hc : X.calm = true) (hN : X.N.Nodup) (hy : X.N[i]? = some y) (hyl : X.env.scope.names.lookup y = some .local) (hsw : swapsWith (.ListComp elt [⟨tg, iter, ifs, 0⟩] scope pos) (some (.Name y py)) spos.line X.env = pure true)
    (hi : XI X tg iter Mi ti) (ok : BlkOk X.N X.env.scope scope own) (hA : ∀ i, i ∈ A → i ∈ own.map (·.2))
    (hg : ∀ (s : Shared) (H : Hp) (C : Addr) (cl : List (Str × Addr)) (fp : List Addr), PG (X.blk s H scope (compEnvC scope cl C X.env) fp) tg g) (hgi : GOk X.K g A gi) (ht : ∀ (s : Shared) (H : Hp) (C : Addr) (cl : List (Str × Addr)) (fp : List Addr), XTs (X.blk s H scope (compEnvC scope cl C X.env) fp) ifs Mt tt)
    (he : ∀ (s : Shared) (H : Hp) (C : Addr) (cl : List (Str × Addr)) (fp : List Addr), XX (X.blk s H scope (compEnvC scope cl C X.env) fp) elt Me [] te) (hs : ∀ x, foldedSetIterable iter X.env x = pure x := by intro _; rfl) :
    XS X (.Assign [.Name y py] (.ListComp elt [⟨tg, iter, ifs, 0⟩] scope pos) spos) [i] (sSet i (oComp ti gi tt te (own.map (·.2)))) :=
  s_set' (M := Mi ++ (own.map (·.2) ++ (Mt ++ Me))) (ps_imp (ps_setLc hc hN hy hyl hsw hi.pi ok hg (fun s H C cl fp => (ht s H C cl fp).pts) (fun s H C cl fp => (he s H C cl fp).pe) hs) fun D0 σ H h => comp_lift hgi hA σ H _ h)
end
end TT

/-! T11: defs and their calls -/
namespace TT
open PySem PySem.Spec PyProof.Rows L2
def fin (io : List Nat) (n : Nat) (env : Env) : Env := (List.range n).map fun i => if io.contains i then (env[i]?).join else none
theorem fin_at {io : List Nat} {n : Nat} {env : Env} {i : Nat} {d : D} (h : (fin io n env)[i]? = some (some d)) : i < n ∧ i ∈ io ∧ env[i]? = some (some d) := by
  unfold fin at h
  rw [List.getElem?_map] at h
  cases q : (List.range n)[i]? with
  | none => rw [q] at h; cases h
  | some j =>
    rw [q] at h
    obtain ⟨h1, h2⟩ := List.getElem?_eq_some_iff.mp q
    rw [List.getElem_range] at h2
    subst h2
    have h : (if io.contains i = true then (env[i]?).join else none) = some d := Option.some.inj h
    split at h
    · rename_i hc
      refine ⟨by simpa using h1, by simpa using hc, ?_⟩
      cases e : env[i]? with
      | none => rw [e] at h; cases h
      | some o => rw [e] at h; exact congrArg some h
    · cases h
/-- what a def promises, on trees -/
def liftSp (K : PySem.W.Frag) (n : Nat) (sp : TX) : Sp := fun vs H Q _ => vs.length = n ∧ ∃ S Qt, S.H = H ∧ SR K (vs.map some) S ∧ sp S.env Qt ∧
  ∀ S' v d Fv, Qt d S'.env → SR K (vs.map some) S' → StpS [] (vs.map some) (vs.map some) S S' → VPs K S S' v d Fv → Q v S'.H
section
variable {P : Program} {w : World} {K : PySem.W.Frag} {mg : Str → Option Value} {base : Heap} {x qual : Str} {params : Arguments} {body : List Stmt} {scope : Scope} {dvs : List V} {kws : List (Str × V)} {f : Addr} {fd : FuncData} {N ps : List Str}
/-- the names a body begins with -/
def begin (N ps : List Str) (env : Env) : Env := env ++ List.replicate (N.length - ps.length) none
theorem fn_ok {k : Nat} {sp : TX} {Asg io : List Nat} {tb : TXS} (F : FunD K x qual params body scope dvs kws f fd) (Sc : FnScope N ps scope)
    (hbody : ∀ (cdv : Value) (A : Around) (outer : List PySem.Env) (s : Shared) (H : Hp) (E : XK), Room k (A.deeper (envOfC qual scope s.heap.objs.size f cdv)) → XSs (cxOf CX0 P w K mg base N qual scope f cdv A outer s H E).nox body Asg tb)
    (hio : Dj io Asg = true)
    (vc : ∀ (env : Env) (Qt : D → Env → Prop), env.length = ps.length → sp env Qt → tb { nx := fun e => Qt .non (fin io ps.length e), rt := fun r e => Qt r (fin io ps.length e) } (begin N ps env)) :
    FnOk P w K mg base CX0 (k + 1) f fd ps (liftSp K ps.length sp) := by
  have hpl : ps.length ≤ N.length := by have := congrArg List.length Sc.pre; rw [List.length_take] at this; omega
  refine F.ok Sc (fun vs H Q E h => h.1) fun cdv A outer s H vs Q E hr ⟨hl, S, Qt, eH, s0, q, k⟩ => ⟨_, (hbody cdv A outer s H E hr).pss.nox, ?_⟩
  subst eH
  have hln : S.env.length = vs.length := by rw [s0.ln, List.length_map]
  have sB : SR K (start N vs) ⟨S.Z, S.H, begin N ps S.env, S.F⟩ := by
    refine ⟨s0.zh, fun i d e => ?_, s0.ap, s0.tr, ?_⟩
    · have e : (begin N ps S.env)[i]? = some (some d) := e
      unfold begin at e
      by_cases hi : i < S.env.length
      · rw [List.getElem?_append_left hi] at e
        obtain ⟨v, h1, h2⟩ := s0.sl i d e
        refine ⟨v, ?_, h2⟩
        unfold L2.start
        rw [List.getElem?_append_left (by rw [List.length_map]; omega)]
        exact h1
      · rw [List.getElem?_append_right (by omega), List.getElem?_replicate] at e
        split at e <;> cases e
    · show (begin N ps S.env).length = (start N vs).length
      unfold begin L2.start
      rw [List.length_append, List.length_append, List.length_replicate, List.length_replicate, List.length_map, hln, hl]
  have done : ∀ (σ' : L2.St) (S' : W) (v : V) (d : D) (Fv : AS), Qt d (fin io ps.length S'.env) → SR K σ' S' → StpS Asg (start N vs) σ' ⟨S.Z, S.H, begin N ps S.env, S.F⟩ S' → VPs K ⟨S.Z, S.H, begin N ps S.env, S.F⟩ S' v d Fv → Q v S'.H := fun σ' S' v d Fv q1 s1 st1 v1 => by
    refine k ⟨S'.Z, S'.H, fin io ps.length S'.env, fun i a => i ∈ io ∧ S'.F i a⟩ v d Fv q1 ⟨s1.zh, fun i d e => ?_, fun i j a h1 h2 => s1.ap i j a h1.2 h2.2, fun i a h => s1.tr i a h.2, ?_⟩ ⟨st1.ext, fun i a h => st1.nf i a h.2, fun _ _ => rfl⟩ ⟨v1.rep, v1.tv, fun a z => ⟨fun i y => (v1.ow a z).1 i y.2, (v1.ow a z).2⟩⟩
    · obtain ⟨h1, h2, h3⟩ := fin_at e
      obtain ⟨v, e1, r⟩ := s1.sl i d h3
      refine ⟨v, ?_, r.mono fun a z => ⟨h2, z⟩⟩
      rw [st1.sg i (dj_out hio h2)] at e1
      unfold L2.start at e1
      rw [List.getElem?_append_left (by rw [List.length_map]; omega)] at e1
      exact e1
    · show (fin io ps.length S'.env).length = (vs.map some).length
      unfold fin
      rw [List.length_map, List.length_range, List.length_map, hl]
  refine ⟨⟨S.Z, S.H, begin N ps S.env, S.F⟩, _, rfl, sB, vc S.env Qt (by rw [hln, hl]) q, fun σ' S' q1 s1 st1 => ?_, fun σ' S' v d Fv q1 s1 st1 v1 => done σ' S' v d Fv q1 s1 st1 v1, fun _ _ z => z.elim, fun _ _ z => z.elim⟩
  exact done σ' S' .non .non nF q1 s1 st1 ⟨.non, fun _ z => z.elim, fun _ z => z.elim⟩
/-- all parameters by their places and keywords, no defaults taken -/
theorem FunD.kb (F : FunD K x qual params body scope [] kws f fd) (n : Nat) (ks : List Str)
    (h : ∀ (kV doc pm : Value) (an : Option Addr) (cdv ct : Value) (us ws : List Value), us.length = n → ws.length = ks.length → bindArgs (PySem.W.fnOf x qual params body scope .none kV doc pm an cdv ct) ⟨us, ks.zip ws⟩ = pure (ps.zip (us ++ ws))) :
    KBn K fd ps n ks (fun us ws => us ++ ws) (fun vs zs => vs ++ zs) := by
  obtain ⟨_, _, _, kw, dc, mod, ann, cd, cty, _, efd, _, _, dfl, _⟩ := F.ex
  subst efd
  cases dfl with
  | inr z => exact absurd rfl z.1
  | inl z =>
    obtain rfl := z.2
    exact ⟨fun _ us ws _ l1 l2 => .of_eq (h kw dc mod ann cd cty us ws l1 l2), fun ra rb => ra.append rb⟩
end

/-! ### calls: an argument is a value, or a name whose thing the callee may change -/
abbrev Arg := D ⊕ Nat
def ArgR (K : PySem.W.Frag) (S : W) (σ : L2.St) (Fv : AS) (v : V) : Arg → Prop
  | .inl d => Rep K S.Z S.H v d Fv
  | .inr i => σ[i]? = some (some v)
abbrev TXC := Env → (List Arg → Env → Prop) → Prop
/-- the slots handed over -/
def ios : List Arg → List Nat
  | [] => []
  | .inl _ :: r => ios r
  | .inr i :: r => i :: ios r
structure VPC (K : PySem.W.Frag) (M R I : List Nat) (σ : L2.St) (S S' : W) (vs : List V) (as : List Arg) (Fv : AS) : Prop where
  io : ios as = I
  rep : Paired (ArgR K S' σ Fv) vs as
  tv : ∀ a, Fv a → (∃ o, S'.H a = some o) ∧ S'.Z a = none
  ow : ∀ a, Fv a → (∃ i, i ∈ R ∧ S'.F i a) ∨ ((∀ i, ¬ S'.F i a) ∧ (S.H a = none ∨ ∃ i, i ∈ M ∧ S.F i a))
def liftC (K : PySem.W.Frag) (M R I : List Nat) (t : TXC) : TA := fun σ H Q => ∃ S Qt, S.H = H ∧ SR K σ S ∧ t S.env Qt ∧
  ∀ S' vs as Fv, Qt as S'.env → SR K σ S' → Stp M S S' → VPC K M R I σ S S' vs as Fv → Q vs S'.H
structure XC (X : Cx) (es : List Expr) (M R I : List Nat) (t : TXC) : Prop where
  pa : PA X es (liftC X.K M R I t)
def cNil : TXC := fun env Q => Q [] env
def cVal (t : TX) (u : TXC) : TXC := fun env Q => t env fun d env1 => u env1 fun as env2 => Q (.inl d :: as) env2
def cIo (i : Nat) (u : TXC) : TXC := fun env Q => (∃ d, env[i]? = some (some d)) ∧ u env fun as env2 => Q (.inr i :: as) env2
section
variable {X : Cx} {e : Expr} {es : List Expr} {M Ma Mb R Ra Rb I : List Nat} {t : TX} {u : TXC} {i : Nat}
theorem xc_nil : XC X [] [] [] [] cNil := ⟨pa_imp pa_nil fun σ H Q ⟨S, Qt, eH, s, q, k⟩ => by
  subst eH
  exact k S [] [] nF q s (.refl _ _) ⟨rfl, .nil, fun _ z => z.elim, fun _ z => z.elim⟩⟩
theorem ArgR.mono {K : PySem.W.Frag} {S : W} {σ : L2.St} {F G : AS} (h : ∀ a, F a → G a) : ∀ {vs : List V} {as : List Arg}, Paired (ArgR K S σ F) vs as → Paired (ArgR K S σ G) vs as
  | _, _, .nil => .nil
  | _, _, .cons (a := v) (b := .inl d) r t => .cons (show Rep K S.Z S.H v d G from Rep.mono r h) (ArgR.mono h t)
  | _, _, .cons (a := v) (b := .inr i) r t => .cons r (ArgR.mono h t)
theorem xc_val (h : XX X e Ma Ra t) (h2 : XC X es Mb Rb I u) (dj : Dj Ra Mb = true := by rfl) (hs : starEach (e :: es) X.env = (false, eval e X.env) :: starEach es X.env := by rfl) : XC X (e :: es) (Ma ++ Mb) (Ra ++ Rb) I (cVal t u) := ⟨pa_imp (pa_cons h.pe h2.pa hs) fun σ H Q ⟨S, Qt, eH, s, q, k⟩ => by
  subst eH
  refine ⟨S, _, rfl, s, q, fun S1 x d Fx q1 s1 st1 v1 => ⟨S1, _, rfl, s1, q1, fun S2 vs as Fs q2 s2 st2 v2 => ?_⟩⟩
  have w1 := v1.later s1 st1 st2 dj
  refine k S2 (x :: vs) (.inl d :: as) (fun a => Fx a ∨ Fs a) q2 s2 (st1.trans st2) ⟨v2.io, .cons (show Rep X.K S2.Z S2.H x d _ from w1.rep.mono fun _ z => .inl z) (ArgR.mono (fun _ z => .inr z) v2.rep), fun a z => z.elim (w1.tv a) (v2.tv a), fun a z => ?_⟩
  rcases z with z | z
  · exact (w1.ow a z).imp (fun ⟨i, a, b⟩ => ⟨i, List.mem_append_left _ a, b⟩) id
  · rcases v2.ow a z with ⟨i, h1, h2⟩ | ⟨h1, h2⟩
    · exact .inl ⟨i, List.mem_append_right _ h1, h2⟩
    · refine .inr ⟨h1, ?_⟩
      rcases h2 with h2 | ⟨i, h2, h3⟩
      · exact .inl (st1.none_of h2)
      · by_cases hm : i ∈ Ma
        · rcases st1.nf i a hm h3 with ⟨j, q1, q2⟩ | q
          · exact .inr ⟨j, List.mem_append_left _ q1, q2⟩
          · exact .inl q
        · rw [(st1.frm i hm).2] at h3
          exact .inr ⟨i, List.mem_append_right _ h2, h3⟩⟩
theorem xc_io (h : PE X e (tVar i)) (h2 : XC X es Mb Rb I u) (hs : starEach (e :: es) X.env = (false, eval e X.env) :: starEach es X.env := by rfl) : XC X (e :: es) Mb Rb (i :: I) (cIo i u) := ⟨pa_imp (pa_cons h h2.pa hs) fun σ H Q ⟨S, Qt, eH, s, ⟨⟨d, e0⟩, q⟩, k⟩ => by
  subst eH
  obtain ⟨v, h0, r0⟩ := s.sl i d e0
  exact ⟨v, h0, S, _, rfl, s, q, fun S2 vs as Fs q2 s2 st2 v2 => k S2 (v :: vs) (.inr i :: as) Fs q2 s2 st2 ⟨congrArg (i :: ·) v2.io, .cons h0 v2.rep, v2.tv, v2.ow⟩⟩⟩
end
/-- what the callee begins with -/
def given (env : Env) : List Arg → Env
  | [] => []
  | .inl d :: r => some d.frz :: given env r
  | .inr i :: r => (env[i]?).join :: given env r
/-- what the caller goes on with: the callee's last trees in the handed slots -/
def taken (env : Env) : List Arg → Env → Env
  | .inr i :: r, o :: env' => taken (env.set i o) r env'
  | .inl _ :: r, _ :: env' => taken env r env'
  | _, _ => env
/-! no frozen list, dict, instance -/
mutual
def D.nf : D → Bool
  | .tup xs => nfL xs
  | .lst o xs => o && nfL xs
  | .kst _ => false
  | .dct o kvs => o && nfK kvs
  | .dtt o kvs => o && nfT kvs
  | .ins o _ fs => o && nfF fs
  | _ => true
def nfL : List D → Bool
  | [] => true
  | d :: r => d.nf && nfL r
def nfK : List (Key × D) → Bool
  | [] => true
  | (_, d) :: r => d.nf && nfK r
def nfT : List (List Key × D) → Bool
  | [] => true
  | (_, d) :: r => d.nf && nfT r
def nfF : List (Str × D) → Bool
  | [] => true
  | (_, d) :: r => d.nf && nfF r
end
theorem nfL_all : ∀ xs : List D, nfL xs = xs.all D.nf
  | [] => by rw [nfL]; rfl
  | d :: r => by rw [nfL, nfL_all r]; rfl
theorem nfK_all : ∀ xs : List (Key × D), nfK xs = nfL (xs.map (·.2))
  | [] => by rw [nfK]; rfl
  | (k, d) :: r => by rw [nfK, nfK_all r, List.map_cons, nfL]
theorem nfT_all : ∀ xs : List (List Key × D), nfT xs = nfL (xs.map (·.2))
  | [] => by rw [nfT]; rfl
  | (k, d) :: r => by rw [nfT, nfT_all r, List.map_cons, nfL]
theorem nfF_all : ∀ xs : List (Str × D), nfF xs = nfL (xs.map (·.2))
  | [] => by rw [nfF]; rfl
  | (k, d) :: r => by rw [nfF, nfF_all r, List.map_cons, nfL]
theorem Rep.thaw {K : PySem.W.Frag} {Z Z' H : Hp} {v : V} {d : D} {F : AS} (r : Rep K Z H v d F) (hn : d.nf = true) (ht : ∀ a vs, Z a = some (.tup vs) → Z' a = some (.tup vs)) (hz : ∀ a, F a → Z a = none → Z' a = none) : Rep K Z' H v d F := by
  refine Rep.rec (K := K) (Z := Z) (H := H) (motive_1 := fun v d F _ => d.nf = true → (∀ a, F a → Z a = none → Z' a = none) → Rep K Z' H v d F) (motive_2 := fun v d F _ => nfL d = true → (∀ a, F a → Z a = none → Z' a = none) → RepL K Z' H v d F)
    ?_ ?_ ?_ ?_ ?_ ?_ ?_ ?_ ?_ ?_ ?_ ?_ ?_ ?_ ?_ ?_ ?_ ?_ r hn hz
  · intro F _ _; exact .non
  · intro F b _ _; exact .bl b
  · intro F b _ _; exact .int b
  · intro F b _ _; exact .str b
  · intro F b _ _; exact .byt b
  · intro F b _ _; exact .ty b
  · intro F a vs xs h1 h2 ih h hz; rw [D.nf] at h; exact .tup (ht _ _ h1) (ih h hz)
  · intro F G a vs xs h1 h2 h3 h4 h5 ih h hz
    rw [D.nf, Bool.true_and] at h
    exact .lstO h1 h2 (hz _ h1 h3) (ih h fun b g => hz b (h5 b g).1) h5
  · intro F a vs xs h1 h2 ih h; rw [D.nf, Bool.false_and] at h; cases h
  · intro F a vs xs h1 h2 ih h; rw [D.nf] at h; cases h
  · intro F G a m kvs h1 h2 h3 h4 h5 h6 ih h hz
    rw [D.nf, Bool.true_and, nfK_all] at h
    exact .dctO h1 h2 (hz _ h1 h3) h4 (ih h fun b g => hz b (h6 b g).1) h6
  · intro F a m kvs h1 h2 h3 ih h; rw [D.nf, Bool.false_and] at h; cases h
  · intro F G a m kvs h1 h2 h3 h4 h5 h6 ih h hz
    rw [D.nf, Bool.true_and, nfT_all] at h
    exact .dttO h1 h2 (hz _ h1 h3) h4 (ih h fun b g => hz b (h6 b g).1) h6
  · intro F a m kvs h1 h2 h3 ih h; rw [D.nf, Bool.false_and] at h; cases h
  · intro F G a C dx m fs h1 h2 h3 h4 h5 h6 ih h hz
    rw [D.nf, Bool.true_and, nfF_all] at h
    exact .insO h1 h2 (hz _ h1 h3) h4 (ih h fun b g => hz b (h6 b g).1) h6
  · intro F a C dx m fs h1 h2 h3 ih h; rw [D.nf, Bool.false_and] at h; cases h
  · intro F _ _; exact .nil
  · intro F G E v vs d ds h1 h2 h3 h4 ih1 ih2 h hz
    rw [nfL, Bool.and_eq_true] at h
    exact .cons (ih1 h.1 fun a g => hz a (h3 a g)) (ih2 h.2 fun a g => hz a (h4 a g).1) h3 h4
end TT

/-! T12: the call of a def -/
namespace TT
open PySem PySem.Spec PyProof.Rows L2
theorem taken_out {j : Nat} : ∀ {env : Env} {as : List Arg} {fe : Env}, j ∉ ios as → (taken env as fe)[j]? = env[j]?
  | env, .inr i :: r, o :: fe, h => by
    rw [taken, taken_out fun z => h (List.mem_cons_of_mem _ z), List.getElem?_set_ne fun e => h (by simp [ios, e])]
  | env, .inl _ :: r, _ :: fe, h => by rw [taken, taken_out (as := r) h]
  | _, [], _, _ => by rw [taken] <;> intros <;> contradiction
  | _, .inl _ :: _, [], _ => by rw [taken] <;> intros <;> contradiction
  | _, .inr _ :: _, [], _ => by rw [taken] <;> intros <;> contradiction
theorem taken_in {j : Nat} {d : D} : ∀ {env : Env} {as : List Arg} {fe : Env}, as.length = fe.length → (ios as).Nodup → j ∈ ios as → (taken env as fe)[j]? = some (some d) → ∃ k : Nat, as[k]? = some (.inr j) ∧ fe[k]? = some (some d)
  | env, .inr i :: r, o :: fe, hl, nd, h, e => by
    rw [taken] at e
    by_cases hj : j = i
    · subst hj
      rw [taken_out (List.nodup_cons.mp nd).1] at e
      refine ⟨0, rfl, ?_⟩
      rw [List.getElem?_set] at e
      simp only [if_true] at e
      split at e
      · exact e
      · cases e
    · obtain ⟨k, h1, h2⟩ := taken_in (as := r) (by simpa using hl) (List.nodup_cons.mp nd).2 ((List.mem_cons.mp h).resolve_left hj) e
      exact ⟨k + 1, h1, h2⟩
  | env, .inl _ :: r, _ :: fe, hl, nd, h, e => by
    rw [taken] at e
    obtain ⟨k, h1, h2⟩ := taken_in (as := r) (by simpa using hl) nd h e
    exact ⟨k + 1, h1, h2⟩
  | _, [], _, _, _, h, _ => by cases h
  | _, .inl _ :: _, [], hl, _, _, _ => by cases hl
  | _, .inr _ :: _, [], hl, _, _, _ => by cases hl
theorem taken_length : ∀ (env : Env) (as : List Arg) (fe : Env), (taken env as fe).length = env.length
  | env, .inr i :: r, o :: fe => by rw [taken, taken_length, List.length_set]
  | env, .inl _ :: r, _ :: fe => by rw [taken, taken_length]
  | _, [], _ => by rw [taken] <;> intros <;> contradiction
  | _, .inl _ :: _, [] => by rw [taken] <;> intros <;> contradiction
  | _, .inr _ :: _, [] => by rw [taken] <;> intros <;> contradiction
theorem given_length (env : Env) : ∀ as : List Arg, (given env as).length = as.length
  | [] => rfl
  | .inl _ :: r => by rw [given, List.length_cons, List.length_cons, given_length env r]
  | .inr _ :: r => by rw [given, List.length_cons, List.length_cons, given_length env r]
theorem given_at {env : Env} {d : D} : ∀ {as : List Arg} {k : Nat}, (given env as)[k]? = some (some d) → (∃ d0, as[k]? = some (.inl d0) ∧ d = d0.frz) ∨ ∃ i, as[k]? = some (.inr i) ∧ env[i]? = some (some d)
  | .inl d0 :: r, 0, h => by rw [given] at h; exact .inl ⟨d0, rfl, by simpa using h.symm⟩
  | .inr i :: r, 0, h => by
    rw [given] at h
    refine .inr ⟨i, rfl, ?_⟩
    have h : (env[i]?).join = some d := by simpa using h
    cases e : env[i]? with
    | none => rw [e] at h; cases h
    | some o => rw [e] at h; exact congrArg some h
  | .inl d0 :: r, k + 1, h => by rw [given] at h; exact given_at (as := r) (k := k) (by simpa using h)
  | .inr i :: r, k + 1, h => by rw [given] at h; exact given_at (as := r) (k := k) (by simpa using h)
theorem ios_mem {i : Nat} : ∀ {as : List Arg} {k : Nat}, as[k]? = some (.inr i) → i ∈ ios as
  | .inl d0 :: r, 0, h => by cases h
  | .inr j :: r, 0, h => by cases h; exact List.mem_cons_self
  | .inl d0 :: r, k + 1, h => ios_mem (as := r) (k := k) h
  | .inr j :: r, k + 1, h => List.mem_cons_of_mem _ (ios_mem (as := r) (k := k) h)
theorem ios_inj {i : Nat} : ∀ {as : List Arg} {k l : Nat}, (ios as).Nodup → as[k]? = some (.inr i) → as[l]? = some (.inr i) → k = l
  | .inl d0 :: r, 0, _, _, h, _ => by cases h
  | .inl d0 :: r, _, 0, _, _, h => by cases h
  | .inr j :: r, 0, 0, _, _, _ => rfl
  | .inr j :: r, 0, l + 1, nd, h, h2 => by cases h; exact absurd (ios_mem (as := r) (k := l) h2) (List.nodup_cons.mp nd).1
  | .inr j :: r, k + 1, 0, nd, h, h2 => by cases h2; exact absurd (ios_mem (as := r) (k := k) h) (List.nodup_cons.mp nd).1
  | .inl d0 :: r, k + 1, l + 1, nd, h, h2 => congrArg (· + 1) (ios_inj (as := r) nd h h2)
  | .inr j :: r, k + 1, l + 1, nd, h, h2 => congrArg (· + 1) (ios_inj (as := r) (List.nodup_cons.mp nd).2 h h2)
theorem paired_at {α β : Type} {G : α → β → Prop} : ∀ {l₁ : List α} {l₂ : List β} {k : Nat} {b : β}, Paired G l₁ l₂ → l₂[k]? = some b → ∃ a, l₁[k]? = some a ∧ G a b
  | _, _, _, _, .nil, at_ => by simp at at_
  | _, _, 0, _, .cons hd_ _, at_ => by
    simp at at_
    exact ⟨_, rfl, at_ ▸ hd_⟩
  | _, _, k + 1, _, .cons _ t, e => paired_at (k := k) t (by simpa using e)
def nfE (env : Env) : Bool := env.all fun o => match o with
  | some d => d.nf
  | none => true
theorem nfE_at {env : Env} (h : nfE env = true) {k : Nat} {d : D} (e : env[k]? = some (some d)) : d.nf = true := by
  have := List.all_eq_true.mp h (some d) (List.mem_of_getElem? e)
  exact this
/-- the call on trees; bor: some argument is a name's own thing, that is only looked at -/
def oFn (sp : TX) (n : Nat) (bor : Bool) (u : TXC) : TX := fun env Q => u env fun as env1 => as.length = n ∧ sp (given env1 as) fun r fe => (bor = true → r.nf = true ∧ nfE fe = true) ∧ Q r (taken env1 as fe)
open Classical in
noncomputable def thawZ (Z Z2 : Hp) (F : AS) : Hp := fun a => if F a then Z a else Z2 a
section
variable {K : PySem.W.Frag} {M R I : List Nat} {sp : TX} {u : TXC} {n : Nat}
def noTup : Option HO → Prop
  | some (.tup _) => False
  | _ => True
theorem Rep.shrink {Z H : Hp} {v : V} {d : D} {F : AS} (r : Rep K Z H v d F) : Rep K Z H v d (fun a => F a ∧ noTup (H a)) := by
  refine Rep.rec (K := K) (Z := Z) (H := H) (motive_1 := fun v d F _ => Rep K Z H v d (fun a => F a ∧ noTup (H a))) (motive_2 := fun v d F _ => RepL K Z H v d (fun a => F a ∧ noTup (H a)))
    ?_ ?_ ?_ ?_ ?_ ?_ ?_ ?_ ?_ ?_ ?_ ?_ ?_ ?_ ?_ ?_ ?_ ?_ r
  · intro F; exact .non
  · intro F b; exact .bl b
  · intro F b; exact .int b
  · intro F b; exact .str b
  · intro F b; exact .byt b
  · intro F b; exact .ty b
  · intro F a vs xs h1 h2 ih; exact .tup h1 ih
  · intro F G a vs xs h1 h2 h3 h4 h5 ih; exact .lstO ⟨h1, by rw [h2]; trivial⟩ h2 h3 ih fun b z => ⟨⟨(h5 b z.1).1, z.2⟩, (h5 b z.1).2⟩
  · intro F a vs xs h1 h2 ih; exact .lstF h1 h2
  · intro F a vs xs h1 h2 ih; exact .kst h1 h2
  · intro F G a m kvs h1 h2 h3 h4 h5 h6 ih; exact .dctO ⟨h1, by rw [h2]; trivial⟩ h2 h3 h4 ih fun b z => ⟨⟨(h6 b z.1).1, z.2⟩, (h6 b z.1).2⟩
  · intro F a m kvs h1 h2 h3 ih; exact .dctF h1 h2 h3
  · intro F G a m kvs h1 h2 h3 h4 h5 h6 ih; exact .dttO ⟨h1, by rw [h2]; trivial⟩ h2 h3 h4 ih fun b z => ⟨⟨(h6 b z.1).1, z.2⟩, (h6 b z.1).2⟩
  · intro F a m kvs h1 h2 h3 ih; exact .dttF h1 h2 h3
  · intro F G a C dx m fs h1 h2 h3 h4 h5 h6 ih; exact .insO ⟨h1, by rw [h2]; trivial⟩ h2 h3 h4 ih fun b z => ⟨⟨(h6 b z.1).1, z.2⟩, (h6 b z.1).2⟩
  · intro F a C dx m fs h1 h2 h3 ih; exact .insF h1 h2 h3
  · intro F; exact .nil
  · intro F G E v vs d ds h1 h2 h3 h4 ih1 ih2; exact .cons ih1 ih2 (fun b z => ⟨h3 b z.1, z.2⟩) fun b z => ⟨⟨(h4 b z.1).1, z.2⟩, fun y => (h4 b z.1).2 y.1⟩
theorem ArgR.shrink {S : W} {σ : L2.St} {F : AS} : ∀ {vs : List V} {as : List Arg}, Paired (ArgR K S σ F) vs as → Paired (ArgR K S σ (fun a => F a ∧ noTup (S.H a))) vs as
  | _, _, .nil => .nil
  | _, _, .cons (a := v) (b := .inl d) r t => .cons (show Rep K S.Z S.H v d _ from Rep.shrink r) (ArgR.shrink t)
  | _, _, .cons (a := v) (b := .inr i) r t => .cons r (ArgR.shrink t)
theorem call_core {σ : L2.St} {S S1 : W} {vs : List V} {as : List Arg} {Fv : AS} {E : XK} {bor : Bool} {Qt : D → Env → Prop} {Q : VK} (s1 : SR K σ S1) (st1 : Stp M S S1) (v0 : VPC K M R I σ S S1 vs as Fv) (nd : I.Nodup) (dj : Dj R I = true) (hb : bor = true ∨ R = [])
    (hn : as.length = n) (q : sp (given S1.env as) fun r fe => (bor = true → r.nf = true ∧ nfE fe = true) ∧ Qt r (taken S1.env as fe))
    (k : ∀ S' v d Fv, Qt d S'.env → SR K σ S' → Stp (M ++ I) S S' → VP K (M ++ I) [] S S' v d Fv → Q v S'.H) : liftSp K n sp vs S1.H Q E := by
  obtain ⟨Fv, v1, ht⟩ : ∃ Fv, VPC K M R I σ S S1 vs as Fv ∧ ∀ a vs, Fv a → S1.H a ≠ some (.tup vs) := ⟨fun a => Fv a ∧ noTup (S1.H a), ⟨v0.io, ArgR.shrink v0.rep, fun a z => v0.tv a z.1, fun a z => v0.ow a z.1⟩, fun a vs z e => by
    have := z.2
    rw [e] at this
    exact this⟩
  have hvl : vs.length = as.length := Paired.length v1.rep
  have ndI : (ios as).Nodup := by rw [v1.io]; exact nd
  -- what the callee may change is apart from what it looks at
  have apart : ∀ i, i ∈ I → ∀ a, S1.F i a → ¬ Fv a := fun i hi a h z => by
    rcases v1.ow a z with ⟨r, hr, e⟩ | ⟨e, _⟩
    · exact dj_out dj hr (s1.ap i r a h e ▸ hi)
    · exact e i h
  have hI : ∀ {i k : Nat}, as[k]? = some (Sum.inr i : Arg) → i ∈ I := fun {i k} h => v1.io ▸ ios_mem (as := as) (k := k) h
  have x0 := ext_frz v1.tv
  let Sc : W := ⟨frzZ S1.Z S1.H Fv, S1.H, given S1.env as, fun k a => ∃ i, as[k]? = some (.inr i) ∧ S1.F i a⟩
  have sc : SR K (vs.map some) Sc := by
    refine ⟨frzZ_zh s1.zh, fun k d e => ?_, fun k l a ⟨i, h1, h2⟩ ⟨j, h3, h4⟩ => ?_, fun k a ⟨i, h1, h2⟩ => ⟨(s1.tr i a h2).1, ?_⟩, ?_⟩
    · rcases given_at e with ⟨d0, h1, rfl⟩ | ⟨i, h1, h2⟩
      · obtain ⟨v, hv, r⟩ := paired_at v1.rep h1
        have r : Rep K S1.Z S1.H v d0 Fv := r
        exact ⟨v, by rw [List.getElem?_map, hv]; rfl, r.frzz v1.tv⟩
      · obtain ⟨v, hv, r⟩ := paired_at v1.rep h1
        have r : σ[i]? = some (some v) := r
        refine ⟨v, by rw [List.getElem?_map, hv]; rfl, ?_⟩
        exact ((sl_at s1 h2 r).ext x0 fun a z => apart i (hI h1) a z).mono fun a z => ⟨i, h1, z⟩
    · have := s1.ap i j a h2 h4
      subst this
      exact ios_inj ndI h1 h3
    · show frzZ S1.Z S1.H Fv a = none
      rw [frzZ_out (apart i (hI h1) a h2)]
      exact (s1.tr i a h2).2
    · show (given S1.env as).length = (vs.map some).length
      rw [given_length, List.length_map, hvl]
  refine ⟨hvl.trans hn, Sc, _, rfl, sc, q, fun S2 v d Fr ⟨hnf, q2⟩ s2 st2 v2 => ?_⟩
  have fl : as.length = S2.env.length := by rw [s2.ln, List.length_map, hvl]
  have xc : Ext (frzZ S1.Z S1.H Fv) S1.H (fun a => ∃ (k i : Nat), as[k]? = some (Sum.inr i : Arg) ∧ S1.F i a) S2.Z S2.H := st2.ext
  let F3 : Nat → AS := fun j a => (j ∈ I ∧ ∃ k, as[k]? = some (.inr j) ∧ S2.F k a) ∨ (j ∉ I ∧ S1.F j a)
  -- the rest, whatever is kept frozen
  have rest : ∀ (Z3 : Hp) (Fz : AS), (∀ a o, S1.Z a = some o → Z3 a = some o) → (∀ a o, Z3 a = some o → S2.Z a = some o) → (∀ a o, Z3 a = some o → S1.Z a = none → S1.H a = none ∨ (∃ i, i ∈ I ∧ S1.F i a) ∨ Fz a) →
      (∀ a, Fz a → (∀ i, ¬ S1.F i a) ∧ (S.H a = none ∨ ∃ i, i ∈ M ∧ S.F i a)) → Rep K Z3 S2.H v d Fr → (∀ (kk : Nat) (v' : V) (d' : D), S2.env[kk]? = some (some d') → Rep K S2.Z S2.H v' d' (S2.F kk) → Rep K Z3 S2.H v' d' (S2.F kk)) → Q v S2.H := by
    intro Z3 Fz z1 z2 z4 zf rr rio
    have x3 : Ext S1.Z S1.H (fun a => (∃ i, i ∈ I ∧ S1.F i a) ∨ Fz a) Z3 S2.H := ⟨z1, fun a o h nn => xc.fr a o h fun ⟨kk, i, h1, h2⟩ => nn (.inl ⟨i, hI h1, h2⟩), xc.th, fun a o h1 h2 => z4 a o h1 h2⟩
    have s3 : SR K σ ⟨Z3, S2.H, taken S1.env as S2.env, F3⟩ := by
      refine s1.go x3 (fun a o h => s2.zh a o (z2 a o h)) (fun j => ?_) (fun i j a h1 h2 => ?_) (by rw [taken_length]; exact s1.ln)
      · by_cases hj : j ∈ I
        · refine .inr ⟨fun d' e => ?_, fun a h => ?_⟩
          · obtain ⟨kk, h1, h2⟩ := taken_in fl ndI (by rw [v1.io]; exact hj) e
            obtain ⟨w, hw, r⟩ := s2.sl kk d' h2
            obtain ⟨w', hw', r'⟩ := paired_at v1.rep h1
            have r' : σ[j]? = some (some w') := r'
            rw [List.getElem?_map, hw'] at hw
            cases hw
            exact ⟨w, r', (rio kk w d' h2 r).mono fun a z => .inl ⟨hj, kk, h1, z⟩⟩
          · rcases h with ⟨_, kk, h1, h2⟩ | ⟨h1, _⟩
            · obtain ⟨⟨o, h3⟩, h4⟩ := s2.tr kk a h2
              refine ⟨⟨o, h3⟩, ?_⟩
              cases e : Z3 a with
              | none => rfl
              | some u => have := z2 a u e; rw [h4] at this; cases this
            · exact absurd hj h1
        · refine .inl ⟨taken_out (by rw [v1.io]; exact hj), rfl, ?_, fun a h => ?_⟩
          · funext a
            show ((j ∈ I ∧ _) ∨ (j ∉ I ∧ S1.F j a)) = S1.F j a
            simp [hj]
          · rintro (⟨i, hi, e⟩ | e)
            · exact hj (s1.ap i j a e h ▸ hi)
            · exact (zf a e).1 j h
      · -- apart
        have own : ∀ kk, S2.F kk a → (∃ i, i ∈ I ∧ S1.F i a) ∨ S1.H a = none := fun kk h => (st2.nf kk a h).imp (fun ⟨l, i, e1, e2⟩ => ⟨i, hI e1, e2⟩) id
        have mix : ∀ kk j, S2.F kk a → j ∉ I → S1.F j a → False := fun kk j h hj h2 => by
          rcases own kk h with ⟨i, hi, e⟩ | e
          · exact hj (s1.ap i j a e h2 ▸ hi)
          · obtain ⟨⟨o, e'⟩, _⟩ := s1.tr j a h2
            rw [e] at e'; cases e'
        rcases h1 with ⟨hi, k1, e1, f1⟩ | ⟨hi, f1⟩ <;> rcases h2 with ⟨hj, k2, e2, f2⟩ | ⟨hj, f2⟩
        · have := s2.ap k1 k2 a f1 f2
          subst this
          rw [e1] at e2
          cases e2
          rfl
        · exact (mix k1 j f1 hj f2).elim
        · exact (mix k2 i f2 hi f1).elim
        · exact s1.ap i j a f1 f2
    have back : ∀ a, (∃ i, i ∈ I ∧ S1.F i a) → (∃ i, i ∈ M ++ I ∧ S.F i a) ∨ S.H a = none := fun a ⟨i, hi, h⟩ => by
      by_cases hm : i ∈ M
      · rcases st1.nf i a hm h with ⟨j, h1, h2⟩ | h
        · exact .inl ⟨j, List.mem_append_left _ h1, h2⟩
        · exact .inr h
      · rw [(st1.frm i hm).2] at h
        exact .inl ⟨i, List.mem_append_right _ hi, h⟩
    have st3 : Stp (M ++ I) S ⟨Z3, S2.H, taken S1.env as S2.env, F3⟩ := by
      refine ⟨st1.ext.trans x3 (fun c ⟨i, a, b⟩ => ⟨i, List.mem_append_left _ a, b⟩) fun c z => ?_, fun i hn => ?_, fun i a hi h => ?_⟩
      · rcases z with z | z
        · exact back c z
        · exact (zf c z).2.symm.imp (fun ⟨i, a, b⟩ => ⟨i, List.mem_append_left _ a, b⟩) id
      · have n1 : i ∉ M := fun z => hn (List.mem_append_left _ z)
        have n2 : i ∉ I := fun z => hn (List.mem_append_right _ z)
        refine ⟨(taken_out (by rw [v1.io]; exact n2)).trans (st1.frm i n1).1, ?_⟩
        refine Eq.trans ?_ (st1.frm i n1).2
        funext a
        show ((i ∈ I ∧ _) ∨ (i ∉ I ∧ S1.F i a)) = S1.F i a
        simp [n2]
      · rcases h with ⟨hi, kk, h1, h2⟩ | ⟨hi2, h2⟩
        · rcases st2.nf kk a h2 with ⟨l, j, e1, e2⟩ | e
          · exact back a ⟨j, hI e1, e2⟩
          · exact .inr (st1.none_of e)
        · have hm : i ∈ M := (List.mem_append.mp hi).resolve_right hi2
          rcases st1.nf i a hm h2 with ⟨j, h1, h2⟩ | h
          · exact .inl ⟨j, List.mem_append_left _ h1, h2⟩
          · exact .inr h
    refine k ⟨Z3, S2.H, taken S1.env as S2.env, F3⟩ v d Fr q2 s3 st3 ⟨rr, fun a z => ⟨(v2.tv a z).1, ?_⟩, fun a z => .inr ⟨fun j h => ?_, ?_⟩⟩
    · show Z3 a = none
      cases e : Z3 a with
      | none => rfl
      | some u => have := z2 a u e; rw [(v2.tv a z).2] at this; cases this
    · rcases h with ⟨hj, kk, h1, h2⟩ | ⟨hj, h2⟩
      · exact (v2.ow a z).1 kk h2
      · rcases (v2.ow a z).2 with e | ⟨l, i, e1, e2⟩
        · obtain ⟨⟨o, e'⟩, _⟩ := s1.tr j a h2
          rw [show S1.H a = none from e] at e'; cases e'
        · exact hj (s1.ap i j a e2 h2 ▸ hI e1)
    · rcases (v2.ow a z).2 with e | ⟨l, i, e1, e2⟩
      · exact .inl (st1.none_of e)
      · exact (back a ⟨i, hI e1, e2⟩).symm
  by_cases hR : R = []
  · subst hR
    have ow : ∀ a, Fv a → (∀ i, ¬ S1.F i a) ∧ (S.H a = none ∨ ∃ i, i ∈ M ∧ S.F i a) := fun a z => by
      rcases v1.ow a z with ⟨r, hr, _⟩ | h
      · cases hr
      · exact h
    refine rest S2.Z Fv (fun a o h => xc.zs a o (x0.zs a o h)) (fun _ _ h => h) (fun a o h hz => ?_) ow v2.rep fun _ _ _ _ h => h
    by_cases hf : Fv a
    · exact .inr (.inr hf)
    · have : frzZ S1.Z S1.H Fv a = none := by rw [frzZ_out hf]; exact hz
      exact (xc.nz a o h this).imp id fun ⟨kk, i, h1, h2⟩ => .inl ⟨i, hI h1, h2⟩
  · have hbor : bor = true := hb.resolve_right hR
    obtain ⟨n1, n2⟩ := hnf hbor
    have tin : ∀ {a}, Fv a → thawZ S1.Z S2.Z Fv a = S1.Z a := fun h => by unfold thawZ; rw [if_pos h]
    have tout : ∀ {a}, ¬ Fv a → thawZ S1.Z S2.Z Fv a = S2.Z a := fun h => by unfold thawZ; rw [if_neg h]
    -- what was only looked at holds no tuple
    have looked : ∀ a o, Fv a → S2.Z a = some o → S1.H a = some o := fun a o h e => by
      obtain ⟨⟨o1, e1⟩, _⟩ := v1.tv a h
      have : S2.Z a = some o1 := xc.zs a o1 (by rw [frzZ_in h]; exact e1)
      rw [e] at this; cases this
      exact e1
    have keepT : ∀ {v' : V} {d' : D} {F' : AS}, Rep K S2.Z S2.H v' d' F' → d'.nf = true → (∀ a, F' a → S2.Z a = none) → Rep K (thawZ S1.Z S2.Z Fv) S2.H v' d' F' := fun r h hz => by
      refine r.thaw h (fun a vs e => ?_) fun a z e => ?_
      · by_cases hf : Fv a
        · exact absurd (looked a _ hf e) (ht a vs hf)
        · rw [tout hf]; exact e
      · by_cases hf : Fv a
        · rw [tin hf]; exact (v1.tv a hf).2
        · rw [tout hf]; exact e
    refine rest (thawZ S1.Z S2.Z Fv) nF (fun a o h => ?_) (fun a o h => ?_) (fun a o h hz => ?_) (fun a z => z.elim) (keepT v2.rep n1 fun a z => (v2.tv a z).2) fun kk v' d' e r => keepT r (nfE_at n2 e) fun a z => (s2.tr kk a z).2
    · by_cases hf : Fv a
      · rw [tin hf]; exact h
      · rw [tout hf]; exact xc.zs a o (x0.zs a o h)
    · by_cases hf : Fv a
      · rw [tin hf, (v1.tv a hf).2] at h; cases h
      · rw [tout hf] at h; exact h
    · by_cases hf : Fv a
      · rw [tin hf, hz] at h; cases h
      · rw [tout hf] at h
        have : frzZ S1.Z S1.H Fv a = none := by rw [frzZ_out hf]; exact hz
        exact (xc.nz a o h this).imp id fun ⟨kk, i, h1, h2⟩ => .inl ⟨i, hI h1, h2⟩
end
section
variable {X : Cx} {f : Addr} {fd : FuncData} {ps ks : List Str} {kk : Nat} {sp : TX} {u u2 : TXC} {e : Expr} {es : List Expr} {M R I M2 R2' I2 : List Nat} {x : Str} {p pos : Pos} {kws : List Keyword}
/-- f(e, ..) -/
theorem x_call (bor : Bool) (F : FnOk X.prog X.w X.K X.mg X.base CX0 kk f fd ps (liftSp X.K ps.length sp)) (hr : Room kk X.A) (hg : Gl X x) (hm : X.mg x = some (.ref f)) (hk : PySem.W.keepIn X.K (.ref f) = true) (hb : Binds X.K fd ps [])
    (ha : XC X (e :: es) M R I u) (nd : I.Nodup := by decide) (dj : Dj R I = true := by rfl) (hbor : bor = true ∨ R = [] := by first | exact .inl rfl | exact .inr rfl)
    (hdbg : (x == ("__debug__" : Str)) = false := by decide) (he : starEach (e :: es) X.env = (false, eval e X.env) :: starEach es X.env := by rfl) (hpln : (backTo pos (starEach es X.env)).any (·.1) = false := by rfl) :
    XX X (.Call (.Name x p) (e :: es) [] pos) (M ++ I) [] (oFn sp ps.length bor u) := ⟨pe_imp (pe_call F hr hg hm hk hb .nil (E := E0) pass0 ha.pa hdbg he hpln) fun σ H Q ⟨S, Qt, eH, s, q, k⟩ => by
  subst eH
  refine ⟨S, _, rfl, s, q, fun S1 vs as Fv ⟨hn, q1⟩ s1 st1 v1 => ?_⟩
  show liftSp X.K ps.length sp (vs ++ []) S1.H Q E0
  rw [List.append_nil]
  exact call_core s1 st1 v1 nd dj hbor hn q1 k⟩
/-- .. with defaults taken for the last parameters: none owned -/
def argsD (ds : List D) : List Arg := ds.map Sum.inl
/-! keywords -/
structure XK (X : Cx) (kws : List Keyword) (M R I : List Nat) (t : TXC) : Prop where
  pk : PK X kws (liftC X.K M R I t)
theorem pk_imp {X : Cx} {e : List Keyword} {t t' : TA} (h : PK X e t) (i : ∀ σ H Q, t' σ H Q → t σ H Q) : PK X e t' := ⟨fun pos pins s σ H Q I q => h.run pos pins s σ H Q I (i σ H Q q)⟩
theorem xk_nil : XK X [] [] [] [] cNil := ⟨pk_imp pk_nil fun σ H Q ⟨S, Qt, eH, s, q, k⟩ => by
  subst eH
  exact k S [] [] nF q s (.refl _ _) ⟨rfl, .nil, fun _ z => z.elim, fun _ z => z.elim⟩⟩
theorem args_cons {K : PySem.W.Frag} {σ : L2.St} {S S1 S2 : W} {Ma Mb Ra Rb I : List Nat} {v : V} {d : D} {Fx Fs : AS} {vs : List V} {as : List Arg} (s1 : SR K σ S1) (st1 : Stp Ma S S1) (v1 : VP K Ma Ra S S1 v d Fx) (st2 : Stp Mb S1 S2) (v2 : VPC K Mb Rb I σ S1 S2 vs as Fs) (dj : Dj Ra Mb = true) :
    VPC K (Ma ++ Mb) (Ra ++ Rb) I σ S S2 (v :: vs) (.inl d :: as) (fun a => Fx a ∨ Fs a) := by
  have w1 := v1.later s1 st1 st2 dj
  refine ⟨v2.io, .cons (show Rep K S2.Z S2.H v d _ from w1.rep.mono fun _ z => .inl z) (ArgR.mono (fun _ z => .inr z) v2.rep), fun a z => z.elim (w1.tv a) (v2.tv a), fun a z => ?_⟩
  rcases z with z | z
  · exact (w1.ow a z).imp (fun ⟨i, a, b⟩ => ⟨i, List.mem_append_left _ a, b⟩) id
  · rcases v2.ow a z with ⟨i, h1, h2⟩ | ⟨h1, h2⟩
    · exact .inl ⟨i, List.mem_append_right _ h1, h2⟩
    · refine .inr ⟨h1, ?_⟩
      rcases h2 with h2 | ⟨i, h2, h3⟩
      · exact .inl (st1.none_of h2)
      · by_cases hm : i ∈ Ma
        · rcases st1.nf i a hm h3 with ⟨j, q1, q2⟩ | q
          · exact .inr ⟨j, List.mem_append_left _ q1, q2⟩
          · exact .inl q
        · rw [(st1.frm i hm).2] at h3
          exact .inr ⟨i, List.mem_append_right _ h2, h3⟩
theorem xk_cons {nm : Option Str} {kpos : Pos} {Ma Ra : List Nat} {t : TX} (h : XX X e Ma Ra t) (h2 : XK X kws M R I u) (dj : Dj Ra M = true := by rfl) : XK X (⟨nm, e, kpos⟩ :: kws) (Ma ++ M) (Ra ++ R) I (cVal t u) := ⟨pk_imp (pk_cons h.pe h2.pk) fun σ H Q ⟨S, Qt, eH, s, q, k⟩ => by
  subst eH
  exact ⟨S, _, rfl, s, q, fun S1 x d Fx q1 s1 st1 v1 => ⟨S1, _, rfl, s1, q1, fun S2 vs as Fs q2 s2 st2 v2 => k S2 (x :: vs) (.inl d :: as) _ q2 s2 (st1.trans st2) (args_cons s1 st1 v1 st2 v2 dj)⟩⟩⟩
/-- positional ones, then keywords' -/
def cBoth (u u2 : TXC) : TXC := fun env Q => u env fun as env1 => u2 env1 fun bs env2 => Q (as ++ bs) env2
theorem ios_append : ∀ as bs : List Arg, ios (as ++ bs) = ios as ++ ios bs
  | [], _ => rfl
  | .inl _ :: r, bs => ios_append r bs
  | .inr i :: r, bs => congrArg (i :: ·) (ios_append r bs)
theorem paired_app {α β : Type} {G : α → β → Prop} : ∀ {l₁ m₁ : List α} {l₂ m₂ : List β}, Paired G l₁ l₂ → Paired G m₁ m₂ → Paired G (l₁ ++ m₁) (l₂ ++ m₂)
  | _, _, _, _, .nil, h => h
  | _, _, _, _, .cons r t, h => .cons r (paired_app t h)
theorem both_args {K : PySem.W.Frag} {σ : L2.St} {S S1 S2 : W} {Ma Mb Ra Rb I J : List Nat} {Fx Fs : AS} {vs ws : List V} {as bs : List Arg} (s1 : SR K σ S1) (st1 : Stp Ma S S1) (v1 : VPC K Ma Ra I σ S S1 vs as Fx) (st2 : Stp Mb S1 S2) (v2 : VPC K Mb Rb J σ S1 S2 ws bs Fs) (dj : Dj Ra Mb = true) :
    VPC K (Ma ++ Mb) (Ra ++ Rb) (I ++ J) σ S S2 (vs ++ ws) (as ++ bs) (fun a => Fx a ∨ Fs a) := by
  have off : ∀ a, Fx a → ¬ ∃ i, i ∈ Mb ∧ S1.F i a := by
    rintro a ha ⟨i, hi, hf⟩
    rcases v1.ow a ha with ⟨r, hr, e⟩ | ⟨e, _⟩
    · exact (dj_out dj hr) (s1.ap r i a e hf ▸ hi)
    · exact e i hf
  have r1 : ∀ {vs : List V} {as : List Arg}, Paired (ArgR K S1 σ Fx) vs as → Paired (ArgR K S2 σ (fun a => Fx a ∨ Fs a)) vs as := by
    intro vs as h
    unfold ArgR at h
    induction h with
    | nil => exact .nil
    | @cons v b vs as r t ih =>
      refine .cons ?_ ih
      cases b with
      | inl d =>
        have r : Rep K S1.Z S1.H v d Fx := r
        exact (r.ext st2.ext off).mono fun _ z => .inl z
      | inr i => exact r
  refine ⟨by rw [ios_append, v1.io, v2.io], paired_app (r1 v1.rep) (ArgR.mono (fun _ z => .inr z) v2.rep), fun a z => ?_, fun a z => ?_⟩
  · rcases z with z | z
    · obtain ⟨⟨o, e⟩, hz⟩ := v1.tv a z
      refine ⟨⟨o, st2.ext.fr a o e (off a z)⟩, ?_⟩
      cases q : S2.Z a with
      | none => rfl
      | some u =>
        rcases st2.ext.nz a u q hz with e' | e'
        · rw [e] at e'; cases e'
        · exact absurd e' (off a z)
    · exact v2.tv a z
  · rcases z with z | z
    · rcases v1.ow a z with ⟨r, hr, e⟩ | ⟨e, e2⟩
      · exact .inl ⟨r, List.mem_append_left _ hr, by rw [(st2.frm r (dj_out dj hr)).2]; exact e⟩
      · refine .inr ⟨fun i y => ?_, e2.imp id fun ⟨i, a1, a2⟩ => ⟨i, List.mem_append_left _ a1, a2⟩⟩
        rcases st2.any y with ⟨j, q⟩ | q
        · exact e j q
        · obtain ⟨⟨o, e'⟩, _⟩ := v1.tv a z
          rw [e'] at q; cases q
    · rcases v2.ow a z with ⟨i, h1, h2⟩ | ⟨h1, h2⟩
      · exact .inl ⟨i, List.mem_append_right _ h1, h2⟩
      · refine .inr ⟨h1, ?_⟩
        rcases h2 with h2 | ⟨i, h2, h3⟩
        · exact .inl (st1.none_of h2)
        · by_cases hm : i ∈ Ma
          · rcases st1.nf i a hm h3 with ⟨j, q1, q2⟩ | q
            · exact .inr ⟨j, List.mem_append_left _ q1, q2⟩
            · exact .inl q
          · rw [(st1.frm i hm).2] at h3
            exact .inr ⟨i, List.mem_append_right _ h2, h3⟩
/-- f(e, .., k = v, ..), all parameters in their order -/
theorem x_callK (bor : Bool) {n : Nat} (F : FnOk X.prog X.w X.K X.mg X.base CX0 kk f fd ps (liftSp X.K ps.length sp)) (hr : Room kk X.A) (hg : Gl X x) (hm : X.mg x = some (.ref f)) (hk : PySem.W.keepIn X.K (.ref f) = true) (hb : KBn X.K fd ps n ks (fun us ws => us ++ ws) (fun vs zs => vs ++ zs)) (hps : ps.length = n + ks.length := by rfl)
    (ha : XC X (e :: es) M R I u) (hkw : XK X kws M2 R2' I2 u2) (hn : (e :: es).length = n := by rfl) (hn2 : kws.length = ks.length := by rfl) (d0 : Dj R M2 = true := by rfl) (nd : (I ++ I2).Nodup := by decide) (dj : Dj (R ++ R2') (I ++ I2) = true := by rfl) (hbor : bor = true ∨ R ++ R2' = [] := by first | exact .inl rfl | exact .inr rfl)
    (hall : (backToKw pos (keywordEach kws X.env)).all (·.1.isSome) = true := by rfl) (hks : (backToKw pos (keywordEach kws X.env)).filterMap (·.1) = ks := by rfl)
    (hdbg : (x == ("__debug__" : Str)) = false := by decide) (he : starEach (e :: es) X.env = (false, eval e X.env) :: starEach es X.env := by rfl)
    (hpln : ((backTo pos (starEach (e :: es) X.env)).any (·.1) || (backToKw pos (keywordEach kws X.env)).any (·.1.isNone)) = false := by rfl) :
    XX X (.Call (.Name x p) (e :: es) kws pos) (M ++ M2 ++ (I ++ I2)) [] (fun env Q => u env fun as env1 => as.length = n ∧ u2 env1 fun bs env2 => bs.length = ks.length ∧ sp (given env2 (as ++ bs)) fun r fe => (bor = true → r.nf = true ∧ nfE fe = true) ∧ Q r (taken env2 (as ++ bs) fe)) :=
  ⟨pe_imp (pe_callN F hr hg hm hk hb (E := E0) pass0 ha.pa hkw.pk hall hks hdbg he hpln) fun σ H Q ⟨S, Qt, eH, s, q, k⟩ => by
  subst eH
  refine ⟨S, _, rfl, s, q, fun S1 vs as Fv ⟨l1, q1⟩ s1 st1 v1 => ⟨S1, _, rfl, s1, q1, fun S2 zs bs Fz ⟨l2, q2⟩ s2 st2 v2 => ?_⟩⟩
  have v := both_args s1 st1 v1 st2 v2 d0
  have hl1 : vs.length = n := (Paired.length v1.rep).trans l1
  have hl2 : zs.length = ks.length := (Paired.length v2.rep).trans l2
  exact ⟨hl1, hl2, call_core s2 (st1.trans st2) v nd dj hbor (by rw [List.length_append, l1, l2, hps]) q2 k⟩⟩
end
end TT

/-! T13: more operators, targets, walks -/
namespace TT
open PySem PySem.Spec PyProof.Rows L2
section
variable {X : Cx} {a b e : Expr} {es : List Expr} {M Ma Mb R Ra Rb : List Nat} {ta tb t : TX} {u : TXA} {pos p : Pos}
def CPowW (i j : Int) : Prop := 0 ≤ j ∧ (Builtin.Int.intBits i : Int) * j ≤ 2 ^ 27
theorem op_powW : OpR X (binaryOp .Pow) (rI CPowW fun i j => .int (i ^ j.toNat)) := opI fun _ _ _ _ _ _ _ hc q => pow_int hc.1 hc.2 q
abbrev rPowI : D → D → (D → Prop) → Prop := rI2 CPowW fun i j => .int (i ^ j.toNat)
theorem o_powW : OpT X (binaryOp .Pow) rPowI := opT_I op_powW fun i j _ _ => .int _
abbrev rMulW : D → D → (D → Prop) → Prop := rI2 CMulW fun i j => .int (i * j)
theorem o_mulW : OpT X (binaryOp .Mult) rMulW := opT_I op_mulW fun i j _ _ => .int _
abbrev rFdivW : D → D → (D → Prop) → Prop := rI2 CDivW fun i j => .int (i / j)
theorem o_fdivW : OpT X (binaryOp .FloorDiv) rFdivW := opT_I op_fdivW fun i j _ _ => .int _
theorem bits_le {i : Int} {k : Nat} (hk : 0 < k) (h : i.natAbs < 2 ^ k) : Builtin.Int.intBits i ≤ k := by
  have := PySem.Flt.log2_lt_of hk h
  unfold Builtin.Int.intBits
  split <;> omega
theorem powW_of {i j : Int} {k : Nat} (hk : 0 < k) (h : i.natAbs < 2 ^ k) (hj : 0 ≤ j) (hb : (k : Int) * j ≤ 2 ^ 27) : CPowW i j := by
  refine ⟨hj, Int.le_trans (Int.mul_le_mul_of_nonneg_right ?_ hj) hb⟩
  have := bits_le hk h
  omega
/-- xs * bool -/
def rRepB : D → D → (D → Prop) → Prop := fun x y Q => ∃ xs k, lstItems x = some xs ∧ y = .bl k ∧ frzL xs = xs ∧ Q (.lst true (if k = true then xs else []))
theorem o_repB : OpT X (binaryOp .Mult) rRepB := ⟨_, op_mul_lb, fun σ S x d Fx y e Fy Qd P s rx ry ⟨xs, k, e1, e2, f1, q⟩ kk => by
  subst e2
  obtain rfl := ry.bl_inv
  have fin : ∀ a vs, x = .ref a → SqL X.K S.H a vs → RepL X.K S.Z S.H vs xs Fx → ∃ a xs k', x = V.ref a ∧ V.bl k = V.bl k' ∧ SqL X.K S.H a xs ∧ ∀ p, S.H p = none → P (.ref p) (upd S.H p (.lst (if k' = true then xs else []))) := fun a vs ex hsw hr => by
    refine ⟨a, vs, k, ex, rfl, hsw, fun p hp => ?_⟩
    cases k with
    | true => exact kk _ _ _ _ _ q (.lst s hp (hr.imm' f1))
    | false => exact kk _ _ _ _ _ q (.lst s hp .nil)
  cases d with
  | lst o ys =>
    cases e1
    obtain ⟨a, vs, ex, h1, h2⟩ := rx.lst_inv s.zh
    exact fin a vs ex (.inl h1) h2
  | kst ys =>
    cases e1
    obtain ⟨a, vs, ex, h1, h2⟩ := rx.kst_inv s.zh
    exact fin a vs ex h1 h2
  | _ => cases e1⟩
/-- xs[::-1] -/
def oRev (t : TX) : TX := fun env Q => t env fun d env1 => ∃ xs, lstItems d = some xs ∧ frzL xs = xs ∧ Q (.lst true xs.reverse) env1
theorem RepL.reverse {K : PySem.W.Frag} {Z H : Hp} : ∀ {vs : List V} {ds : List D}, RepL K Z H vs ds nF → RepL K Z H vs.reverse ds.reverse nF
  | _, _, .nil => .nil
  | _, _, .cons r t f g => by
    rw [List.reverse_cons, List.reverse_cons]
    exact (RepL.reverse (t.mono fun a z => (g a z).1)).append (.cons (G := nF) (E := nF) (r.mono fun a z => f a z) .nil (fun _ z => z.elim) fun _ z => z.elim)
theorem x_rev {k : Nat} {p1 p2 p3 : Pos} (h : XX X e M R t) : XX X (.Subscript e (.Slice none none (some (.UnaryOp .USub (.Constant (.int 1) k p1) p2)) p3) pos) M [] (oRev t) := ⟨pe_imp (pe_revL h.pe) fun σ H Q ⟨S, Qt, eH, s, q, kk⟩ => by
  subst eH
  refine ⟨S, _, rfl, s, q, fun S1 x d Fx ⟨xs, e1, f1, q1⟩ s1 st1 v1 => ?_⟩
  have fin : ∀ a vs, x = .ref a → SqL X.K S1.H a vs → RepL X.K S1.Z S1.H vs xs Fx → ∃ a xs, x = V.ref a ∧ SqL X.K S1.H a xs ∧ ∀ p, S1.H p = none → Q (.ref p) (upd S1.H p (.lst xs.reverse)) := fun a vs ex hsw hr => ⟨a, vs, ex, hsw, fun p hp => by
    have f := Fr.lst (q := p) s1 hp ((hr.imm' f1 (G := nF) (H' := S1.H)).reverse)
    exact kk ⟨_, _, S1.env, S1.F⟩ _ _ _ q1 (f.sr s1) (st1.then0 f.stp) ((f.vp s1).then0 st1)⟩
  cases d with
  | lst o ys =>
    cases e1
    obtain ⟨a, vs, ex, h1, h2⟩ := v1.rep.lst_inv s1.zh
    exact fin a vs ex (.inl h1) h2
  | kst ys =>
    cases e1
    obtain ⟨a, vs, ex, h1, h2⟩ := v1.rep.kst_inv s1.zh
    exact fin a vs ex h1 h2
  | _ => cases e1⟩
/-- list(range(..)) -/
abbrev TXR := Env → (Int → Int → Env → Prop) → Prop
def gR1 (t : TX) : TXR := fun env Q => t env fun d env1 => ∃ n, d = .int n ∧ Q 0 n env1
def gR2 (ta tb : TX) : TXR := fun env Q => ta env fun d env1 => tb env1 fun e env2 => ∃ i j, d = .int i ∧ e = .int j ∧ Q i j env2
structure XR (X : Cx) (e : Expr) (M : List Nat) (t : TXR) : Prop where
  pr : ∃ tt : L2.St → Hp → (Int → Int → Hp → Prop) → Prop, PRg X e tt ∧ ∀ σ (H : Hp) (Q : Int → Int → Hp → Prop), (∃ S Qt, S.H = H ∧ SR X.K σ S ∧ t S.env Qt ∧ ∀ S' i j, Qt i j S'.env → SR X.K σ S' → Stp M S S' → Q i j S'.H) → tt σ H Q
theorem xr_1 (hg : Gl X "range") (hm : X.mg "range" = none) (ha : XX X a M R t) (na : starEach [a] X.env = (false, eval a X.env) :: starEach [] X.env := by rfl) : XR X (.Call (.Name "range" p) [a] [] pos) M (gR1 t) := ⟨_, prg_1 hg hm ha.pe na, fun σ H Q ⟨S, Qt, eH, s, q, k⟩ => by
  subst eH
  refine ⟨S, _, rfl, s, q, fun S1 x d Fx ⟨n, e1, q1⟩ s1 st1 v1 => ?_⟩
  subst e1
  exact ⟨n, v1.rep.int_inv, k S1 0 n q1 s1 st1⟩⟩
theorem xr_2 (hg : Gl X "range") (hm : X.mg "range" = none) (ha : XX X a Ma Ra ta) (hb : XX X b Mb Rb tb) (dj : Dj Ra Mb = true := by rfl) (na : starEach [a, b] X.env = (false, eval a X.env) :: starEach [b] X.env := by rfl) (nb : starEach [b] X.env = (false, eval b X.env) :: starEach [] X.env := by rfl) (np : (backTo pos (starEach [b] X.env)).any (·.1) = false := by rfl) : XR X (.Call (.Name "range" p) [a, b] [] pos) (Ma ++ Mb) (gR2 ta tb) := ⟨_, prg_2 hg hm ha.pe hb.pe na nb np, fun σ H Q ⟨S, Qt, eH, s, q, k⟩ => by
  subst eH
  refine two dj s q fun S' x d Fx y e Fy ⟨i, j, e1, e2, q1⟩ s1 st v1 v2 => ?_
  subst e1 e2
  exact ⟨i, j, v1.rep.int_inv, v2.rep.int_inv, k S' i j q1 s1 st⟩⟩
def oLR (t : TXR) : TX := fun env Q => t env fun i j env1 => RgOk i j ∧ Q (.lst true (rgD i (j - i).toNat)) env1
theorem rep_rg {K : PySem.W.Frag} {Z H : Hp} (i : Int) (n : Nat) : RepL K Z H ((List.range n).map fun k => V.int (i + (k : Nat))) (rgD i n) nF := by
  unfold rgD
  have h1 : ((List.range n).map fun k : Nat => V.int (i + (k : Nat))) = ((List.range n).map fun k : Nat => i + (k : Nat)).map V.int := by rw [List.map_map]; rfl
  have h2 : ((List.range n).map fun k : Nat => D.int (i + (k : Nat))) = ((List.range n).map fun k : Nat => i + (k : Nat)).map D.int := by rw [List.map_map]; rfl
  rw [h1, h2]
  exact .of_ints _
theorem x_listRg {r : TXR} (hc : X.calm = true) (hg : Gl X "list") (hm : X.mg "list" = none) (h : XR X e M r) (na : starEach [e] X.env = (false, eval e X.env) :: starEach [] X.env := by rfl) : XX X (.Call (.Name "list" p) [e] [] pos) M [] (oLR r) := by
  obtain ⟨tt, h1, h2⟩ := h.pr
  refine ⟨pe_imp (pe_listRg hc hg hm h1 na) fun σ H Q ⟨S, Qt, eH, s, q, k⟩ => h2 σ H _ ⟨S, _, eH, s, q, fun S1 i j ⟨ok, q1⟩ s1 st1 => ⟨ok, fun p hp => ?_⟩⟩⟩
  have f := Fr.lst (q := p) s1 hp (rep_rg (K := X.K) (Z := S1.Z) (H := S1.H) i (j - i).toNat)
  exact k ⟨_, _, S1.env, S1.F⟩ _ _ _ q1 (f.sr s1) (st1.then0 f.stp) ((f.vp s1).then0 st1)
/-- x or y by truth -/
def truD : D → Option Bool
  | .lst _ xs => some (!xs.isEmpty)
  | .kst xs => some (!xs.isEmpty)
  | .tup xs => some (!xs.isEmpty)
  | .int i => some (i != 0)
  | .bl b => some b
  | .non => some false
  | .str z => if z.length ≤ sizeLine then some ((z.length : Int) != 0) else none
  | _ => none
theorem isEmpty_len {α β : Type} {xs : List α} {ys : List β} (h : xs.length = ys.length) : xs.isEmpty = ys.isEmpty := by
  cases xs <;> cases ys <;> simp at h ⊢
theorem Rep.tru {K : PySem.W.Frag} {S : W} {σ : L2.St} {v : V} {d : D} {F : AS} {k : Bool} (s : SR K σ S) (r : Rep K S.Z S.H v d F) (h : truD d = some k) : TruV K v S.H k := by
  cases d with
  | non => obtain rfl := r.non_inv; cases h; rfl
  | bl b => obtain rfl := r.bl_inv; cases h; rfl
  | int i => obtain rfl := r.int_inv; cases h; rfl
  | str z =>
    obtain rfl := r.str_inv
    simp only [truD] at h
    split at h
    · rename_i hz; cases h; exact ⟨hz, rfl⟩
    · cases h
  | lst o xs =>
    obtain ⟨a, vs, rfl, h1, h2⟩ := r.lst_inv s.zh
    cases h
    exact .inl ⟨vs, .inl h1, by rw [isEmpty_len h2.length]⟩
  | kst xs =>
    obtain ⟨a, vs, rfl, h1, h2⟩ := r.kst_inv s.zh
    cases h
    exact .inl ⟨vs, h1, by rw [isEmpty_len h2.length]⟩
  | tup xs =>
    obtain ⟨a, vs, rfl, h1, _, h2⟩ := r.tup_inv s.zh
    cases h
    exact .inr (.inl ⟨vs, SqT.of h1, by rw [isEmpty_len h2.length]⟩)
  | _ => cases h
def oOrT (ta tb : TX) : TX := fun env Q => ta env fun x env1 => ∃ k, truD x = some k ∧ if k = true then Q x env1 else tb env1 Q
def oAndT (ta tb : TX) : TX := fun env Q => ta env fun x env1 => ∃ k, truD x = some k ∧ if k = true then tb env1 Q else Q x env1
theorem x_orT {rest : List Expr} (ha : XX X a Ma Ra ta) (hb : XX X (.BoolOp .Or (b :: rest) pos) Mb Rb tb) : XX X (.BoolOp .Or (a :: b :: rest) pos) (Ma ++ Mb) (Ra ++ Rb) (oOrT ta tb) := ⟨pe_imp (pe_orT ha.pe hb.pe) fun σ H Q ⟨S, Qt, eH, s, q, k⟩ => by
  subst eH
  refine ⟨S, _, rfl, s, q, fun S1 x d Fx ⟨c, e, q1⟩ s1 st1 v1 => ⟨c, v1.rep.tru s1 e, ?_⟩⟩
  cases c with
  | true => exact k S1 x d Fx q1 s1 (st1.mono fun _ z => List.mem_append_left _ z) (v1.mono (fun _ z => List.mem_append_left _ z) fun _ z => List.mem_append_left _ z)
  | false => exact ⟨S1, _, rfl, s1, q1, fun S2 y e Fy q2 s2 st2 v2 => k S2 y e Fy q2 s2 (st1.trans st2) ((v2.first st1).mono (fun _ z => z) fun _ z => List.mem_append_right _ z)⟩⟩
theorem x_andT {rest : List Expr} (ha : XX X a Ma Ra ta) (hb : XX X (.BoolOp .And (b :: rest) pos) Mb Rb tb) : XX X (.BoolOp .And (a :: b :: rest) pos) (Ma ++ Mb) (Ra ++ Rb) (oAndT ta tb) := ⟨pe_imp (pe_andT ha.pe hb.pe) fun σ H Q ⟨S, Qt, eH, s, q, k⟩ => by
  subst eH
  refine ⟨S, _, rfl, s, q, fun S1 x d Fx ⟨c, e, q1⟩ s1 st1 v1 => ⟨c, v1.rep.tru s1 e, ?_⟩⟩
  cases c with
  | false => exact k S1 x d Fx q1 s1 (st1.mono fun _ z => List.mem_append_left _ z) (v1.mono (fun _ z => List.mem_append_left _ z) fun _ z => List.mem_append_left _ z)
  | true => exact ⟨S1, _, rfl, s1, q1, fun S2 y e Fy q2 s2 st2 v2 => k S2 y e Fy q2 s2 (st1.trans st2) ((v2.first st1).mono (fun _ z => z) fun _ z => List.mem_append_right _ z)⟩⟩
/-- a value as a test by its truth -/
def tTru (t : TX) : TXT := fun env Q => t env fun d env1 => ∃ k, truD d = some k ∧ Q k env1
theorem xt_tru (h : XX X e M R t) (he : ∀ whole, isTrue e X.env whole = (do let v ← whole; standAt e.pos; holding [v] (truthy v)) := by intro _; rfl) : XT X e M (tTru t) := ⟨pt_imp (pt_truth h.pe he) fun σ H Q ⟨S, Qt, eH, s, q, k⟩ => by
  subst eH
  exact ⟨S, _, rfl, s, q, fun S1 x d Fx ⟨c, e, q1⟩ s1 st1 v1 => ⟨c, v1.rep.tru s1 e, k S1 c q1 s1 st1⟩⟩⟩
end

/-! ### a value stored to any target -/
structure StpG (A : List Nat) (Fv : AS) (σ σ' : L2.St) (S S' : W) : Prop where
  ext : Ext S.Z S.H (fun a => (∃ i, S.F i a) ∨ Fv a) S'.Z S'.H
  nf : ∀ i a, S'.F i a → (∃ j, S.F j a) ∨ Fv a ∨ S.H a = none
  sg : ∀ i, i ∉ A → σ'[i]? = σ[i]?
def GA (X : Cx) (tg : Expr) (A : List Nat) (gi : TXG) : Prop := ∃ g, PG X tg g ∧ ∀ (v : V) (d : D) (Fv : AS) (σ : L2.St) (S : W) (Q : L2.St → Hp → Prop) (Qt : Env → Prop), SR X.K σ S → Rep X.K S.Z S.H v d Fv → (∀ a, Fv a → (∃ o, S.H a = some o) ∧ S.Z a = none) → (∀ a, Fv a → ∀ i, ¬ S.F i a) → gi d S.env Qt →
  (∀ σ' S', Qt S'.env → SR X.K σ' S' → StpG A Fv σ σ' S S' → Q σ' S'.H) → g v σ S.H Q
def GAs (X : Cx) (tgs : List Expr) (A : List Nat) (gi : TXGs) : Prop := ∃ g, PGs X tgs g ∧ ∀ (vs : List V) (ds : List D) (Fv : AS) (σ : L2.St) (S : W) (Q : L2.St → Hp → Prop) (Qt : Env → Prop), SR X.K σ S → RepL X.K S.Z S.H vs ds Fv → (∀ a, Fv a → (∃ o, S.H a = some o) ∧ S.Z a = none) → (∀ a, Fv a → ∀ i, ¬ S.F i a) → gi ds S.env Qt →
  (∀ σ' S', Qt S'.env → SR X.K σ' S' → StpG A Fv σ σ' S S' → Q σ' S'.H) → g vs σ S.H Q
section
variable {X : Cx} {e tg ik : Expr} {tgs : List Expr} {A B M R : List Nat} {gi : TXG} {gsi : TXGs} {i : Nat} {x : Str} {pos p1 apos tpos : Pos} {tx tk : TX}
theorem ga_name (hN : X.N.Nodup) (hi : X.N[i]? = some x) (hx : Loc X.env.scope x) (hf : X.fn x = true ∨ X.env.scope.names.lookup x = some .local := by first | exact .inl rfl | exact .inr rfl | assumption) : GA X (.Name x pos) [i] (gNm i) :=
  ⟨_, pg_name hN hi hx hf, fun v d Fv σ S Q Qt s r tv ow q k => k _ ⟨S.Z, S.H, S.env.set i (some d), putF S.F i Fv⟩ q (s.set i r tv ow) ⟨.refl _ _ _, fun j a h => by
    have h : putF S.F i Fv j a := h
    by_cases e : j = i
    · subst e; rw [putF_same] at h; exact .inr (.inl h)
    · rw [putF_ne e] at h; exact .inl ⟨j, h⟩, fun j n => by
    have e : j ≠ i := by simpa using n
    rw [List.getElem?_set_ne (Ne.symm e)]⟩⟩
theorem gas_nil : GAs X [] [] gsNil := ⟨_, pgs_nil, fun vs ds Fv σ S Q Qt s r tv ow ⟨e, q⟩ k => by
  subst e
  cases r
  exact ⟨rfl, k σ S q s ⟨.refl _ _ _, fun i a h => .inl ⟨i, h⟩, fun _ _ => rfl⟩⟩⟩
theorem gas_cons (h : GA X tg A gi) (h2 : GAs X tgs B gsi) (hsw : (assignEach (tg :: tgs) X.env).map (·.2) = assign tg X.env :: (assignEach tgs X.env).map (·.2) := by rfl) : GAs X (tg :: tgs) (A ++ B) (gsCons gi gsi) := by
  obtain ⟨g, hg, hh⟩ := h
  obtain ⟨g2, hg2, hh2⟩ := h2
  refine ⟨_, pgs_cons hg hg2 hsw, fun vs ds Fv σ S Q Qt s r tv ow ⟨d1, ds', e, q⟩ k => ?_⟩
  subst e
  cases r with
  | cons r1 r2 f1 f2 =>
    rename_i G E v1 ws
    refine ⟨v1, ws, rfl, hh v1 d1 G σ S _ _ s r1 (fun a z => tv a (f1 a z)) (fun a z => ow a (f1 a z)) q fun σ1 S1 q1 s1 st1 => ?_⟩
    have off : ∀ a, E a → ¬ ((∃ i, S.F i a) ∨ G a) := fun a z y => y.elim (fun ⟨i, y⟩ => ow a (f2 a z).1 i y) fun y => (f2 a z).2 y
    refine hh2 ws ds' E σ1 S1 Q _ s1 (r2.ext st1.ext off) (fun a z => ?_) (fun a z i y => ?_) q1 fun σ2 S2 q2 s2 st2 => k σ2 S2 q2 s2 ⟨st1.ext.trans st2.ext (fun _ z => z.imp id (f1 _)) fun c h => ?_, fun i a h => ?_, fun i n => ?_⟩
    · obtain ⟨⟨o, e⟩, hz⟩ := tv a (f2 a z).1
      refine ⟨⟨o, st1.ext.fr a o e (off a z)⟩, ?_⟩
      cases q : S1.Z a with
      | none => rfl
      | some u =>
        rcases st1.ext.nz a u q hz with e' | e'
        · rw [e] at e'; cases e'
        · exact absurd e' (off a z)
    · rcases st1.nf i a y with h | h | h
      · exact off a z (.inl h)
      · exact (f2 a z).2 h
      · obtain ⟨⟨o, e⟩, _⟩ := tv a (f2 a z).1
        rw [e] at h; cases h
    · rcases h with ⟨i, h⟩ | h
      · rcases st1.nf i c h with h | h | h
        · exact .inl (.inl h)
        · exact .inl (.inr (f1 c h))
        · exact .inr h
      · exact .inl (.inr (f2 c h).1)
    · have none_of : S1.H a = none → S.H a = none := fun h => by
        cases q : S.H a with
        | none => rfl
        | some u =>
          obtain ⟨o', e'⟩ := st1.ext.th a u q
          rw [h] at e'; cases e'
      rcases st2.nf i a h with ⟨j, h⟩ | h | h
      · rcases st1.nf j a h with h | h | h
        · exact .inl h
        · exact .inr (.inl (f1 a h))
        · exact .inr (.inr h)
      · exact .inr (.inl (f2 a h).1)
      · exact .inr (.inr (none_of h))
    · exact (st2.sg i fun z => n (List.mem_append_right _ z)).trans (st1.sg i fun z => n (List.mem_append_left _ z))
/-- d[k] as a target, d a name's dict -/
def gPutD (i : Nat) (tk : TX) : TXG := fun d env Q => (∃ d0, env[i]? = some (some d0)) ∧ tk env fun kd env2 => env2 = env ∧ ∃ o r, env[i]? = some (some o) ∧ putX o kd d = some r ∧ Q (env.set i (some r))
theorem ga_dput (hu : X.A.units + 1 < cLine) (hx : PE X (.Name x p1) (tVar i)) (hk : XX X ik [] R tk)
    (ha : ∀ v, assign (.Subscript (.Name x p1) ik apos) X.env v = (do
      let cv1 ← holding [v] (eval (.Name x p1) X.env)
      let kv1 ← holding [v, cv1] (eval ik X.env)
      standAt apos
      holding [v, cv1, kv1] (setItem cv1 kv1 v)
      release [v, cv1, kv1] []) := by intro _; rfl) : GA X (.Subscript (.Name x p1) ik apos) [] (gPutD i tk) := ⟨_, pg_sub hx hk.pe (set_dict hu) ha, fun v d Fv σ S Q Qt s r tv ow ⟨⟨d0, e0⟩, q⟩ k => by
  obtain ⟨v0, h0, r0⟩ := s.sl i _ e0
  refine ⟨v0, h0, S, _, rfl, s, q, fun S1 kv kd Fk ⟨eenv, o, r', e1, hp, q1⟩ s1 st1 v1 => ?_⟩
  have hF : S1.F = S.F := funext fun j => (st1.frm j (by simp)).2
  have x0 : Ext S.Z S.H nF S1.Z S1.H := st1.ext.mono fun _ ⟨_, h, _⟩ => by cases h
  have tv1 : ∀ a, Fv a → (∃ o, S1.H a = some o) ∧ S1.Z a = none := fun a z => by
    obtain ⟨⟨o, e⟩, hz⟩ := tv a z
    refine ⟨⟨o, x0.fr a o e fun z => z⟩, ?_⟩
    cases q : S1.Z a with
    | none => rfl
    | some u =>
      rcases x0.nz a u q hz with e' | e'
      · rw [e] at e'; cases e'
      · exact e'.elim
  have vp : VP X.K [] [] S1 S1 v d Fv ∨ True := .inr trivial
  -- the pair of the value and this state, as a step of a name beyond all names
  obtain ⟨a, H', F', rfl, dp, s3, st3⟩ := put_dict (M := [i]) (S0 := ⟨S1.Z, S1.H, S1.env, fun j a => if j = i then S1.F i a ∨ Fv a else S1.F j a⟩) (y := v) s1
    ⟨.refl _ _ _, fun j hj => ⟨rfl, by
      have : j ≠ i := by simpa using hj
      funext a
      show S1.F j a = (if j = i then _ else _)
      rw [if_neg this]⟩, fun j a hj h => .inl ⟨i, by simp, by
      have : j = i := by simpa using hj
      subst this
      show (if j = j then _ else _)
      rw [if_pos rfl]; exact .inl h⟩⟩ h0 (by rw [eenv]; exact e1) v1.rep
    (Fy := Fv) ⟨r.ext x0 fun _ _ z => z, tv1, fun a z => .inr ⟨fun j y => ow a z j (by rw [← hF]; exact y), .inr ⟨i, by simp, by
      show (if i = i then _ else _)
      rw [if_pos rfl]; exact .inr z⟩⟩⟩ hp
  refine ⟨a, H', rfl, dp, k σ ⟨S1.Z, H', S1.env.set i (some r'), F'⟩ (by rw [eenv]; exact q1) s3 ⟨?_, fun j b h => ?_, fun _ _ => rfl⟩⟩
  · refine x0.trans st3.ext (fun _ z => z.elim) fun c ⟨j, h1, h2⟩ => .inl ?_
    have : j = i := by simpa using h1
    subst this
    have h2 : (if j = j then S1.F j c ∨ Fv c else S1.F j c) := h2
    rw [if_pos rfl] at h2
    exact h2.imp (fun h => ⟨j, by rw [← hF]; exact h⟩) id
  · rcases st3.any h with ⟨l, h⟩ | h
    · have h : (if l = i then S1.F i b ∨ Fv b else S1.F l b) := h
      by_cases e : l = i
      · rw [if_pos e] at h
        rw [← hF]
        exact h.elim (fun h => .inl ⟨i, h⟩) fun h => .inr (.inl h)
      · rw [if_neg e] at h
        exact .inl ⟨l, by rw [← hF]; exact h⟩
    · exact .inr (.inr (st1.none_of h))⟩
/-- (a, ..) = e, e any tuple -/
def gTpl (n : Nat) (g : TXGs) : TXG := fun d env Q => ∃ xs, d = .tup xs ∧ xs.length = n ∧ g xs env Q
theorem ga_tup {k n : Nat} (hc : X.calm = true) (h : GAs X tgs A gsi) (hn : (assignEach tgs X.env).length = n := by rfl) (hst : (assignEach tgs X.env).findIdx? (·.1) = none := by rfl) : GA X (.Tuple tgs k pos) A (gTpl n gsi) := by
  obtain ⟨g, hg, hh⟩ := h
  refine ⟨_, pg_tup hc hg hn hst, fun v d Fv σ S Q Qt s r tv ow ⟨xs, e, hl, q⟩ k => ?_⟩
  subst e
  obtain ⟨a, vs, rfl, h1, _, h2⟩ := r.tup_inv s.zh
  exact ⟨a, vs, rfl, SqT.of h1, by rw [h2.length]; exact hl, hh vs xs Fv σ S Q Qt s h2 tv ow q k⟩
def sAsgT (t : TX) (g : TXG) : TXS := fun D env => t env fun d env1 => g d env1 D.nx
theorem s_asgT (he : XX X e M [] tx) (hg : GA X tg A gi) (hsw : swapsWithSole [tg] e pos.line X.env = pure false := by rfl) (hw : swappedStores [tg] e X.env = pure none := by rfl)
    (h1 : (assignEach [tg] X.env).map (·.2) = [assign tg X.env] := by rfl) : XS X (.Assign [tg] e pos) A (sAsgT tx gi) := by
  obtain ⟨g, hg, hh⟩ := hg
  refine ⟨ps_imp (ps_asg he.pe hg hsw hw h1) fun D σ H ⟨S, Dt, eH, s, q, k, _⟩ => ?_⟩
  subst eH
  refine ⟨S, _, rfl, s, q, fun S1 v d Fv q1 s1 st1 v1 => ?_⟩
  have w := v1.s
  refine hh v d Fv σ S1 _ _ s1 w.rep w.tv (fun a z => (w.ow a z).1) q1 fun σ2 S2 q2 s2 st2 => k σ2 S2 q2 s2 ⟨?_, fun i a h => ?_, st2.sg⟩
  · have x1 := (st1.s (A := []) (σ := σ))
    exact x1.ext.trans st2.ext (fun _ z => z) fun c z => z.elim (fun ⟨i, h⟩ => x1.nf i c h) fun z => (w.ow c z).2.symm
  · rcases st2.nf i a h with ⟨j, h⟩ | h | h
    · exact st1.any h
    · exact (w.ow a h).2.symm
    · exact .inr (st1.none_of h)
/-- a, b, c = x, y, z -/
def sPar3 (i j l : Nat) (t : TXA) : TXS := fun D env => t env fun ds env1 => ∃ d e f, ds = [d, e, f] ∧ D.nx (((env1.set i (some d)).set j (some e)).set l (some f))
theorem s_par3 {i j l : Nat} {x y z : Str} {a b c : Expr} {px py pz pt : Pos} {kt k2 pt2} {u : TXA} (hc : X.calm = true) (hN : X.N.Nodup) (hi : X.N[i]? = some x) (hj : X.N[j]? = some y) (hl : X.N[l]? = some z) (hij : i ≠ j) (hil : i ≠ l) (hjl : j ≠ l)
    (hx : X.env.scope.names.lookup x = some .local) (hy : X.env.scope.names.lookup y = some .local) (hz : X.env.scope.names.lookup z = some .local) (ha : XL X [a, b, c] M u)
    (hw : swappedStores [.Tuple [.Name x px, .Name y py, .Name z pz] kt pt] (.Tuple [a, b, c] k2 pt2) X.env = pure (some [x, y, z]) := by rfl)
    (hsw : swapsWithSole [.Tuple [.Name x px, .Name y py, .Name z pz] kt pt] (.Tuple [a, b, c] k2 pt2) pos.line X.env = pure false := by rfl) :
    XS X (.Assign [.Tuple [.Name x px, .Name y py, .Name z pz] kt pt] (.Tuple [a, b, c] k2 pt2) pos) [i, j, l] (sPar3 i j l u) := ⟨ps_imp (ps_par3 hc hN hi hj hl hij hil hjl hx hy hz ha.pa hw hsw) fun D σ H ⟨S, Dt, eH, s, q, k, _⟩ => by
  subst eH
  refine ⟨S, _, rfl, s, q, fun S1 vs ds Fs ⟨d, e, f, ed, q1⟩ _ s1 st1 v1 => ?_⟩
  subst ed
  obtain ⟨v, w, y, rfl, G, E, L, r1, r2, r3, g1, g2, g3⟩ : ∃ v w y, vs = [v, w, y] ∧ ∃ G E L : AS, Rep X.K S1.Z S1.H v d G ∧ Rep X.K S1.Z S1.H w e E ∧ Rep X.K S1.Z S1.H y f L ∧ (∀ a, G a → Fs a) ∧ (∀ a, E a → Fs a ∧ ¬ G a) ∧ ∀ a, L a → Fs a ∧ ¬ G a ∧ ¬ E a := by
    cases v1.rep with
    | cons r t f g =>
      cases t with
      | cons r' t' f' g' =>
        cases t' with
        | cons r'' t'' f'' g'' =>
          cases t''
          exact ⟨_, _, _, rfl, _, _, _, r, r', r'', f, fun a z => g a (f' a z), fun a z => ⟨(g a (g' a (f'' a z)).1).1, (g a (g' a (f'' a z)).1).2, (g' a (f'' a z)).2⟩⟩
  refine ⟨v, w, y, rfl, ?_⟩
  have s2 := s1.set i r1 (fun a z => v1.tv a (g1 a z)) fun a z => (v1.ow a (g1 a z)).1
  have s3 := s2.set j r2 (fun a z => v1.tv a (g2 a z).1) fun a z k => by
    show ¬ putF S1.F i G k a
    by_cases hk : k = i
    · subst hk; rw [putF_same]; exact (g2 a z).2
    · rw [putF_ne hk]; exact (v1.ow a (g2 a z).1).1 k
  have s4 := s3.set l r3 (fun a z => v1.tv a (g3 a z).1) fun a z k => by
    show ¬ putF (putF S1.F i G) j E k a
    by_cases hk : k = j
    · subst hk; rw [putF_same]; exact (g3 a z).2.2
    · rw [putF_ne hk]
      by_cases hk2 : k = i
      · subst hk2; rw [putF_same]; exact (g3 a z).2.1
      · rw [putF_ne hk2]; exact (v1.ow a (g3 a z).1).1 k
  have ow : ∀ a, Fs a → S.H a = none ∨ ∃ i, S.F i a := fun a z => (v1.ow a z).2.imp id fun ⟨i, _, h⟩ => ⟨i, h⟩
  refine k _ ⟨S1.Z, S1.H, ((S1.env.set i (some d)).set j (some e)).set l (some f), putF (putF (putF S1.F i G) j E) l L⟩ q1 s4 ⟨(st1.s (A := []) (σ := σ)).ext, fun k a h => ?_, fun k n => ?_⟩
  · have h : putF (putF (putF S1.F i G) j E) l L k a := h
    by_cases hk0 : k = l
    · subst hk0; rw [putF_same] at h; exact (ow a (g3 a h).1).symm
    rw [putF_ne hk0] at h
    by_cases hk : k = j
    · subst hk; rw [putF_same] at h; exact (ow a (g2 a h).1).symm
    · rw [putF_ne hk] at h
      by_cases hk2 : k = i
      · subst hk2; rw [putF_same] at h; exact (ow a (g1 a h)).symm
      · rw [putF_ne hk2] at h; exact st1.any h
  · have n1 : k ≠ i := fun z => n (by simp [z])
    have n2 : k ≠ j := fun z => n (by simp [z])
    have n3 : k ≠ l := fun z => n (by simp [z])
    rw [List.getElem?_set_ne (Ne.symm n3), List.getElem?_set_ne (Ne.symm n2), List.getElem?_set_ne (Ne.symm n1)]⟩
end
end TT

/-! T14: enumerate, zip; defs by names; the law's end -/
namespace TT
open PySem PySem.Spec PyProof.Rows L2
section
variable {X : Cx} {e e2 : Expr} {es elts : List Expr} {M Ma Mb R Ra Rb : List Nat} {tx : TX} {pos p tpos : Pos} {kk0 : Nat}
def enumL (k : Int) : List D → List D
  | [] => []
  | d :: r => .tup [.int k, d] :: enumL (k + 1) r
theorem enumL_at : ∀ {xs : List D} {k : Int} {i : Nat} {d : D}, (enumL k xs)[i]? = some d → ∃ x, xs[i]? = some x ∧ d = .tup [.int (k + (i : Nat)), x]
  | [], _, i, _, h => by simp [enumL] at h
  | x :: xs, k, 0, d, h => by
    refine ⟨x, rfl, ?_⟩
    have : d = .tup [.int k, x] := by simpa [enumL] using h.symm
    rw [this]; simp
  | x :: xs, k, i + 1, d, h => by
    obtain ⟨y, h1, h2⟩ := enumL_at (xs := xs) (k := k + 1) (i := i) (by simpa [enumL] using h)
    refine ⟨y, by simpa using h1, ?_⟩
    rw [h2]
    have : k + 1 + (i : Int) = k + ((i + 1 : Nat) : Int) := by omega
    rw [this]
theorem enumL_length : ∀ (xs : List D) (k : Int), (enumL k xs).length = xs.length
  | [], _ => rfl
  | x :: xs, k => congrArg (· + 1) (enumL_length xs (k + 1))
def iEn (t : TX) : TXI := fun env Q => t env fun d env1 => ∃ xs, lstItems d = some xs ∧ Q (enumL 0 (frzL xs)) env1
/-- a list that stands frozen -/
theorem frozen_list {K : PySem.W.Frag} {Z H : Hp} {v : V} {d : D} {xs : List D} (r : Rep K Z H v d.frz nF) (e : lstItems d = some xs) : ∃ a vs, v = .ref a ∧ RepL K Z H vs (frzL xs) nF ∧ ∀ Z' H' : Hp, (∀ a o, Z a = some o → Z' a = some o) → (∀ a o, Z' a = some o → H' a = some o) → SqL K H' a vs := by
  cases d with
  | lst o ys =>
    cases e
    rw [D.frz] at r
    cases r with
    | lstF h1 h2 => exact ⟨_, _, rfl, h2, fun Z' H' g1 g2 => .inl (Rd.sub g2 (Rd.sub g1 h1))⟩
  | kst ys =>
    cases e
    rw [D.frz] at r
    cases r with
    | kst h1 h2 => exact ⟨_, _, rfl, h2, fun Z' H' g1 g2 => SqL.sub g2 (SqL.sub g1 h1)⟩
  | _ => cases e
theorem xi_enum (hg : Gl X "enumerate") (hm : X.mg "enumerate" = none) (h : XX X e M [] tx) (hs : starEach [e] X.env = (false, eval e X.env) :: starEach [] X.env := by rfl) : XI X (.Tuple elts kk0 tpos) (.Call (.Name "enumerate" p) [e] [] pos) M (iEn tx) :=
  ⟨pi_imp (pi_enum hg hm (pa_cons h.pe pa_nil hs) hs) fun σ H Q ⟨S, Qt, eH, s, q, k⟩ => by
  subst eH
  refine ⟨S, _, rfl, s, q, fun S1 v d Fv ⟨xs, ex, q1⟩ s1 st1 v1 => ?_⟩
  obtain ⟨s2, st2, rep⟩ := v1.freeze s1 st1
  obtain ⟨a, vs, rfl, hr, hq⟩ := frozen_list (rep nF) ex
  refine ⟨a, vs, rfl, hq _ _ (fun _ _ h => h) s2.zh, k ⟨frzZ S1.Z S1.H Fv, S1.H, S1.env, S1.F⟩ (enumL 0 (frzL xs)) _ q1 s2 st2 ⟨fun i Z H g1 g2 hi => ?_, fun i Z H g1 g2 hi => ?_, fun i Z H x H' g1 g2 ⟨T, y, e1, hT, e2, hy⟩ d hd => ?_⟩⟩
  · rw [enumL_length] at hi
    have hlt : i < vs.length := by rw [hr.length]; exact hi
    exact ⟨vs, _, hq Z H g1 g2, List.getElem?_eq_getElem hlt⟩
  · rw [enumL_length] at hi
    exact ⟨vs, hq Z H g1 g2, by rw [hr.length]; exact hi⟩
  · subst e1 e2
    obtain ⟨x, hx, rfl⟩ := enumL_at hd
    obtain ⟨w, hw, rw'⟩ := hr.get hx
    have ey := hy vs (hq Z H g1 g2)
    rw [hw] at ey
    obtain rfl : w = y := Option.some.inj ey
    obtain ⟨x2, zh2⟩ := ext_newZ (o := .tup [.int (i : Nat), w]) g2 hT
    have e0 : (0 : Int) + (i : Nat) = (i : Nat) := by omega
    rw [e0]
    have r2 : Rep X.K (upd Z T (.tup [.int (i : Nat), w])) (upd H T (.tup [.int (i : Nat), w])) w x nF := (rw'.keep (H' := H) g1 fun _ _ z => z.elim).ext x2 fun _ z => z.elim
    exact ⟨_, x2, zh2, .tup upd_same (.cons (G := nF) (E := nF) (.int _) (.cons (G := nF) (E := nF) r2 .nil (fun _ z => z.elim) fun _ z => z.elim) (fun _ z => z.elim) fun _ z => z.elim)⟩⟩
def zipL : List D → List D → List D
  | a :: r, b :: s => .tup [a, b] :: zipL r s
  | _, _ => []
theorem zipL_length : ∀ xs ys : List D, (zipL xs ys).length = min xs.length ys.length
  | [], _ => by simp [zipL]
  | _ :: _, [] => by simp [zipL]
  | a :: r, b :: s => by simp only [zipL, List.length_cons, zipL_length r s]; omega
theorem zipL_at : ∀ {xs ys : List D} {i : Nat} {d : D}, (zipL xs ys)[i]? = some d → ∃ x y, xs[i]? = some x ∧ ys[i]? = some y ∧ d = .tup [x, y]
  | [], _, i, _, h => by simp [zipL] at h
  | _ :: _, [], i, _, h => by simp [zipL] at h
  | a :: r, b :: s, 0, d, h => ⟨a, b, rfl, rfl, by simpa [zipL] using h.symm⟩
  | a :: r, b :: s, i + 1, d, h => by
    obtain ⟨x, y, h1, h2, h3⟩ := zipL_at (xs := r) (ys := s) (i := i) (by simpa [zipL] using h)
    exact ⟨x, y, by simpa using h1, by simpa using h2, h3⟩
end

/-! ### defs by their names -/
/-- the def named x stands and keeps its promise -/
def FnAt (P : Program) (w : World) (K : PySem.W.Frag) (mg : Str → Option Value) (base : Heap) (x : Str) (k : Nat) (ps : List Str) (sp : TX) : Prop :=
  ∃ f fd, FnOk P w K mg base CX0 k f fd ps (liftSp K ps.length sp) ∧ mg x = some (.ref f) ∧ PySem.W.keepIn K (.ref f) = true ∧ Binds K fd ps []
/-- .. called with keywords ks behind n others -/
def FnAtK (P : Program) (w : World) (K : PySem.W.Frag) (mg : Str → Option Value) (base : Heap) (x : Str) (k : Nat) (ps : List Str) (n : Nat) (ks : List Str) (sp : TX) : Prop :=
  ∃ f fd, FnOk P w K mg base CX0 k f fd ps (liftSp K ps.length sp) ∧ mg x = some (.ref f) ∧ PySem.W.keepIn K (.ref f) = true ∧ KBn K fd ps n ks (fun us ws => us ++ ws) (fun vs zs => vs ++ zs)
section
variable {X : Cx} {ps ks : List Str} {kk : Nat} {sp : TX} {u u2 : TXC} {e : Expr} {es : List Expr} {M R I M2 R2' I2 : List Nat} {x : Str} {p pos : Pos} {kws : List Keyword}
theorem x_fn (bor : Bool) (F : FnAt X.prog X.w X.K X.mg X.base x kk ps sp) (hr : Room kk X.A) (hg : Gl X x)
    (ha : XC X (e :: es) M R I u) (nd : I.Nodup := by decide) (dj : Dj R I = true := by rfl) (hbor : bor = true ∨ R = [] := by first | exact .inl rfl | exact .inr rfl)
    (hdbg : (x == ("__debug__" : Str)) = false := by decide) (he : starEach (e :: es) X.env = (false, eval e X.env) :: starEach es X.env := by rfl) (hpln : (backTo pos (starEach es X.env)).any (·.1) = false := by rfl) :
    XX X (.Call (.Name x p) (e :: es) [] pos) (M ++ I) [] (oFn sp ps.length bor u) := by
  obtain ⟨f, fd, h1, h2, h3, h4⟩ := F
  exact x_call bor h1 hr hg h2 h3 h4 ha nd dj hbor hdbg he hpln
def oFnK (sp : TX) (n m : Nat) (bor : Bool) (u u2 : TXC) : TX := fun env Q => u env fun as env1 => as.length = n ∧ u2 env1 fun bs env2 => bs.length = m ∧ sp (given env2 (as ++ bs)) fun r fe => (bor = true → r.nf = true ∧ nfE fe = true) ∧ Q r (taken env2 (as ++ bs) fe)
theorem x_fnK (bor : Bool) {n : Nat} (F : FnAtK X.prog X.w X.K X.mg X.base x kk ps n ks sp) (hr : Room kk X.A) (hg : Gl X x) (hps : ps.length = n + ks.length := by rfl)
    (ha : XC X (e :: es) M R I u) (hkw : XK X kws M2 R2' I2 u2) (hn : (e :: es).length = n := by rfl) (hn2 : kws.length = ks.length := by rfl) (d0 : Dj R M2 = true := by rfl) (nd : (I ++ I2).Nodup := by decide) (dj : Dj (R ++ R2') (I ++ I2) = true := by rfl) (hbor : bor = true ∨ R ++ R2' = [] := by first | exact .inl rfl | exact .inr rfl)
    (hall : (backToKw pos (keywordEach kws X.env)).all (·.1.isSome) = true := by rfl) (hks : (backToKw pos (keywordEach kws X.env)).filterMap (·.1) = ks := by rfl)
    (hdbg : (x == ("__debug__" : Str)) = false := by decide) (he : starEach (e :: es) X.env = (false, eval e X.env) :: starEach es X.env := by rfl)
    (hpln : ((backTo pos (starEach (e :: es) X.env)).any (·.1) || (backToKw pos (keywordEach kws X.env)).any (·.1.isNone)) = false := by rfl) :
    XX X (.Call (.Name x p) (e :: es) kws pos) (M ++ M2 ++ (I ++ I2)) [] (oFnK sp n ks.length bor u u2) := by
  obtain ⟨f, fd, h1, h2, h3, h4⟩ := F
  exact x_callK bor h1 hr hg h2 h3 h4 hps ha hkw hn hn2 d0 nd dj hbor hall hks hdbg he hpln
end
/-- the law's promise: of a script it hands back True -/
def spLaw : TX := fun env Q => ∃ ns : List Int, env = [some (.kst (ns.map D.int))] ∧ ns.length ≤ 63 ∧ ∀ fe, Q (.bl true) fe
theorem law_sp {K : PySem.W.Frag} {H : Hp} {a : Addr} {ns : List Int} (hl : ns.length ≤ 63) (ho : Only H) (hs : SqL K H a (ns.map V.int)) : liftSp K 1 spLaw [.ref a] H (fun v _ => v = .bl true) (fun _ _ _ => False) := by
  refine ⟨rfl, ⟨H, H, [some (.kst (ns.map D.int))], fun _ => nF⟩, fun d _ => d = .bl true, rfl, ⟨fun _ _ h => h, fun i d e => ?_, fun i j b z => z.elim, fun i b z => z.elim, rfl⟩, ⟨ns, rfl, hl, fun _ => rfl⟩, fun S' v d Fv q _ _ v1 => ?_⟩
  · cases i with
    | zero =>
      cases e
      exact ⟨.ref a, rfl, .kst hs (.of_ints ns)⟩
    | succ i => cases e
  · subst q
    exact v1.rep.bl_inv
end TT

/-! T15: small helps -/
namespace TT
open PySem PySem.Spec PyProof.Rows L2
theorem hu65 {k : Nat} {A : Around} (h : Room k A) : A.units + 65 < cLine := by have := h.un; omega
abbrev VC (io : List Nat) (N ps : List Str) (sp : TX) (tb : TXS) : Prop := ∀ (env : Env) (Qt : D → Env → Prop), env.length = ps.length → sp env Qt → tb { nx := fun e => Qt .non (fin io ps.length e), rt := fun r e => Qt r (fin io ps.length e) } (begin N ps env)
section
variable {X : Cx} {a b c : Expr} {t : TXT} {ta tb : TX} {M Ma Mb : List Nat} {pos : Pos}
theorem x_if0 (hc : XT X c M t) (ha : XX X a Ma [] ta) (hb : XX X b Mb [] tb) : XX X (.IfExp c a b pos) (M ++ (Ma ++ Mb)) [] (oIf t ta tb) := x_if hc ha hb
theorem x_orT0 {rest : List Expr} (ha : XX X a Ma [] ta) (hb : XX X (.BoolOp .Or (b :: rest) pos) Mb [] tb) : XX X (.BoolOp .Or (a :: b :: rest) pos) (Ma ++ Mb) [] (oOrT ta tb) := x_orT ha hb
theorem x_andT0 {rest : List Expr} (ha : XX X a Ma [] ta) (hb : XX X (.BoolOp .And (b :: rest) pos) Mb [] tb) : XX X (.BoolOp .And (a :: b :: rest) pos) (Ma ++ Mb) [] (oAndT ta tb) := x_andT ha hb
end
section
variable {fd : FuncData} {f : Addr} {K : PySem.W.Frag} {ps : List Str} {kws : List (Str × V)} {scope : Scope} {x qual : Str} {body : List Stmt} {params : Arguments}
/-- all parameters written, some by keyword, though there are keyword defaults -/
theorem kw_binds (F : FunD K x qual params body scope [] kws f fd) (n : Nat) (ks : List Str) (hk : kws ≠ [])
    (h : ∀ (kv doc pm : Value) (an : Option Addr) (cdv ct : Value) (us ws : List Value), us.length = n → ws.length = ks.length → bindArgs (PySem.W.fnOf x qual params body scope .none kv doc pm an cdv ct) ⟨us, ks.zip ws⟩ = pure (ps.zip (us ++ ws))) :
    KBn K fd ps n ks (fun us ws => us ++ ws) (fun vs zs => vs ++ zs) := by
  obtain ⟨mv, q⟩ := FunD.kbinds0 F n ks [] (fun a _ b => a ++ b) hk (fun _ z => by cases z) (fun r1 _ r2 => r1.append r2) fun D doc pm an cdv ct us mv ws l1 l2 l3 => h (.ref D) doc pm an cdv ct us ws l1 l3
  exact q
end
end TT

/-! T16: readings as plain propositions; loops by invariants -/
namespace TT
open PySem PySem.Spec PyProof.Rows L2
section frz
@[simp] theorem frz_non : D.non.frz = .non := by rw [D.frz]
@[simp] theorem frz_bl (b) : (D.bl b).frz = .bl b := by rw [D.frz]
@[simp] theorem frz_int (b) : (D.int b).frz = .int b := by rw [D.frz]
@[simp] theorem frz_str (b) : (D.str b).frz = .str b := by rw [D.frz]
@[simp] theorem frz_tup (xs) : (D.tup xs).frz = .tup (xs.map D.frz) := by rw [D.frz, frzL_map]
@[simp] theorem frz_lst (o xs) : (D.lst o xs).frz = .lst false (xs.map D.frz) := by rw [D.frz, frzL_map]
@[simp] theorem frz_kst (xs) : (D.kst xs).frz = .kst (xs.map D.frz) := by rw [D.frz, frzL_map]
@[simp] theorem frz_dct (o kvs) : (D.dct o kvs).frz = .dct false (kvs.map fun p => (p.1, p.2.frz)) := by rw [D.frz, frzK_map]
@[simp] theorem frz_dtt (o kvs) : (D.dtt o kvs).frz = .dtt false (kvs.map fun p => (p.1, p.2.frz)) := by rw [D.frz, frzT_map]
@[simp] theorem map_frz_int : ∀ ns : List Int, (ns.map D.int).map D.frz = ns.map D.int
  | [] => rfl
  | n :: r => by rw [List.map_cons, List.map_cons, map_frz_int r, frz_int]
@[simp] theorem comp_frz_int : D.frz ∘ D.int = D.int := funext frz_int
@[simp] theorem comp_frz_bl : D.frz ∘ D.bl = D.bl := funext frz_bl
theorem rgD_map (lo : Int) (n : Nat) : rgD lo n = ((List.range n).map fun i => lo + (i : Nat)).map D.int := by unfold rgD; rw [List.map_map]; rfl
@[simp] theorem frz_rgD (lo : Int) (n : Nat) : (rgD lo n).map D.frz = rgD lo n := by rw [rgD_map, map_frz_int]
/-- rows of ints, as tuples -/
def rowD (r : List Int) : D := .tup (r.map D.int)
@[simp] theorem frz_rowD (r : List Int) : (rowD r).frz = rowD r := by unfold rowD; rw [frz_tup, map_frz_int]
@[simp] theorem comp_frz_rowD : D.frz ∘ rowD = rowD := funext frz_rowD
@[simp] theorem map_frz_rowD (rs : List (List Int)) : (rs.map rowD).map D.frz = rs.map rowD := by rw [List.map_map, comp_frz_rowD]
end frz
section nf
@[simp] theorem nf_non : D.non.nf = true := by rw [D.nf] <;> intros <;> contradiction
@[simp] theorem nf_bl (b) : (D.bl b).nf = true := by rw [D.nf] <;> intros <;> contradiction
@[simp] theorem nf_int (b) : (D.int b).nf = true := by rw [D.nf] <;> intros <;> contradiction
@[simp] theorem nf_str (b) : (D.str b).nf = true := by rw [D.nf] <;> intros <;> contradiction
@[simp] theorem nf_tup (xs) : (D.tup xs).nf = xs.all D.nf := by rw [D.nf, nfL_all]
@[simp] theorem nf_lst (o xs) : (D.lst o xs).nf = (o && xs.all D.nf) := by rw [D.nf, nfL_all]
@[simp] theorem all_nf_int (ns : List Int) : (ns.map D.int).all D.nf = true := by simp
@[simp] theorem nf_rowD (r : List Int) : (rowD r).nf = true := by unfold rowD; simp
@[simp] theorem nfE_nil : nfE [] = true := rfl
@[simp] theorem nfE_none (e : Env) : nfE (none :: e) = nfE e := rfl
@[simp] theorem nfE_some (d : D) (e : Env) : nfE (some d :: e) = (d.nf && nfE e) := rfl
end nf
def blQ (d : D) (P : Bool → Prop) : Prop := ∃ b, d = .bl b ∧ P b
@[simp] theorem blQ_bl (b : Bool) (P : Bool → Prop) : blQ (.bl b) P = P b := by
  refine propext ⟨?_, fun h => ⟨b, rfl, h⟩⟩
  rintro ⟨c, h, p⟩
  cases h
  exact p
def int2Q (ds : List D) (P : Int → Int → Prop) : Prop := ∃ i j, ds = [.int i, .int j] ∧ P i j
@[simp] theorem int2Q_eq (i j : Int) (P : Int → Int → Prop) : int2Q [.int i, .int j] P = P i j := by
  refine propext ⟨?_, fun h => ⟨i, j, rfl, h⟩⟩
  rintro ⟨a, b, h, p⟩
  cases h
  exact p
def two_ (ds : List D) (P : D → D → Prop) : Prop := ∃ i j, ds = [i, j] ∧ P i j
@[simp] theorem two_eq (i j : D) (P : D → D → Prop) : two_ [i, j] P = P i j := by
  refine propext ⟨?_, fun h => ⟨i, j, rfl, h⟩⟩
  rintro ⟨a, b, h, p⟩
  cases h
  exact p
def three_ (ds : List D) (P : D → D → D → Prop) : Prop := ∃ i j k, ds = [i, j, k] ∧ P i j k
@[simp] theorem three_eq (i j k : D) (P : D → D → D → Prop) : three_ [i, j, k] P = P i j k := by
  refine propext ⟨?_, fun h => ⟨i, j, k, rfl, h⟩⟩
  rintro ⟨a, b, c, h, p⟩
  cases h
  exact p
def cons_ (ds : List D) (P : D → List D → Prop) : Prop := ∃ i j, ds = i :: j ∧ P i j
@[simp] theorem cons_eq (i : D) (j : List D) (P : D → List D → Prop) : cons_ (i :: j) P = P i j := by
  refine propext ⟨?_, fun h => ⟨i, j, rfl, h⟩⟩
  rintro ⟨a, b, h, p⟩
  cases h
  exact p
def truQ (d : D) (P : Bool → Prop) : Prop := ∃ k, truD d = some k ∧ P k
theorem truQ_of {d : D} {b : Bool} (h : truD d = some b) (P : Bool → Prop) : truQ d P = P b := by
  refine propext ⟨?_, fun p => ⟨b, h, p⟩⟩
  rintro ⟨c, e, p⟩
  rw [h] at e
  cases e
  exact p
@[simp] theorem truQ_bl (b : Bool) (P : Bool → Prop) : truQ (.bl b) P = P b := truQ_of rfl P
@[simp] theorem truQ_int (i : Int) (P : Bool → Prop) : truQ (.int i) P = P (i != 0) := truQ_of rfl P
@[simp] theorem truQ_lst (o : Bool) (xs : List D) (P : Bool → Prop) : truQ (.lst o xs) P = P (!xs.isEmpty) := truQ_of rfl P
@[simp] theorem truQ_kst (xs : List D) (P : Bool → Prop) : truQ (.kst xs) P = P (!xs.isEmpty) := truQ_of rfl P
@[simp] theorem truQ_tup (xs : List D) (P : Bool → Prop) : truQ (.tup xs) P = P (!xs.isEmpty) := truQ_of rfl P
@[simp] theorem truQ_non (P : Bool → Prop) : truQ .non P = P false := truQ_of rfl P
def isLst : D → Bool
  | .lst _ _ => true
  | _ => false
@[simp] theorem isLst_lst (o : Bool) (xs : List D) : isLst (.lst o xs) = true := rfl
section read
variable {env : Env} {Q : D → Env → Prop} {D0 : TEnds} {i j n : Nat} {ta tb tc : TX} {rt rt' : D → D → (D → Prop) → Prop} {c c' : TXT} {u u2 : TXA} {cu cu2 : TXC} {QA : List D → Env → Prop} {QB : Bool → Env → Prop} {QP : D → Prop}
@[simp ↓] theorem r_vImm : vImm i env Q = ∃ d, env[i]? = some (some d) ∧ d.frz = d ∧ Q d env := rfl
@[simp ↓] theorem r_vView : vView i env Q = ∃ d, env[i]? = some (some d) ∧ Q d env := rfl
@[simp ↓] theorem r_vFrz : vFrz i env Q = ∃ d, env[i]? = some (some d) ∧ Q d.frz (env.set i (some d.frz)) := rfl
@[simp ↓] theorem r_vMove : vMove i env Q = ∃ d, env[i]? = some (some d) ∧ Q d (env.set i none) := rfl
@[simp ↓] theorem r_cD {d : D} : cD d env Q = Q d env := rfl
@[simp ↓] theorem r_oOp : oOp rt ta tb env Q = ta env fun d env1 => tb env1 fun e env2 => rt d e fun r => Q r env2 := rfl
@[simp ↓] theorem r_oUn {ut : D → (D → Prop) → Prop} : oUn ut ta env Q = ta env fun d env1 => ut d fun r => Q r env1 := rfl
@[simp ↓] theorem r_tBl : tBl ta env QB = ta env fun d env1 => blQ d fun b => QB b env1 := rfl
@[simp ↓] theorem r_tNotT : tNotT c env QB = c env fun b env1 => QB (!b) env1 := rfl
@[simp ↓] theorem r_tAndT : tAndT c c' env QB = c env fun b env1 => if b = true then c' env1 QB else QB false env1 := rfl
@[simp ↓] theorem r_tOrT : tOrT c c' env QB = c env fun b env1 => if b = true then QB true env1 else c' env1 QB := rfl
@[simp ↓] theorem r_oAnd : oAnd ta tb env Q = ta env fun x env1 => blQ x fun c => if c = true then tb env1 Q else Q (.bl false) env1 := rfl
@[simp ↓] theorem r_oOr : oOr ta tb env Q = ta env fun x env1 => blQ x fun c => if c = true then Q (.bl true) env1 else tb env1 Q := rfl
@[simp ↓] theorem r_oOrT : oOrT ta tb env Q = ta env fun x env1 => truQ x fun k => if k = true then Q x env1 else tb env1 Q := rfl
@[simp ↓] theorem r_oAndT : oAndT ta tb env Q = ta env fun x env1 => truQ x fun k => if k = true then tb env1 Q else Q x env1 := rfl
@[simp ↓] theorem r_tTru : tTru ta env QB = ta env fun x env1 => truQ x fun k => QB k env1 := rfl
@[simp ↓] theorem r_oNot : oNot ta env Q = ta env fun x env1 => blQ x fun c => Q (.bl (!c)) env1 := rfl
@[simp ↓] theorem r_oIf : oIf c ta tb env Q = c env fun b env1 => if b = true then ta env1 Q else tb env1 Q := rfl
@[simp ↓] theorem r_oChain : oChain rt rt' ta tb tc env Q = ta env fun x env1 => tb env1 fun y env2 => rt x y fun z => blQ z fun k => if k = true then tc env2 fun w env3 => rt' y w fun z' => Q z' env3 else Q (.bl false) env2 := rfl
@[simp ↓] theorem r_oImm : oImm ta env Q = ta env fun d env1 => d.frz = d ∧ Q d env1 := rfl
@[simp ↓] theorem r_aNil : aNil env QA = QA [] env := rfl
@[simp ↓] theorem r_aCons : aCons ta u env QA = ta env fun d env1 => u env1 fun ds env2 => QA (d :: ds) env2 := rfl
@[simp ↓] theorem r_oLst : oLst u env Q = u env fun ds env1 => Q (.lst true ds) env1 := rfl
@[simp ↓] theorem r_oTup : oTup u env Q = u env fun ds env1 => Q (.tup ds) env1 := rfl
@[simp ↓] theorem r_oCall {rt : List D → (D → Prop) → Prop} : oCall rt u env Q = u env fun ds env1 => rt ds fun r => Q r env1 := rfl
@[simp ↓] theorem r_oIx : oIx ta tb env Q = ta env fun d env1 => tb env1 fun k env2 => ∃ r, getIx d k = some r ∧ Q r env2 := rfl
@[simp ↓] theorem r_oDGet : oDGet ta tb env Q = ta env fun d env1 => tb env1 fun k env2 => ∃ r, dget d k = some (some r) ∧ Q r env2 := rfl
@[simp ↓] theorem r_sNext : sNext D0 env = D0.nx env := rfl
@[simp ↓] theorem r_sSeq {t v : TXS} : sSeq t v D0 env = t { D0 with nx := v D0 } env := rfl
@[simp ↓] theorem r_sSet : sSet i ta D0 env = ta env fun d env1 => D0.nx (env1.set i (some d)) := rfl
@[simp ↓] theorem r_sRet : sRet ta D0 env = ta env fun d env1 => D0.rt d env1 := rfl
@[simp ↓] theorem r_sRetN : sRetN D0 env = D0.rt .non env := rfl
@[simp ↓] theorem r_sExpr : sExpr ta D0 env = ta env fun _ env1 => D0.nx env1 := rfl
@[simp ↓] theorem r_sIf {t v : TXS} : sIf c t v D0 env = c env fun b env1 => if b = true then t D0 env1 else v D0 env1 := rfl
@[simp ↓] theorem r_sAug : sAug i ta rt D0 env = ∃ d0, env[i]? = some (some d0) ∧ d0.frz = d0 ∧ ta env fun d env1 => rt d0 d fun r => D0.nx (env1.set i (some r)) := rfl
@[simp ↓] theorem r_oFn {sp : TX} {b : Bool} : oFn sp n b cu env Q = cu env fun as env1 => as.length = n ∧ sp (given env1 as) fun r fe => (b = true → r.nf = true ∧ nfE fe = true) ∧ Q r (taken env1 as fe) := rfl
@[simp ↓] theorem r_cNil {QC : List Arg → Env → Prop} : cNil env QC = QC [] env := rfl
@[simp ↓] theorem r_cVal {QC : List Arg → Env → Prop} : cVal ta cu env QC = ta env fun d env1 => cu env1 fun as env2 => QC (.inl d :: as) env2 := rfl
@[simp ↓] theorem r_cIo {QC : List Arg → Env → Prop} : cIo i cu env QC = ((∃ d, env[i]? = some (some d)) ∧ cu env fun as env2 => QC (.inr i :: as) env2) := rfl
@[simp ↓] theorem r_oFnK {sp : TX} {m : Nat} {b : Bool} : oFnK sp n m b cu cu2 env Q = cu env fun as env1 => as.length = n ∧ cu2 env1 fun bs env2 => bs.length = m ∧ sp (given env2 (as ++ bs)) fun r fe => (b = true → r.nf = true ∧ nfE fe = true) ∧ Q r (taken env2 (as ++ bs) fe) := rfl
@[simp] theorem g_nil : given env [] = [] := rfl
@[simp] theorem g_inl {d : D} {as : List Arg} : given env (.inl d :: as) = some d.frz :: given env as := rfl
@[simp] theorem g_inr {as : List Arg} : given env (.inr i :: as) = (env[i]?).join :: given env as := rfl
@[simp] theorem t_nil {fe : Env} : taken env [] fe = env := by cases fe <;> rfl
theorem t_emp {as : List Arg} : taken env as [] = env := by
  match as with
  | [] => rfl
  | .inl _ :: _ => rfl
  | .inr _ :: _ => rfl
@[simp] theorem t_inl {d : D} {as : List Arg} {fe : Env} : taken env (.inl d :: as) fe = taken env as fe.tail := by
  cases fe with
  | nil => rw [List.tail_nil, t_emp, t_emp]
  | cons o r => rfl
@[simp] theorem t_inr {as : List Arg} {o} {fe : Env} : taken env (.inr i :: as) (o :: fe) = taken (env.set i o) as fe := rfl
@[simp] theorem r_rI2 {C : Int → Int → Prop} {g : Int → Int → D} {x y : D} : rI2 C g x y QP = ∃ i j, x = .int i ∧ y = .int j ∧ C i j ∧ QP (g i j) := rfl
@[simp] theorem r_rI2' {g : Int → Int → D} {x y : D} : rI2' g x y QP = ∃ i j, x = .int i ∧ y = .int j ∧ QP (g i j) := rfl
@[simp] theorem r_rU1 {g : Int → D} {x : D} : rU1 g x QP = ∃ i, x = .int i ∧ QP (g i) := rfl
theorem r_rEqT {neg : Bool} {x y : D} : rEqT neg x y QP = (cmpD x = true ∧ cmpD y = true ∧ QP (.bl (if neg then !PyData.eqv x.py y.py else PyData.eqv x.py y.py))) := rfl
theorem r_rInT {neg : Bool} {x y : D} : rInT neg x y QP = ∃ xs, itemsD y = some xs ∧ cmpD x = true ∧ cmpD y = true ∧ QP (.bl (if neg then !xs.any fun z => PyData.eqv z.py x.py else xs.any fun z => PyData.eqv z.py x.py)) := rfl
@[simp] theorem r_r1 {g : D → (D → Prop) → Prop} {ds : List D} : r1 g ds QP = ∃ d, ds = [d] ∧ g d QP := rfl
@[simp] theorem r_gLen {ds : List D} : gLen ds QP = ∃ d, ds = [d] ∧ ∃ n, lenD d = some n ∧ QP (.int n) := rfl
@[simp] theorem r_gInt {ds : List D} : gInt ds QP = ∃ d, ds = [d] ∧ ∃ n, intD d = some n ∧ QP (.int n) := rfl
@[simp] theorem r_gAbs {ds : List D} : gAbs ds QP = ∃ d, ds = [d] ∧ ∃ i, d = .int i ∧ QP (.int (if i < 0 then -i else i)) := rfl
@[simp] theorem r_gTuple {ds : List D} : gTuple ds QP = ∃ d, ds = [d] ∧ ∃ xs, itemsD d = some xs ∧ frzL xs = xs ∧ QP (.tup xs) := rfl
@[simp] theorem r_gList {ds : List D} : gList ds QP = ∃ d, ds = [d] ∧ ∃ xs, itemsD d = some xs ∧ frzL xs = xs ∧ QP (.lst true xs) := rfl
@[simp] theorem r_gMin2 {ds : List D} : gMin2 ds QP = int2Q ds fun i j => QP (.int (if j < i then j else i)) := rfl
@[simp] theorem r_gMax2 {ds : List D} : gMax2 ds QP = int2Q ds fun i j => QP (.int (if j > i then j else i)) := rfl
@[simp] theorem r_gAny {ds : List D} : gAny ds QP = ∃ d, ds = [d] ∧ ∃ (o : Bool) (ns : List Bool), d = .lst o (ns.map D.bl) ∧ QP (.bl (ns.any id)) := rfl
@[simp] theorem r_gAll {ds : List D} : gAll ds QP = ∃ d, ds = [d] ∧ ∃ (o : Bool) (ns : List Bool), d = .lst o (ns.map D.bl) ∧ QP (.bl (ns.all id)) := rfl
@[simp] theorem len_lst {o xs} : lenD (.lst o xs) = some (xs.length : Int) := rfl
@[simp] theorem len_kst {xs} : lenD (.kst xs) = some (xs.length : Int) := rfl
@[simp] theorem len_tup {xs} : lenD (.tup xs) = some (xs.length : Int) := rfl
@[simp] theorem len_rowD {r} : lenD (rowD r) = some (r.length : Int) := by unfold rowD; simp
@[simp] theorem int_int {i : Int} : intD (.int i) = some i := rfl
@[simp] theorem items_lst {o xs} : itemsD (.lst o xs) = some xs := rfl
@[simp] theorem items_tup {xs} : itemsD (.tup xs) = some xs := rfl
@[simp] theorem items_kst {xs} : itemsD (.kst xs) = some xs := rfl
@[simp] theorem li_lst {o xs} : lstItems (.lst o xs) = some xs := rfl
@[simp] theorem li_kst {xs} : lstItems (.kst xs) = some xs := rfl
variable {QI : List D → Env → Prop}
@[simp ↓] theorem r_iL : iL ta env QI = ta env fun d env1 => ∃ xs, lstItems d = some xs ∧ QI (frzL xs) env1 := rfl
@[simp ↓] theorem r_iT : iT ta env QI = ta env fun d env1 => ∃ xs, d = .tup xs ∧ QI (frzL xs) env1 := rfl
@[simp ↓] theorem r_iEn : iEn ta env QI = ta env fun d env1 => ∃ xs, lstItems d = some xs ∧ QI (enumL 0 (frzL xs)) env1 := rfl
@[simp ↓] theorem r_iR1 : iR1 u env QI = u env fun ds env1 => ∃ j : Int, ds = [.int j] ∧ -(2 ^ 62) ≤ j ∧ j < 2 ^ 62 ∧ QI (rgD 0 j.toNat) env1 := rfl
@[simp ↓] theorem r_iR2 : iR2 u env QI = u env fun ds env1 => int2Q ds fun i j => (-(2 ^ 62) ≤ i ∧ i < 2 ^ 62 ∧ -(2 ^ 62) ≤ j ∧ j < 2 ^ 62) ∧ QI (rgD i (j - i).toNat) env1 := rfl
@[simp ↓] theorem r_sFor {ti : TXI} {gi : TXG} {t : TXS} : sFor ti gi t D0 env = ti env fun items env1 => forL gi t D0 items env1 := rfl
@[simp ↓] theorem r_oComp {ti : TXI} {gi : TXG} {vs : List Nat} : oComp ti gi c ta vs env Q = ti env fun items env1 => items.length ≤ sizeLine ∧ compL gi c ta vs items (wipeE env1 vs) [] fun acc env2 => Q (.lst true acc) env2 := rfl
@[simp ↓] theorem r_tYesT : tYesT env QB = QB true env := rfl
variable {QG : Env → Prop} {d : D} {ds : List D} {g : TXG} {gs : TXGs}
@[simp ↓] theorem r_gNm : gNm i d env QG = QG (env.set i (some d)) := rfl
@[simp ↓] theorem r_gTp : gTp n gs d env QG = ∃ xs, d = .tup xs ∧ xs.length = n ∧ gs xs env QG := rfl
@[simp ↓] theorem r_gTpl : gTpl n gs d env QG = ∃ xs, d = .tup xs ∧ xs.length = n ∧ gs xs env QG := rfl
@[simp ↓] theorem r_gsNil : gsNil ds env QG = (ds = [] ∧ QG env) := rfl
@[simp ↓] theorem r_gsCons : gsCons g gs ds env QG = cons_ ds fun d ds' => g d env fun env1 => gs ds' env1 QG := rfl
@[simp ↓] theorem r_gPutD : gPutD i ta d env QG = ((∃ d0, env[i]? = some (some d0)) ∧ ta env fun kd env2 => env2 = env ∧ ∃ o r, env[i]? = some (some o) ∧ putX o kd d = some r ∧ QG (env.set i (some r))) := rfl
@[simp ↓] theorem r_sAsgT : sAsgT ta g D0 env = ta env fun d env1 => g d env1 D0.nx := rfl
@[simp ↓] theorem r_sPar : sPar i j u D0 env = u env fun ds env1 => two_ ds fun d e => D0.nx ((env1.set i (some d)).set j (some e)) := rfl
@[simp ↓] theorem r_sPar3 {l : Nat} : sPar3 i j l u D0 env = u env fun ds env1 => three_ ds fun d e f => D0.nx (((env1.set i (some d)).set j (some e)).set l (some f)) := rfl
@[simp ↓] theorem r_sPutD : sPutD i ta tb D0 env = ta env fun d env1 => (∃ d0, env1[i]? = some (some d0)) ∧ tb env1 fun kd env2 => ∃ o r, env2[i]? = some (some o) ∧ putX o kd d = some r ∧ D0.nx (env2.set i (some r)) := rfl
@[simp ↓] theorem r_sSetL : sSetL i ta tb D0 env = ta env fun d env1 => (∃ d0, env1[i]? = some (some d0)) ∧ tb env1 fun kd env2 => ∃ xs n j, kd = .int n ∧ env2[i]? = some (some (.lst true xs)) ∧ ixN xs.length n = some j ∧ D0.nx (env2.set i (some (.lst true (xs.set j d)))) := rfl
@[simp ↓] theorem r_oApp : oApp i ta env Q = ((∃ d0, env[i]? = some (some d0) ∧ isLst d0 = true) ∧ ta env fun d env1 => ∃ xs, env1[i]? = some (some (.lst true xs)) ∧ xs.length < sizeLine ∧ Q .non (env1.set i (some (.lst true (xs ++ [d]))))) := by
  refine congr (congrArg And (propext ⟨?_, ?_⟩)) rfl
  · rintro ⟨o, xs, h⟩
    exact ⟨_, h, rfl⟩
  · rintro ⟨d0, h, e⟩
    cases d0 with
    | lst o xs => exact ⟨o, xs, h⟩
    | _ => cases e
@[simp ↓] theorem r_oSl {tl th : TXO} : oSl ta tl th env Q = ta env fun d env1 => tl env1 fun lo env2 => th env2 fun hi env3 => ∃ xs, lstItems d = some xs ∧ frzL (cutL xs lo hi) = cutL xs lo hi ∧ Q (.lst true (cutL xs lo hi)) env3 := rfl
@[simp ↓] theorem r_pNone {QO : Option Int → Env → Prop} : pNone env QO = QO none env := rfl
@[simp ↓] theorem r_pSome {QO : Option Int → Env → Prop} : pSome ta env QO = ta env fun d env1 => ∃ i, d = .int i ∧ QO (some i) env1 := rfl
@[simp ↓] theorem r_oDisp {t : TXP} : oDisp t env Q = t env fun kvs env1 => (kvs.map (·.1)).Nodup ∧ Q (.dct true kvs) env1 := rfl
@[simp ↓] theorem r_dNil {QX : List (Key × D) → Env → Prop} : dNil env QX = QX [] env := rfl
@[simp ↓] theorem r_dCons {t : TXP} {QX : List (Key × D) → Env → Prop} : dCons ta tb t env QX = ta env fun kd env1 => tb env1 fun d env2 => t env2 fun kvs env3 => ∃ k, keyD kd = some k ∧ QX ((k, d) :: kvs) env3 := rfl
@[simp ↓] theorem r_oDIn {neg : Bool} : oDIn neg ta tb env Q = ta env fun k env1 => tb env1 fun d env2 => ∃ o, dget d k = some o ∧ Q (.bl (if neg then !o.isSome else o.isSome)) env2 := rfl
theorem r_rCatT {x y : D} : rCatT x y QP = ∃ o xs o' ys, x = .lst o xs ∧ y = .lst o' ys ∧ frzL xs = xs ∧ frzL ys = ys ∧ xs.length + ys.length ≤ sizeLine ∧ QP (.lst true (xs ++ ys)) := rfl
@[simp] theorem cat_lsts {o o' : Bool} {xs ys : List D} : rCatT (.lst o xs) (.lst o' ys) QP = (frzL xs = xs ∧ frzL ys = ys ∧ xs.length + ys.length ≤ sizeLine ∧ QP (.lst true (xs ++ ys))) := by
  refine propext ⟨?_, fun h => ⟨o, xs, o', ys, rfl, rfl, h⟩⟩
  rintro ⟨_, _, _, _, e, e', h⟩
  cases e
  cases e'
  exact h
@[simp ↓] theorem r_rRepT {x y : D} : rRepT x y QP = ∃ xs k, x = .lst true xs ∧ y = .int k ∧ frzL xs = xs ∧ -(2 ^ 63) ≤ k ∧ k < 2 ^ 63 ∧ xs.length * k.toNat ≤ sizeLine ∧ QP (.lst true (List.replicate k.toNat xs).flatten) := rfl
@[simp ↓] theorem r_rRepB {x y : D} : rRepB x y QP = blQ y fun k => ∃ xs, lstItems x = some xs ∧ frzL xs = xs ∧ QP (.lst true (if k = true then xs else [])) := by
  refine propext ⟨?_, ?_⟩
  · rintro ⟨xs, k, a, b, c, d⟩
    exact ⟨k, b, xs, a, c, d⟩
  · rintro ⟨k, b, xs, a, c, d⟩
    exact ⟨xs, k, a, b, c, d⟩
@[simp ↓] theorem r_oRev : oRev ta env Q = ta env fun d env1 => ∃ xs, lstItems d = some xs ∧ frzL xs = xs ∧ Q (.lst true xs.reverse) env1 := rfl
@[simp ↓] theorem r_gR1 {QR : Int → Int → Env → Prop} : gR1 ta env QR = ta env fun d env1 => ∃ n, d = .int n ∧ QR 0 n env1 := rfl
@[simp ↓] theorem r_gR2 {QR : Int → Int → Env → Prop} : gR2 ta tb env QR = ta env fun d env1 => tb env1 fun e env2 => ∃ i j, d = .int i ∧ e = .int j ∧ QR i j env2 := rfl
@[simp ↓] theorem r_oLR {t : TXR} : oLR t env Q = t env fun i j env1 => RgOk i j ∧ Q (.lst true (rgD i (j - i).toNat)) env1 := rfl
@[simp] theorem frzL_ints (ns : List Int) : frzL (ns.map D.int) = ns.map D.int := by rw [frzL_map, map_frz_int]
end read
theorem fin_nil (n : Nat) (env : Env) : fin [] n env = List.replicate n none := by
  unfold fin
  induction n with
  | zero => rfl
  | succ n ih => rw [List.range_succ, List.map_append, ih, List.replicate_succ']; rfl
/-! ### loops -/
theorem forL_ind {gi : TXG} {tb : TXS} {D0 : TEnds} (P : List D → Env → Prop) (h0 : ∀ env, P [] env → D0.nx env)
    (hs : ∀ d r env (K : Env → Prop), P (d :: r) env → (∀ e, P r e → K e) → gi d env fun env1 => tb { nx := K, rt := D0.rt, bk := D0.nx, ct := K } env1) : ∀ {items : List D} {env : Env}, P items env → forL gi tb D0 items env
  | [], env, h => h0 env h
  | d :: r, env, h => hs d r env _ h fun e he => forL_ind P h0 hs he
theorem compL_ind {gi : TXG} {tt : TXT} {te : TX} {vs : List Nat} {Q : List D → Env → Prop} (P : List D → Env → List D → Prop) (h0 : ∀ env acc, P [] env acc → Q acc env)
    (hs : ∀ d r env acc (K : List D → Env → Prop), P (d :: r) env acc → (∀ e a, P r e a → K a e) → gi d env fun env1 => tt env1 fun b env2 => if b = true then te env2 fun y env3 => K (acc ++ [y]) (wipeE env3 vs) else K acc (wipeE env2 vs)) :
    ∀ {items : List D} {env : Env} {acc : List D}, P items env acc → compL gi tt te vs items env acc Q
  | [], env, acc, h => h0 env acc h
  | d :: r, env, acc, h => hs d r env acc (fun a e => compL gi tt te vs r e a Q) h fun e a he => compL_ind P h0 hs he
/-- a comprehension whose turns leave the names as they are -/
theorem compL_fm {α : Type} {gi : TXG} {tt : TXT} {te : TX} {vs : List Nat} {Q : List D → Env → Prop} (f : α → D) (y : α → Option D) (env : Env) : ∀ (xs : List α) (acc : List D), 
    (∀ a ∈ xs, ∀ (K1 : D → Env → Prop) (K0 : Env → Prop), (∀ d, y a = some d → ∀ e, wipeE e vs = env → K1 d e) → (y a = none → ∀ e, wipeE e vs = env → K0 e) → gi (f a) env fun env1 => tt env1 fun b env2 => if b = true then te env2 K1 else K0 env2) →
    Q (acc ++ xs.filterMap y) env → compL gi tt te vs (xs.map f) env acc Q
  | [], acc, _, q => by simpa [compL] using q
  | a :: r, acc, h, q => by
    rw [List.map_cons, compL]
    refine h a List.mem_cons_self _ _ (fun d e env' w => ?_) (fun e env' w => ?_)
    · rw [w]
      refine compL_fm f y env r _ (fun b hb => h b (List.mem_cons_of_mem _ hb)) ?_
      simpa [List.filterMap_cons, e] using q
    · rw [w]
      refine compL_fm f y env r _ (fun b hb => h b (List.mem_cons_of_mem _ hb)) ?_
      simpa [List.filterMap_cons, e] using q
theorem compL_map {α : Type} {gi : TXG} {te : TX} {vs : List Nat} {Q : List D → Env → Prop} (f y : α → D) (env : Env) (xs : List α)
    (h : ∀ a ∈ xs, ∀ (K : D → Env → Prop), (∀ e, wipeE e vs = env → K (y a) e) → gi (f a) env fun env1 => te env1 K) (q : Q (xs.map y) env) : compL gi tYesT te vs (xs.map f) env [] Q :=
  compL_fm f (fun a => some (y a)) env xs [] (fun a ha K1 K0 h1 h0 => by
    simp only [r_tYesT, if_true]
    exact h a ha K1 fun e w => h1 _ rfl e w) (by simpa using q)
/-! ### subscripts -/
theorem ixN_of {n : Nat} {i : Int} (h0 : 0 ≤ i) (h1 : i < n) : ixN n i = some i.toNat := by unfold ixN; rw [if_pos h0, if_pos h1]
theorem atI_of {α : Type} {xs : List α} {i : Int} {x : α} (h0 : 0 ≤ i) (h : xs[i.toNat]? = some x) : atI xs i = some x := by
  have h1 : i.toNat < xs.length := (List.getElem?_eq_some_iff.mp h).1
  unfold atI
  rw [ixN_of h0 (by omega)]
  exact h
theorem ix_lst {o : Bool} {xs : List D} {i : Int} {x : D} (h0 : 0 ≤ i) (h : xs[i.toNat]? = some x) : getIx (.lst o xs) (.int i) = some x := by unfold getIx; exact atI_of h0 h
theorem ix_tup {xs : List D} {i : Int} {x : D} (h0 : 0 ≤ i) (h : xs[i.toNat]? = some x) : getIx (.tup xs) (.int i) = some x := by unfold getIx; exact atI_of h0 h
/-! ### == of ints among data -/
@[simp] theorem py_int (i : Int) : (D.int i).py = .int i := by rw [D.py]
@[simp] theorem cmp_int (i : Int) : cmpD (.int i) = true := by
  unfold cmpD
  rw [D.pyok, D.py] <;> first | rfl | (intros; contradiction)
theorem cut_to {α : Type} (xs : List α) (k : Nat) : cutL xs none (some (k : Int)) = xs.take k := by
  unfold cutL
  rw [HT.sIx_none, HT.sIx_nat, Nat.sub_zero, List.drop_zero]
  by_cases h : k ≤ xs.length
  · rw [Nat.min_eq_left h]
  · rw [Nat.min_eq_right (by omega), List.take_of_length_le (Nat.le_refl _), List.take_of_length_le (by omega)]
end TT

/-! T17: data compared, by their values -/
namespace TT
open PySem PySem.Spec PyProof.Rows L2
structure Cmp {α : Type} [DecidableEq α] (e : α → D) (k : Nat) : Prop where
  ok : ∀ a, (e a).pyok = true
  lay : ∀ a, (e a).py.canLay0 = true
  dep : ∀ a, (e a).py.depth ≤ k
  eqv : ∀ a b, PyData.eqv (e a).py (e b).py = decide (a = b)
theorem cmp_int0 : Cmp D.int 0 := by
  refine ⟨fun a => by rw [D.pyok] <;> intros <;> contradiction, fun a => by rw [py_int]; simp only [PyData.canLay0], fun a => by rw [py_int]; simp only [PyData.depth]; exact Nat.le_refl _, fun a b => ?_⟩
  rw [py_int, py_int]
  simp only [PyData.eqv]
  rw [Bool.eq_iff_iff, beq_iff_eq, decide_eq_true_eq]
section
variable {α : Type} [DecidableEq α] {e : α → D} {k : Nat}
theorem Cmp.layAll (h : Cmp e k) : ∀ xs : List α, PyData.canLayAll0 (pyL (xs.map e)) = true
  | [] => by rw [List.map_nil, pyL]; simp only [PyData.canLayAll0]
  | a :: r => by rw [List.map_cons, pyL]; simp only [PyData.canLayAll0]; rw [h.lay, h.layAll r]; rfl
theorem Cmp.depAll (h : Cmp e k) : ∀ xs : List α, PyData.depthAll (pyL (xs.map e)) ≤ k
  | [] => by rw [List.map_nil, pyL]; simp only [PyData.depthAll]; exact Nat.zero_le _
  | a :: r => by rw [List.map_cons, pyL]; simp only [PyData.depthAll]; exact Nat.max_le.mpr ⟨h.dep a, h.depAll r⟩
theorem Cmp.eqvAll (h : Cmp e k) : ∀ xs ys : List α, PyData.eqvAll (pyL (xs.map e)) (pyL (ys.map e)) = decide (xs = ys)
  | [], [] => by rw [List.map_nil, pyL]; simp only [PyData.eqvAll, decide_true]
  | [], _ :: _ => by rw [List.map_nil, List.map_cons, pyL, pyL]; simp [PyData.eqvAll]
  | _ :: _, [] => by rw [List.map_nil, List.map_cons, pyL, pyL]; simp [PyData.eqvAll]
  | x :: xs, y :: ys => by
    rw [List.map_cons, List.map_cons, pyL, pyL, PyData.eqvAll, h.eqv, h.eqvAll xs ys, ← Bool.decide_and]
    exact decide_eq_decide.mpr (by rw [List.cons.injEq])
theorem Cmp.okAll (h : Cmp e k) (xs : List α) : pyokL (xs.map e) = true := by
  rw [pyokL_all, List.all_map, List.all_eq_true]
  intro a _
  exact h.ok a
theorem py_tup (xs : List D) : (D.tup xs).py = .tuple (pyL xs) := by rw [D.py]
theorem py_lst (o : Bool) (xs : List D) : (D.lst o xs).py = .list (pyL xs) := by rw [D.py]
theorem Cmp.tup (h : Cmp e k) : Cmp (fun xs : List α => .tup (xs.map e)) (k + 1) := by
  refine ⟨fun a => ?_, fun a => ?_, fun a => ?_, fun a b => ?_⟩
  · show (D.tup _).pyok = true
    rw [D.pyok]; exact h.okAll a
  · show (D.tup _).py.canLay0 = true
    rw [py_tup]; simp only [PyData.canLay0]; exact h.layAll a
  · show (D.tup _).py.depth ≤ _
    rw [py_tup]; simp only [PyData.depth]; exact Nat.succ_le_succ (h.depAll a)
  · show PyData.eqv (D.tup _).py (D.tup _).py = _
    rw [py_tup, py_tup]; simp only [PyData.eqv]; exact h.eqvAll a b
theorem Cmp.lst (h : Cmp e k) (o : Bool) : Cmp (fun xs : List α => .lst o (xs.map e)) (k + 1) := by
  refine ⟨fun a => ?_, fun a => ?_, fun a => ?_, fun a b => ?_⟩
  · show (D.lst _ _).pyok = true
    rw [D.pyok]; exact h.okAll a
  · show (D.lst _ _).py.canLay0 = true
    rw [py_lst]; simp only [PyData.canLay0]; exact h.layAll a
  · show (D.lst _ _).py.depth ≤ _
    rw [py_lst]; simp only [PyData.depth]; exact Nat.succ_le_succ (h.depAll a)
  · show PyData.eqv (D.lst _ _).py (D.lst _ _).py = _
    rw [py_lst, py_lst]; simp only [PyData.eqv]; exact h.eqvAll a b
theorem Cmp.cmpD (h : Cmp e k) (hk : k ≤ 64 := by decide) (a : α) : cmpD (e a) = true := by
  unfold TT.cmpD SeqAt.shaped
  rw [h.ok, h.lay, decide_eq_true (Nat.le_trans (h.dep a) hk)]; rfl
theorem Cmp.req (h : Cmp e k) {neg : Bool} {a b : α} {QP : D → Prop} (q : QP (.bl (if neg = true then !decide (a = b) else decide (a = b)))) (hk : k ≤ 64 := by decide) : rEqT neg (e a) (e b) QP := by
  rw [r_rEqT, h.eqv]
  exact ⟨h.cmpD hk a, h.cmpD hk b, q⟩
/-- lists, owned or not -/
theorem Cmp.reqL (h : Cmp e k) {neg o o' : Bool} {a b : List α} {QP : D → Prop} (q : QP (.bl (if neg = true then !decide (a = b) else decide (a = b)))) (hk : k + 1 ≤ 64 := by decide) : rEqT neg (.lst o (a.map e)) (.lst o' (b.map e)) QP := by
  refine ⟨(h.lst o).cmpD hk a, (h.lst o').cmpD hk b, ?_⟩
  rw [py_lst, py_lst]
  simp only [PyData.eqv]
  rw [h.eqvAll]
  exact q
theorem Cmp.anyL (h : Cmp e k) (a : α) : ∀ xs : List α, ((xs.map e).any fun z => PyData.eqv z.py (e a).py) = decide (a ∈ xs)
  | [] => by simp
  | x :: xs => by
    rw [List.map_cons, List.any_cons, h.eqv, h.anyL a xs, ← Bool.decide_or]
    exact decide_eq_decide.mpr (by rw [List.mem_cons]; exact or_congr_left eq_comm)
theorem Cmp.rin (h : Cmp e k) {neg o : Bool} {a : α} {xs : List α} {QP : D → Prop} (q : QP (.bl (if neg = true then !decide (a ∈ xs) else decide (a ∈ xs)))) (hk : k + 1 ≤ 64 := by decide) : rInT neg (e a) (.lst o (xs.map e)) QP := by
  refine ⟨_, rfl, h.cmpD (by omega) a, (h.lst o).cmpD hk xs, ?_⟩
  rw [h.anyL]
  exact q
theorem Cmp.rinT (h : Cmp e k) {neg : Bool} {a : α} {xs : List α} {QP : D → Prop} (q : QP (.bl (if neg = true then !decide (a ∈ xs) else decide (a ∈ xs)))) (hk : k + 1 ≤ 64 := by decide) : rInT neg (e a) (.tup (xs.map e)) QP := by
  refine ⟨_, rfl, h.cmpD (by omega) a, h.tup.cmpD hk xs, ?_⟩
  rw [h.anyL]
  exact q
end
theorem cmp_rowD : Cmp rowD 1 := cmp_int0.tup
@[simp] theorem r_rIsN {x y : D} {QP : D → Prop} : rIsN x y QP = (y = .non ∧ QP (.bl (isNon x))) := rfl
@[simp] theorem r_rNotN {x y : D} {QP : D → Prop} : rNotN x y QP = (y = .non ∧ QP (.bl (!isNon x))) := rfl
@[simp] theorem isNon_lst {o xs} : isNon (.lst o xs) = false := rfl
@[simp] theorem isNon_non : isNon .non = true := rfl
end TT

/-! T18: a value frozen; things within a name's thing (paths), changed in place -/
namespace TT
open PySem PySem.Spec PyProof.Rows L2
section
variable {X : Cx} {e : Expr} {M : List Nat} {t : TX}
/-- nobody will change it -/
def oFrz (t : TX) : TX := fun env Q => t env fun d env1 => Q d.frz env1
theorem x_frzv (h : XX X e M [] t) : XX X e M [] (oFrz t) := ⟨pe_imp h.pe fun σ H Q ⟨S, Qt, eH, s, q, k⟩ => by
  subst eH
  refine ⟨S, _, rfl, s, q, fun S1 v d Fv q1 s1 st1 v1 => ?_⟩
  obtain ⟨s2, st2, rep⟩ := v1.freeze s1 st1
  exact k ⟨frzZ S1.Z S1.H Fv, S1.H, S1.env, S1.F⟩ v d.frz nF q1 s2 st2 (.imm (rep nF))⟩
@[simp ↓] theorem r_oFrz {env : Env} {Q : D → Env → Prop} : oFrz t env Q = t env fun d env1 => Q d.frz env1 := rfl
end
/-- v, that is d and owns G, lies within v0, that owns F; up tells v0's tree by v's -/
structure Hole (K : PySem.W.Frag) (Z H : Hp) (F : AS) (v0 v : V) (d : D) (G : AS) (up : D → D) : Prop where
  rep : Rep K Z H v d G
  sub : ∀ a, G a → F a
  back : ∀ (Z' H' : Hp) (d' : D) (G' : AS), (∀ a o, Z a = some o → Z' a = some o) → (∀ a o, F a → ¬ G a → H a = some o → H' a = some o) → (∀ a, F a → ¬ G a → Z a = none → Z' a = none) → (∀ a, G' a → G a ∨ ¬ F a) →
    Rep K Z' H' v d' G' → Rep K Z' H' v0 (up d') (fun a => F a ∨ G' a)
theorem Hole.root {K : PySem.W.Frag} {Z H : Hp} {F : AS} {v : V} {d : D} (r : Rep K Z H v d F) : Hole K Z H F v v d F id :=
  ⟨r, fun _ h => h, fun _ _ _ _ _ _ _ _ r' => r'.mono fun _ h => .inr h⟩
theorem Hole.on {K : PySem.W.Frag} {Z H Z2 H2 : Hp} {F : AS} {v0 v : V} {d : D} {G : AS} {up : D → D} (h : Hole K Z H F v0 v d G up) (hz : ∀ a o, Z a = some o → Z2 a = some o) (hh : ∀ a o, F a → H a = some o → H2 a = some o) (hn : ∀ a, F a → Z a = none → Z2 a = none) :
    Hole K Z2 H2 F v0 v d G up :=
  ⟨h.rep.keep hz fun a o g e z => ⟨hh a o (h.sub a g) e, hn a (h.sub a g) z⟩, h.sub, fun Z' H' d' G' h1 h2 h3 h4 r => h.back Z' H' d' G' (fun a o z => h1 a o (hz a o z)) (fun a o f g e => h2 a o f g (hh a o f e)) (fun a f g z => h3 a f g (hn a f z)) h4 r⟩
/-- one item of a list, as a hole -/
theorem RepL.hole {K : PySem.W.Frag} {Z H : Hp} : ∀ {vs : List V} {ds : List D} {F : AS} {j : Nat} {d : D}, RepL K Z H vs ds F → ds[j]? = some d →
    ∃ v G, vs[j]? = some v ∧ Rep K Z H v d G ∧ (∀ a, G a → F a) ∧ ∀ (Z' H' : Hp) (d' : D) (G' : AS), (∀ a o, Z a = some o → Z' a = some o) → (∀ a o, F a → ¬ G a → H a = some o → H' a = some o) → (∀ a, F a → ¬ G a → Z a = none → Z' a = none) → (∀ a, G' a → G a ∨ ¬ F a) →
      Rep K Z' H' v d' G' → RepL K Z' H' vs (ds.set j d') (fun a => F a ∨ G' a)
  | _, _, _, _, _, .nil, e => by simp at e
  | _, _, F, 0, _, .cons (G := G) (E := E) r t f g, e => by
    simp at e
    subst e
    refine ⟨_, G, rfl, r, f, fun Z' H' d' G' h1 h2 h3 h4 r' => ?_⟩
    refine .cons r' (t.keep h1 fun a o z ha zn => ⟨h2 a o (g a z).1 (g a z).2 ha, h3 a (g a z).1 (g a z).2 zn⟩) (fun a z => .inr z) fun a z => ⟨.inl (g a z).1, fun y => ?_⟩
    rcases h4 a y with q | q
    · exact (g a z).2 q
    · exact q (g a z).1
  | _, _, F, j + 1, _, .cons (G := G) (E := E) r t f g, e => by
    obtain ⟨v, G1, hv, r1, hs, back⟩ := RepL.hole (j := j) t (by simpa using e)
    refine ⟨v, G1, by simpa using hv, r1, fun a z => (g a (hs a z)).1, fun Z' H' d' G' h1 h2 h3 h4 r' => ?_⟩
    refine .cons (G := G) (E := fun a => E a ∨ G' a) (r.keep h1 fun a o z ha zn => ?_) (back Z' H' d' G' h1 (fun a o z n ha => h2 a o (g a z).1 n ha) (fun a z n zn => h3 a (g a z).1 n zn) (fun a z => (h4 a z).imp id fun q y => q (g a y).1) r') (fun a z => .inl (f a z)) fun a z => ?_
    · have na : ¬ G1 a := fun y => (g a (hs a y)).2 z
      exact ⟨h2 a o (f a z) na ha, h3 a (f a z) na zn⟩
    · rcases z with z | z
      · exact ⟨.inl (g a z).1, (g a z).2⟩
      · refine ⟨.inr z, fun y => ?_⟩
        rcases h4 a z with q | q
        · exact (g a (hs a q)).2 y
        · exact q (f a y)
theorem valV_of_at {κ : Type} [DecidableEq κ] : ∀ {m : List (κ × V)} {k : κ} {j : Nat} {w : V}, (m.map (·.1))[j]? = some k → (m.map (·.2))[j]? = some w → (m.map (·.1)).Nodup → valV m k = some w
  | [], _, _, _, h, _, _ => by simp at h
  | p :: r, k, 0, w, h, h2, _ => by
    simp at h h2
    rw [valV_pos h, h2]
  | p :: r, k, j + 1, w, h, h2, nd => by
    rw [List.map_cons, List.nodup_cons] at nd
    have h : (r.map (·.1))[j]? = some k := by simpa using h
    have h2 : (r.map (·.2))[j]? = some w := by simpa using h2
    have : ¬ p.1 = k := fun e => nd.1 (e ▸ List.mem_of_getElem? h)
    rw [valV_neg this]
    exact valV_of_at h h2 nd.2
theorem lookK_at {κ : Type} [DecidableEq κ] : ∀ {kvs : List (κ × D)} {k : κ} {d : D}, lookK kvs k = some d → (kvs.map (·.1)).Nodup → ∃ j : Nat, (kvs.map (·.2))[j]? = some d ∧ (kvs.map (·.1))[j]? = some k ∧ ∀ d', (putD kvs k d').map (·.2) = (kvs.map (·.2)).set j d' ∧ (putD kvs k d').map (·.1) = kvs.map (·.1)
  | [], _, _, h, _ => by simp [lookK] at h
  | p :: r, k, d, h, nd => by
    rw [List.map_cons, List.nodup_cons] at nd
    by_cases e : p.1 = k
    · have hd : p.2 = d := by simpa [lookK, e] using h
      refine ⟨0, by simp [hd], by simp [e], fun d' => ?_⟩
      have rest : r.map (fun kv => if kv.1 = k then (kv.1, d') else kv) = r := by
        refine Eq.trans (List.map_congr_left fun q hq => ?_) (List.map_id r)
        have : q.1 ≠ k := fun z => nd.1 (by rw [e, ← z]; exact List.mem_map_of_mem hq)
        simp [this]
      unfold putD
      simp [e, rest]
    · have h' : lookK r k = some d := by simpa [lookK, e] using h
      obtain ⟨j, h1, h1k, h2⟩ := lookK_at h' nd.2
      refine ⟨j + 1, by simpa using h1, by simpa using h1k, fun d' => ?_⟩
      obtain ⟨a, b⟩ := h2 d'
      have hany : (r.any fun kv => decide (kv.1 = k)) = true := by
        unfold lookK at h'
        cases q : r.find? fun p => decide (p.1 = k) with
        | none => rw [q] at h'; cases h'
        | some w => exact List.any_eq_true.mpr ⟨w, List.mem_of_find?_eq_some q, by have := List.find?_some q; exact this⟩
      unfold putD at a b ⊢
      rw [if_pos hany] at a b
      rw [if_pos (by simp only [List.any_cons, hany, Bool.or_true])]
      simp only [List.map_cons, e, if_false, List.set_cons_succ]
      exact ⟨congrArg _ a, congrArg _ b⟩
section steps
variable {K : PySem.W.Frag} {Z H : Hp} {F : AS} {v0 v : V} {G : AS} {up : D → D}
theorem Hole.key {kvs : List (Key × D)} {k : Key} {d : D} (h : Hole K Z H F v0 v (.dct true kvs) G up) (e : lookK kvs k = some d) (nd : (kvs.map (·.1)).Nodup) :
    ∃ (a : Addr) (m : List (Key × V)) (w : V) (G1 : AS), v = .ref a ∧ H a = some (.dK m) ∧ valV m k = some w ∧ Hole K Z H F v0 w d G1 (fun d' => up (.dct true (putD kvs k d'))) := by
  obtain ⟨a, m, G0, rfl, ga, ha, za, hk, rl, hG⟩ := h.rep.dctO_inv
  obtain ⟨j, hj, hjk, hput⟩ := lookK_at e nd
  obtain ⟨w, G1, hw, rw', hs, back⟩ := rl.hole hj
  refine ⟨a, m, w, G1, rfl, ha, valV_of_at (by rw [hk]; exact hjk) hw (by rw [hk]; exact nd), rw', fun b z => h.sub b (hG b (hs b z)).1, fun Z' H' d' G' h1 h2 h3 h4 r' => ?_⟩
  have n1 : ∀ b, G b → ¬ G1 b → F b := fun b z _ => h.sub b z
  have na : ¬ G1 a := fun z => (hG a (hs a z)).2 rfl
  have rep : Rep K Z' H' (.ref a) (.dct true (putD kvs k d')) (fun b => G b ∨ G' b) := by
    refine .dctO (G := fun b => G0 b ∨ G' b) (.inl ga) (h2 a _ (h.sub a ga) na ha) (h3 a (h.sub a ga) na za) (by rw [(hput d').2]; exact hk) ?_ fun b z => ?_
    · rw [(hput d').1]
      exact back Z' H' d' G' h1 (fun b o z n e => h2 b o (h.sub b (hG b z).1) n e) (fun b z n e => h3 b (h.sub b (hG b z).1) n e) (fun b z => (h4 b z).imp id fun q y => q (h.sub b (hG b y).1)) r'
    · rcases z with z | z
      · exact ⟨.inl (hG b z).1, (hG b z).2⟩
      · refine ⟨.inr z, fun e => ?_⟩
        subst e
        rcases h4 b z with q | q
        · exact na q
        · exact q (h.sub b ga)
  have := h.back Z' H' (.dct true (putD kvs k d')) (fun b => G b ∨ G' b) h1 (fun b o f n e => h2 b o f (fun z => n (hG b (hs b z)).1) e) (fun b f n e => h3 b f (fun z => n (hG b (hs b z)).1) e) (fun b z => z.elim .inl fun z => (h4 b z).imp (fun q => (hG b (hs b q)).1) id) rep
  exact this.mono fun b z => z.elim .inl fun z => z.elim (fun z => .inl (h.sub b z)) .inr
theorem Hole.item {xs : List D} {j : Nat} {d : D} (h : Hole K Z H F v0 v (.lst true xs) G up) (e : xs[j]? = some d) :
    ∃ (a : Addr) (vs : List V) (w : V) (G1 : AS), v = .ref a ∧ H a = some (.lst vs) ∧ vs.length = xs.length ∧ vs[j]? = some w ∧ Hole K Z H F v0 w d G1 (fun d' => up (.lst true (xs.set j d'))) := by
  obtain ⟨a, vs, G0, rfl, ga, ha, za, rl, hG⟩ := h.rep.own_inv
  obtain ⟨w, G1, hw, rw', hs, back⟩ := rl.hole e
  refine ⟨a, vs, w, G1, rfl, ha, rl.length, hw, rw', fun b z => h.sub b (hG b (hs b z)).1, fun Z' H' d' G' h1 h2 h3 h4 r' => ?_⟩
  have na : ¬ G1 a := fun z => (hG a (hs a z)).2 rfl
  have rep : Rep K Z' H' (.ref a) (.lst true (xs.set j d')) (fun b => G b ∨ G' b) := by
    refine .lstO (G := fun b => G0 b ∨ G' b) (.inl ga) (h2 a _ (h.sub a ga) na ha) (h3 a (h.sub a ga) na za) ?_ fun b z => ?_
    · exact back Z' H' d' G' h1 (fun b o z n e => h2 b o (h.sub b (hG b z).1) n e) (fun b z n e => h3 b (h.sub b (hG b z).1) n e) (fun b z => (h4 b z).imp id fun q y => q (h.sub b (hG b y).1)) r'
    · rcases z with z | z
      · exact ⟨.inl (hG b z).1, (hG b z).2⟩
      · refine ⟨.inr z, fun e => ?_⟩
        subst e
        rcases h4 b z with q | q
        · exact na q
        · exact q (h.sub b ga)
  have := h.back Z' H' (.lst true (xs.set j d')) (fun b => G b ∨ G' b) h1 (fun b o f n e => h2 b o f (fun z => n (hG b (hs b z)).1) e) (fun b f n e => h3 b f (fun z => n (hG b (hs b z)).1) e) (fun b z => z.elim .inl fun z => (h4 b z).imp (fun q => (hG b (hs b q)).1) id) rep
  exact this.mono fun b z => z.elim .inl fun z => z.elim (fun z => .inl (h.sub b z)) .inr
end steps
/-! ### paths -/
abbrev TXH := Env → (D → (D → D) → Env → Prop) → Prop
def liftP (K : PySem.W.Frag) (i : Nat) (M : List Nat) (t : TXH) : TE := fun σ H Q => ∃ S Qt, S.H = H ∧ SR K σ S ∧ t S.env Qt ∧
  ∀ S' v0 v d G up, Qt d up S'.env → SR K σ S' → Stp M S S' → σ[i]? = some (some v0) → Hole K S'.Z S'.H (S'.F i) v0 v d G up → Q v S'.H
structure XP (X : Cx) (e : Expr) (i : Nat) (M : List Nat) (t : TXH) : Prop where
  pe : PE X e (liftP X.K i M t)
def hName (i : Nat) : TXH := fun env Q => ∃ d, env[i]? = some (some d) ∧ Q d id env
section
variable {X : Cx} {a b e o : Expr} {M Ma R : List Nat} {th : TXH} {ta tb tk : TX} {i : Nat} {pos apos : Pos} {x : Str}
theorem xp_name (hx : PE X e (tVar i)) : XP X e i [] (hName i) := ⟨pe_imp hx fun σ H Q ⟨S, Qt, eH, s, ⟨d, e0, q⟩, k⟩ => by
  subst eH
  obtain ⟨v, h0, r⟩ := s.sl i d e0
  exact ⟨v, h0, k S v v d (S.F i) id q s (.refl _ _) h0 (.root r)⟩⟩
/-- e[k], e's thing a dict -/
def hKey (th : TXH) (tk : TX) : TXH := fun env Q => th env fun d up env1 => tk env1 fun kd env2 => env2 = env1 ∧ ∃ kvs k d1, d = .dct true kvs ∧ keyD kd = some k ∧ lookK kvs k = some d1 ∧ (kvs.map (·.1)).Nodup ∧ Q d1 (fun d' => up (.dct true (putD kvs k d'))) env2
/-- e[n], e's thing a list -/
def hItem (th : TXH) (tk : TX) : TXH := fun env Q => th env fun d up env1 => tk env1 fun kd env2 => env2 = env1 ∧ ∃ xs n j d1, d = .lst true xs ∧ kd = .int n ∧ ixN xs.length n = some j ∧ xs[j]? = some d1 ∧ Q d1 (fun d' => up (.lst true (xs.set j d'))) env2
theorem Hole.stp {K : PySem.W.Frag} {S S1 : W} {σ : L2.St} {v0 v : V} {d : D} {G : AS} {up : D → D} (h : Hole K S.Z S.H (S.F i) v0 v d G up) (s : SR K σ S) (st : Stp M S S1) (hi : i ∉ M) : Hole K S1.Z S1.H (S1.F i) v0 v d G up := by
  rw [(st.frm i hi).2]
  have off : ∀ a, S.F i a → ¬ ∃ j, j ∈ M ∧ S.F j a := fun a f ⟨j, hj, g⟩ => hi (s.ap i j a f g ▸ hj)
  refine h.on st.ext.zs (fun a o f e => st.ext.fr a o e (off a f)) fun a f z => ?_
  cases q : S1.Z a with
  | none => rfl
  | some u =>
    rcases st.ext.nz a u q z with e | e
    · obtain ⟨⟨o, e'⟩, _⟩ := s.tr i a f
      rw [e] at e'; cases e'
    · exact absurd e (off a f)
theorem putD_hit {κ : Type} [DecidableEq κ] {kvs : List (κ × D)} {k : κ} {d : D} (h : lookK kvs k = some d) : (kvs.any fun kv => decide (kv.1 = k)) = true := by
  unfold lookK at h
  cases q : kvs.find? fun p => decide (p.1 = k) with
  | none => rw [q] at h; cases h
  | some w => exact List.any_eq_true.mpr ⟨w, List.mem_of_find?_eq_some q, by have := List.find?_some q; exact this⟩
theorem xp_key (hu : X.A.units + 1 < cLine) (ha : XP X a i M th) (hb : XX X b [] R tk) (hs : NoSl b := by exact fun _ _ => rfl) : XP X (.Subscript a b pos) i M (hKey th tk) := ⟨pe_imp (pe_dget hu ha.pe hb.pe hs) fun σ H Q ⟨S, Qt, eH, s, q, k⟩ => by
  subst eH
  refine ⟨S, _, rfl, s, q, fun S1 v0 v d G up q1 s1 st1 h0 hole => ⟨S1, _, rfl, s1, q1, fun S2 kv kd Fk ⟨eenv, kvs, key, d1, ed, ek, el, nd, q2⟩ s2 st2 v2 => ?_⟩⟩
  subst ed
  have hole2 := hole.stp s1 st2 (by simp)
  obtain ⟨a, m, w, G1, rfl, ha, hv, hole3⟩ := hole2.key el nd
  have key : kv = kV key := v2.rep.key ek
  exact ⟨a, w, rfl, .inl ⟨m, _, .inl ha, key, hv.symm⟩, k S2 v0 w d1 G1 _ q2 s2 (st1.then0 st2) h0 hole3⟩⟩
theorem tyV_own {K : PySem.W.Frag} {H : Hp} {a : Addr} {vs : List V} (h : H a = some (.lst vs)) : tyV K "list" (.ref a) H := .inl ⟨rfl, vs, .inl (.inl h)⟩
/-- what changes the inner list: its new items, what they own -/
theorem Hole.write {K : PySem.W.Frag} {S : W} {σ : L2.St} {v0 : V} {a : Addr} {d' : D} {G : AS} {up : D → D} {xs : List D} {o' : HO} {Fy : AS} (h : Hole K S.Z S.H (S.F i) v0 (.ref a) (.lst true xs) G up) (s : SR K σ S) (h0 : σ[i]? = some (some v0))
    (ga : G a) (rep : Rep K S.Z (upd S.H a o') (.ref a) d' (fun b => G b ∨ Fy b)) (ow : ∀ b, Fy b → (∀ j, ¬ S.F j b)) (tv : ∀ b, Fy b → (∃ o, S.H b = some o) ∧ S.Z b = none) :
    SR K σ ⟨S.Z, upd S.H a o', S.env.set i (some (up d')), putF S.F i (fun b => S.F i b ∨ Fy b)⟩ ∧ Ext S.Z S.H (fun b => b = a) S.Z (upd S.H a o') := by
  have big := h.back S.Z (upd S.H a o') d' (fun b => G b ∨ Fy b) (fun _ _ z => z) (fun b o f n e => by
    have : b ≠ a := fun z => n (z ▸ ga)
    rw [upd_ne this]; exact e) (fun _ _ _ z => z) (fun b z => z.imp id fun z => ow b z i) rep
  have big : Rep K S.Z (upd S.H a o') v0 (up d') (fun b => S.F i b ∨ Fy b) := big.mono fun b z => z.elim .inl fun z => z.elim (fun z => .inl (h.sub b z)) .inr
  have fa := h.sub a ga
  obtain ⟨s2, _, x2⟩ := s.mut (i := i) h0 fa big fun b z => ⟨z.imp id fun z => ow b z, by
    have h : (∃ o, S.H b = some o) ∧ S.Z b = none := z.elim (s.tr i b) (tv b)
    obtain ⟨⟨o, h⟩, hz⟩ := h
    refine ⟨?_, hz⟩
    by_cases e : b = a
    · exact ⟨_, by rw [e]; exact upd_same⟩
    · exact ⟨o, by rw [upd_ne e]; exact h⟩⟩
  exact ⟨s2, x2⟩
/-- path.append(e) -/
def hApp (i : Nat) (th : TXH) (ta : TX) : TX := fun env Q => th env fun d up env1 => isLst d = true ∧ ta env1 fun y env2 => ∃ xs, d = .lst true xs ∧ xs.length < sizeLine ∧ Q .non (env2.set i (some (up (.lst true (xs ++ [y])))))
theorem isLst_inv {d : D} (h : isLst d = true) : ∃ o xs, d = .lst o xs := by
  cases d with
  | lst o xs => exact ⟨o, xs, rfl⟩
  | _ => cases h
theorem xp_append (ho : XP X o i M th) (ha : XX X e Ma [] ta) (hi : i ∉ Ma := by decide)
    (hbase : attributeBase o "append" X.env (eval o X.env) = eval o X.env := by rfl)
    (few : ((backTo pos (starEach [e] X.env)).all (fun z => !z.1) && (backToKw pos (keywordEach [] X.env)).all (fun z => z.1.isSome) && decide ([e].length + ([] : List Keyword).length + (if ([] : List Keyword).isEmpty then 0 else 1) < 30)) = true := by rfl)
    (hline : (apos.endLine == pos.line) = true := by rfl) (star : starEach [e] X.env = (false, eval e X.env) :: starEach [] X.env := by rfl) (plain : (backTo pos (starEach [] X.env)).any (·.1) = false := by rfl) :
    XX X (.Call (.Attribute o "append" apos) [e] [] pos) (M ++ Ma ++ [i]) [] (hApp i th ta) := ⟨pe_imp (pe_bm PySem.F.plainAttrs_list PySem.F.slot_list_append PySem.F.type_list_append mt_append ho.pe (pa_cons ha.pe pa_nil star) hbase few hline star plain) fun σ H Q ⟨S, Qt, eH, s, q, k⟩ => by
  subst eH
  refine ⟨S, _, rfl, s, q, fun S1 v0 v d G up ⟨isl, q1⟩ s1 st1 h0 hole => ?_⟩
  obtain ⟨oo, ys, rfl⟩ := isLst_inv isl
  refine ⟨tyV_lst s1 hole.rep, S1, _, rfl, s1, q1, fun S2 y dy Fy ⟨xs, ed, hl, q2⟩ s2 st2 v2 => ?_⟩
  cases ed
  have h2 := hole.stp s1 st2 hi
  obtain ⟨a, vs, G0, rfl, ga, ha, za, rl, hG⟩ := h2.rep.own_inv
  have w := v2.s
  have hn : ∀ b, Fy b → ∀ j, ¬ S2.F j b := fun b z => (w.ow b z).1
  have nya : ¬ Fy a := fun z => hn a z i (h2.sub a ga)
  have nga : ¬ G0 a := fun z => (hG a z).2 rfl
  refine ⟨a, vs, y, rfl, rfl, ha, by rw [rl.length]; exact hl, ?_⟩
  obtain ⟨s3, x3⟩ := h2.write (o' := .lst (vs ++ [y])) (d' := .lst true (ys ++ [dy])) (Fy := Fy) s2 h0 ga
    (.lstO (G := fun b => G0 b ∨ Fy b) (.inl ga) upd_same za ((rl.upd nga).snoc (w.rep.upd nya) fun b z y => hn b z i (h2.sub b (hG b y).1)) fun b z => z.elim (fun z => ⟨.inl (hG b z).1, (hG b z).2⟩) fun z => ⟨.inr z, fun e => nya (e ▸ z)⟩) hn w.tv
  exact k _ _ _ nF q2 s3 ((st1.trans st2).mut (h2.sub a ga) x3 fun b z => z.imp id fun z => by
    rcases (w.ow b z).2 with h | ⟨j, hj⟩
    · exact .inl (st1.none_of h)
    · rcases v2.ow b z with ⟨l, hl, _⟩ | ⟨_, h⟩
      · cases hl
      · rcases h with h | ⟨l, hl, hf⟩
        · exact .inl (st1.none_of h)
        · by_cases hm : l ∈ M
          · rcases st1.nf l b hm hf with ⟨j, q1, q2⟩ | q
            · exact .inr ⟨j, List.mem_append_left _ q1, q2⟩
            · exact .inl q
          · rw [(st1.frm l hm).2] at hf
            exact .inr ⟨l, List.mem_append_right _ hl, hf⟩) (.imm .non)⟩
/-- path.clear() -/
def hClear (i : Nat) (th : TXH) : TX := fun env Q => th env fun d up env1 => ∃ xs, d = .lst true xs ∧ Q .non (env1.set i (some (up (.lst true []))))
theorem xp_clear (ho : XP X o i M th) (hbase : attributeBase o "clear" X.env (eval o X.env) = eval o X.env := by rfl) (hline : (apos.endLine == pos.line) = true := by rfl) :
    XX X (.Call (.Attribute o "clear" apos) [] [] pos) (M ++ [i]) [] (hClear i th) := ⟨pe_imp (pe_bm0 PySem.F.plainAttrs_list PySem.F.slot_list_clear PySem.F.type_list_clear mt_clear ho.pe hbase hline) fun σ H Q ⟨S, Qt, eH, s, q, k⟩ => by
  subst eH
  refine ⟨S, _, rfl, s, q, fun S1 v0 v d G up ⟨xs, ed, q1⟩ s1 st1 h0 hole => ?_⟩
  subst ed
  refine ⟨tyV_lst s1 hole.rep, ?_⟩
  obtain ⟨a, vs, G0, rfl, ga, ha, za, rl, hG⟩ := hole.rep.own_inv
  refine ⟨a, vs, rfl, rfl, ha, ?_⟩
  obtain ⟨s3, x3⟩ := hole.write (o' := .lst []) (d' := .lst true []) (Fy := nF) s1 h0 ga (.lstO (G := nF) (.inl ga) upd_same za .nil fun _ z => z.elim) (fun _ z => z.elim) (fun _ z => z.elim)
  exact k _ _ _ nF q1 s3 (st1.mut (hole.sub a ga) x3 fun b z => z.elim .inl fun z => z.elim) (.imm .non)⟩
theorem RepL.erase {K : PySem.W.Frag} {Z H : Hp} : ∀ {vs : List V} {ds : List D} {F : AS} (j : Nat), RepL K Z H vs ds F → RepL K Z H (vs.eraseIdx j) (ds.eraseIdx j) F
  | _, _, _, _, .nil => .nil
  | _, _, _, 0, .cons r t f g => t.mono fun a z => (g a z).1
  | _, _, _, j + 1, .cons r t f g => .cons r (RepL.erase j t) f g
/-- path.pop(n): an item that owns nothing -/
def hPop (i : Nat) (th : TXH) (ta : TX) : TX := fun env Q => th env fun d up env1 => isLst d = true ∧ ta env1 fun nd env2 => ∃ xs n j y, d = .lst true xs ∧ nd = .int n ∧ -(2 ^ 63) ≤ n ∧ n < 2 ^ 63 ∧ ixN xs.length n = some j ∧ xs[j]? = some y ∧ y.frz = y ∧ Q y (env2.set i (some (up (.lst true (xs.eraseIdx j)))))
theorem xp_pop (ho : XP X o i M th) (ha : XX X e Ma R ta) (hi : i ∉ Ma := by decide)
    (hbase : attributeBase o "pop" X.env (eval o X.env) = eval o X.env := by rfl)
    (few : ((backTo pos (starEach [e] X.env)).all (fun z => !z.1) && (backToKw pos (keywordEach [] X.env)).all (fun z => z.1.isSome) && decide ([e].length + ([] : List Keyword).length + (if ([] : List Keyword).isEmpty then 0 else 1) < 30)) = true := by rfl)
    (hline : (apos.endLine == pos.line) = true := by rfl) (star : starEach [e] X.env = (false, eval e X.env) :: starEach [] X.env := by rfl) (plain : (backTo pos (starEach [] X.env)).any (·.1) = false := by rfl) :
    XX X (.Call (.Attribute o "pop" apos) [e] [] pos) (M ++ Ma ++ [i]) [] (hPop i th ta) := ⟨pe_imp (pe_bm PySem.F.plainAttrs_list PySem.F.slot_list_pop PySem.F.type_list_pop mt_popAt ho.pe (pa_cons ha.pe pa_nil star) hbase few hline star plain) fun σ H Q ⟨S, Qt, eH, s, q, k⟩ => by
  subst eH
  refine ⟨S, _, rfl, s, q, fun S1 v0 v d G up ⟨isl, q1⟩ s1 st1 h0 hole => ?_⟩
  obtain ⟨oo, ys, rfl⟩ := isLst_inv isl
  refine ⟨tyV_lst s1 hole.rep, S1, _, rfl, s1, q1, fun S2 y dy Fy ⟨xs, n, j, it, ed, en, b1, b2, hj, hit, hfr, q2⟩ s2 st2 v2 => ?_⟩
  cases ed
  subst en
  have h2 := hole.stp s1 st2 hi
  obtain ⟨a, vs, G0, rfl, ga, ha, za, rl, hG⟩ := h2.rep.own_inv
  obtain ⟨w, hw, rw'⟩ := rl.get hit
  refine ⟨a, vs, n, j, w, rfl, by rw [v2.rep.int_inv], ha, b1, b2, by rw [rl.length]; exact (ixN_seq hj).1, hw, ?_⟩
  have nga : ¬ G0 a := fun z => (hG a z).2 rfl
  obtain ⟨s3, x3⟩ := h2.write (o' := .lst (vs.eraseIdx j)) (d' := .lst true (ys.eraseIdx j)) (Fy := nF) s2 h0 ga (.lstO (G := G0) (.inl ga) upd_same za ((rl.erase j).upd nga) fun b z => ⟨.inl (hG b z).1, (hG b z).2⟩) (fun _ z => z.elim) (fun _ z => z.elim)
  exact k _ _ _ nF q2 s3 ((st1.trans st2).mut (h2.sub a ga) x3 fun b z => z.elim .inl fun z => z.elim) (.imm (rw'.imm hfr))⟩
section read
variable {env : Env} {Q : D → Env → Prop} {QH : D → (D → D) → Env → Prop}
theorem r_hName : hName i env QH = ∃ d, env[i]? = some (some d) ∧ QH d id env := rfl
theorem r_hKey : hKey th tk env QH = th env fun d up env1 => tk env1 fun kd env2 => env2 = env1 ∧ ∃ kvs k d1, d = .dct true kvs ∧ keyD kd = some k ∧ lookK kvs k = some d1 ∧ (kvs.map (·.1)).Nodup ∧ QH d1 (fun d' => up (.dct true (putD kvs k d'))) env2 := rfl
theorem r_hApp : hApp i th ta env Q = th env fun d up env1 => isLst d = true ∧ ta env1 fun y env2 => ∃ xs, d = .lst true xs ∧ xs.length < sizeLine ∧ Q .non (env2.set i (some (up (.lst true (xs ++ [y]))))) := rfl
@[simp ↓] theorem r_hClear : hClear i th env Q = th env fun d up env1 => ∃ xs, d = .lst true xs ∧ Q .non (env1.set i (some (up (.lst true [])))) := rfl
@[simp ↓] theorem r_hPop : hPop i th ta env Q = th env fun d up env1 => isLst d = true ∧ ta env1 fun nd env2 => ∃ xs n j y, d = .lst true xs ∧ nd = .int n ∧ -(2 ^ 63) ≤ n ∧ n < 2 ^ 63 ∧ ixN xs.length n = some j ∧ xs[j]? = some y ∧ y.frz = y ∧ Q y (env2.set i (some (up (.lst true (xs.eraseIdx j))))) := rfl
end read
end
end TT

/-! T19: sum of lists; sorted by abs -/
namespace TT
open PySem PySem.Spec PyProof.Rows L2
theorem args_sum2 (a b : Value) : argsOk "sum" ⟨[a, b], []⟩ := by unfold argsOk; kernel_rfl
def lstO (its : List Value) (c : Nat) : Obj := { cls := .type "list", dict := none, data := .seq its.toArray c, slots := #[] }
def front (parts : Nat → List Value) : Nat → List Value
  | 0 => []
  | i + 1 => front parts i ++ parts i
section
variable {prog : Program} {w : World} {A : Around} {R : Result → Shared → Prop} {I S : Addr} {fp wr : List Addr} {n : Nat} {P : Nat → Value → Prop} {St : Nat → Heap → Prop}
theorem sumL_loop (W : Walks prog w A.in1 I fp wr n P St) (hSf : S ∉ fp) (la : Nat → Addr) (parts : Nat → List Value) (hP : ∀ i v, P i v → v = .ref (la i)) (hlen : ∀ i, i ≤ n → (front parts i).length ≤ sizeLine) (hfp : ∀ b ∈ fp, b < S) :
    ∀ (k i : Nat) (s : Shared) (T : Addr) (c cT : Nat) (stage : Int), n - i = k → i ≤ n → St i s.heap → s.heap.get? S = some (lstO [Value.ref T] c) → s.heap.get? T = some (lstO (front parts i) cT) → T ∉ wr → T ≠ S →
      (∀ j, j < n → ∃ cj, s.heap.get? (la j) = some (lstO (parts j) cj) ∧ la j ∉ wr ∧ la j ≠ S) →
      (∀ h' tk T' c', (∀ b o, b ∉ wr → b ≠ S → s.heap.get? b = some o → h'.get? b = some o) → h'.get? T' = some (lstO (front parts n) c') → (i = n ∧ T' = T ∨ i < n ∧ S < T') → R (.ok (.ret (.ref T'))) { s with heap := h', toks := tk }) →
      codeAny (model prog w) A (.builtin "sum.loop" ⟨[.ref I, .ref S, rawInt stage, rawInt 0], []⟩) R s := by
  have hSw : S ∉ wr := fun h => hSf (W.sub _ h)
  intro k
  induction k with
  | zero =>
    intro i s T c cT stage hk hi hst hS hT hTw hTS hin hR
    have hin' : i = n := by omega
    subst hin'
    refine codeAny_builtin F.entry_sum_loop ?_
    rw [Around.under_plainId F.plain_sum_loop _]
    show wpAny _ A.in1 (seqItems? (.ref S) >>= _) _ _ s
    refine wpAny_bind (wpAny_seqItems hS rfl ?_)
    show wpAny _ A.in1 (tryCatch (pyNext (.ref I)) _ >>= _) _ _ s
    refine wpAny_bind (wpAny_tryCatch (W.done s _ _ hst fun h' tk hk' => ?_))
    exact wpAny_pure (hR h' tk T cT (fun b o hbw _ e => hk' b o hbw e) (hk' T _ hTw hT) (.inl ⟨rfl, rfl⟩))
  | succ k ih =>
    intro i s T c cT stage hk hi hst hS hT hTw hTS hin hR
    have hlt : i < n := by omega
    refine codeAny_builtin F.entry_sum_loop ?_
    rw [Around.under_plainId F.plain_sum_loop _]
    show wpAny _ A.in1 (seqItems? (.ref S) >>= _) _ _ s
    refine wpAny_bind (wpAny_seqItems hS rfl ?_)
    show wpAny _ A.in1 (tryCatch (pyNext (.ref I)) _ >>= _) _ _ s
    refine wpAny_bind (wpAny_tryCatch (W.item i s _ _ hlt hst fun v h' tk hPv hst' hk' => ?_))
    obtain rfl := hP i v hPv
    have hS' := hk' S _ hSw hS
    have hT' := hk' T _ hTw hT
    obtain ⟨ci, hL, hLw, hLS⟩ := hin i hlt
    have hL' := hk' _ _ hLw hL
    show wpAny _ A.in1 ((holding [Value.ref (la i)] (binaryOp .Add (.ref T) (.ref (la i)))).attempt >>= _) _ _ _
    have nS : S < h'.objs.size := Heap.lt_size hS'
    have room : (front parts i).toArray.size + (parts i).toArray.size ≤ sizeLine := by
      have := hlen (i + 1) hlt
      rw [front, List.length_append] at this
      rw [List.size_toArray, List.size_toArray]
      exact this
    refine wpAny_bind (wpAny_attempt (wpAny_holding (PySem.P.add_list hT' hL' ?_ room)))
    have new := Heap.get?_push_size (h := h') (o := { cls := .type "list", data := .seq ((front parts i).toArray ++ (parts i).toArray) }) rfl
    have eqn : (front parts i).toArray ++ (parts i).toArray = (front parts (i + 1)).toArray := by rw [List.append_toArray]; rfl
    rw [eqn] at new ⊢
    have hS2 : (h'.push { cls := .type "list", data := .seq (front parts (i + 1)).toArray }).get? S = some (lstO [Value.ref T] c) := Heap.get?_push_of_some _ hS'
    show wpAny _ A.in1 (updateSeq S (fun _ => #[Value.ref h'.objs.size]) >>= _) _ _ _
    refine wpAny_bind (wpAny_updateSeq hS2 rfl ?_)
    have hS3 := Heap.get?_update_self (Obj.mapSeq fun _ => #[Value.ref h'.objs.size]) hS2 rfl
    refine wpAny_bind (wpAny_letGo ?_)
    refine wpAny_bind (wpAny_updateSeq hS3 rfl (wpAny_pure ⟨plainId_quiet F.plain_sum_loop _, ?_⟩))
    have hS4 := Heap.get?_update_self (Obj.mapSeq fun _ => #[Value.ref h'.objs.size]) hS3 rfl
    have old : ∀ b o, b ≠ S → h'.get? b = some o → (((h'.push { cls := .type "list", data := .seq (front parts (i + 1)).toArray }).update S (Obj.mapSeq fun _ => #[Value.ref h'.objs.size])).update S (Obj.mapSeq fun _ => #[Value.ref h'.objs.size])).get? b = some o := fun b o hb e =>
      (Heap.get?_update_other _ _ (Ne.symm hb)).trans ((Heap.get?_update_other _ _ (Ne.symm hb)).trans (Heap.get?_push_of_some _ e))
    have nN : h'.objs.size ≠ S := Nat.ne_of_gt nS
    refine ih (i + 1) _ h'.objs.size _ 0 2 (by omega) hlt (W.frame _ _ _ hst' fun b hb o e => old b o (fun z => hSf (z ▸ hb)) e) hS4 ((Heap.get?_update_other _ _ (Ne.symm nN)).trans ((Heap.get?_update_other _ _ (Ne.symm nN)).trans new))
      (fun z => absurd nS (Nat.lt_asymm (hfp _ (W.sub _ z)))) nN (fun j hj => ?_) fun h2 tk2 T2 c2 k2 g2 d2 => hR h2 tk2 T2 c2 (fun b o hbw hbS e => k2 b o hbw hbS (old b o hbS (hk' b o hbw e))) g2 (.inr ⟨hlt, ?_⟩)
    · obtain ⟨cj, a, b, c⟩ := hin j hj
      exact ⟨cj, old _ _ c (hk' _ _ b a), b, c⟩
    · rcases d2 with ⟨_, e⟩ | ⟨_, e⟩
      · rw [e]; exact nS
      · exact e
/-- sum(xs, start): lists -/
theorem sumL_call {E : Value → Shared → Prop} {s : Shared} {a b : Addr} {la : Nat → Addr} {parts : Nat → List Value} {items : Array Value} {ca cb : Nat} {Q : Value → Shared → Prop} (hh : A.handled = none) (ho : s.heap.get? a = some (lstO items.toList ca)) (hb : s.heap.get? b = some (lstO [] cb))
    (hit : ∀ (i : Nat) (v : Value), items[i]? = some v → v = Value.ref (la i)) (hin : ∀ j, j < items.size → ∃ cj, s.heap.get? (la j) = some (lstO (parts j) cj)) (hlen : ∀ i, i ≤ items.size → (front parts i).length ≤ sizeLine)
    (h : ∀ h' tk T' c', (∀ x o, s.heap.get? x = some o → h'.get? x = some o) → h'.get? T' = some (lstO (front parts items.size) c') → (items.size = 0 ∧ T' = b ∨ 0 < items.size ∧ s.heap.objs.size ≤ T') → Q (.ref T') { s with heap := h', toks := tk }) :
    wpAny (model prog w) A (call (.builtin "sum") [.ref a, .ref b]) Q E s := by
  have hl : s.heap.IsList a items := ⟨_, ho, rfl, ca, by simp [lstO]⟩
  refine call_function_tree F.kind_sum F.plain_sum F.entry_sum (args_sum2 _ _) ?_
  unfold Builtin.«sum»
  simp only [List.length_cons, List.length_nil]
  rw [if_neg (by decide)]
  refine wpAny_bind (wpAny_of_eq (show Builtin.Builtins.bindParams "sum" ["start"] 0 ⟨[.ref b], []⟩ = pure [some (.ref b)] from rfl) ?_)
  refine wpAny_bind (wpAny_pyIter_list hl ?_)
  have alt := Heap.lt_size ho
  have blt := Heap.lt_size hb
  refine wpAny_bind (wpAny_pure ?_)
  have hb2 : (s.heap.push { cls := .type "list_iterator", data := .fields #[.ref a, .int 0 0] }).get? b = some (lstO [] cb) := Heap.get?_push_of_some _ hb
  simp only [List.forIn_cons, List.forIn_nil]
  have ty : ({ s with heap := s.heap.push { cls := .type "list_iterator", data := .fields #[.ref a, .int 0 0] } } : Shared).TypeIs (.ref b) "list" := ⟨_, hb2, rfl⟩
  refine wpAny_bind (wpAny_bind (wpAny_bind (wpAny_isInstance (T := "list") (b := false) ty PySem.F.sub_list_str ?_)))
  simp only [Bool.false_eq_true, if_false]
  refine wpAny_pure (wpAny_bind (wpAny_bind (wpAny_isInstance (T := "list") (b := false) ty PySem.F.sub_list_bytes ?_)))
  simp only [Bool.false_eq_true, if_false]
  refine wpAny_pure (wpAny_bind (wpAny_bind (wpAny_isInstance (T := "list") (b := false) ty PySem.F.sub_list_bytearray ?_)))
  simp only [Bool.false_eq_true, if_false]
  refine wpAny_pure (wpAny_pure ?_)
  refine wpAny_bind (wpAny_newObj_type ?_)
  have hne : a ≠ s.heap.objs.size := Nat.ne_of_lt alt
  have W : Walks prog w A.in1 _ _ _ _ _ _ := Walks.list (A := A.in1) hh s.heap.objs.size a hne items
  have sz1 : (s.heap.push { cls := .type "list_iterator", data := .fields #[.ref a, .int 0 0] }).objs.size = s.heap.objs.size + 1 := Heap.size_push ..
  refine wpAny_pure ⟨plainId_quiet F.plain_sum_loop _, ?_⟩
  have gi : (s.heap.push { cls := .type "list_iterator", data := .fields #[.ref a, .int 0 0] }).get? s.heap.objs.size = some { cls := .type "list_iterator", data := .fields #[.ref a, .int 0 0] } := Heap.get?_push_size _ rfl
  have old : ∀ x o, s.heap.get? x = some o → (s.heap.push { cls := .type "list_iterator", data := .fields #[.ref a, .int 0 0] }).get? x = some o := fun x o e => Heap.get?_push_of_some _ e
  have ltS : ∀ x, x < s.heap.objs.size → x < (s.heap.push { cls := .type "list_iterator", data := .fields #[.ref a, .int 0 0] }).objs.size := fun x hx => by rw [sz1]; exact Nat.lt_succ_of_lt hx
  have selfS : s.heap.objs.size < (s.heap.push { cls := .type "list_iterator", data := .fields #[.ref a, .int 0 0] }).objs.size := by rw [sz1]; exact Nat.lt_succ_self _
  refine sumL_loop W (fun z => ?_) la parts hit hlen (fun x hx => ?_) items.size 0 _ b _ _ 2 rfl (Nat.zero_le _) ⟨⟨_, Heap.get?_push_of_some _ gi, rfl, rfl⟩, ⟨_, Heap.get?_push_of_some _ (old a _ ho), rfl, ca, by simp [lstO]⟩⟩ (Heap.get?_push_size _ rfl) (Heap.get?_push_of_some _ hb2)
    (fun z => ?_) (Nat.ne_of_lt (ltS b blt)) (fun j hj => ?_) fun h' tk T' c' k g d => h h' tk T' c' (fun x o e => ?_) g ?_
  · rcases List.mem_cons.mp z with e | z
    · have e : (s.heap.push { cls := .type "list_iterator", data := .fields #[.ref a, .int 0 0] }).objs.size = s.heap.objs.size := e
      exact absurd (sz1.symm.trans e) (Nat.succ_ne_self _)
    · rcases List.mem_cons.mp z with e | z
      · have e : (s.heap.push { cls := .type "list_iterator", data := .fields #[.ref a, .int 0 0] }).objs.size = a := e
        exact absurd (ltS a alt) (by rw [e]; exact Nat.lt_irrefl _)
      · cases z
  · rcases List.mem_cons.mp hx with e | z
    · rw [e]; exact selfS
    · rcases List.mem_cons.mp z with e | z
      · rw [e]; exact ltS a alt
      · cases z
  · rcases List.mem_cons.mp z with e | z
    · exact absurd blt (by rw [e]; exact Nat.lt_irrefl _)
    · cases z
  · obtain ⟨cj, e⟩ := hin j hj
    refine ⟨cj, Heap.get?_push_of_some _ (old _ _ e), fun z => ?_, Nat.ne_of_lt (ltS _ (Heap.lt_size e))⟩
    rcases List.mem_cons.mp z with e' | z
    · exact absurd (Heap.lt_size e) (by rw [e']; exact Nat.lt_irrefl _)
    · cases z
  · refine k x o (fun z => ?_) (Nat.ne_of_lt (ltS _ (Heap.lt_size e))) (Heap.get?_push_of_some _ (old _ _ e))
    rcases List.mem_cons.mp z with e' | z
    · exact absurd (Heap.lt_size e) (by rw [e']; exact Nat.lt_irrefl _)
    · cases z
  · rcases d with ⟨e, e2⟩ | ⟨e, e2⟩
    · exact .inl ⟨e.symm, e2⟩
    · exact .inr ⟨e, Nat.le_of_lt (Nat.lt_trans selfS e2)⟩
end
/-! ### .. on trees -/
theorem front_vals {parts : Nat → List Value} : ∀ {n : Nat} {pss : List (List V)}, pss.length = n → (∀ j ps, pss[j]? = some ps → Vals ps (parts j)) → Vals pss.flatten (front parts n)
  | 0, pss, hl, _ => by
    have : pss = [] := List.length_eq_zero_iff.mp hl
    subst this
    exact .nil
  | n + 1, pss, hl, h => by
    have hne : pss ≠ [] := fun e => by rw [e] at hl; cases hl
    have e : pss = pss.dropLast ++ [pss.getLast hne] := (List.dropLast_concat_getLast hne).symm
    have hl2 : pss.dropLast.length = n := by rw [List.length_dropLast, hl]; rfl
    have hlast : pss[n]? = some (pss.getLast hne) := by rw [List.getLast_eq_getElem, List.getElem?_eq_getElem (by omega)]; simp [hl]
    have ih := front_vals (parts := parts) hl2 fun j ps hj => h j ps (by
      have hj2 : j < pss.dropLast.length := (List.getElem?_eq_some_iff.mp hj).1
      rw [List.getElem?_dropLast] at hj
      split at hj
      · exact hj
      · cases hj)
    rw [front, e, List.flatten_append, List.flatten_cons, List.flatten_nil, List.append_nil]
    exact ih.append (h n _ hlast)
theorem vals_refs : ∀ {ls : List Addr} {us : List Value}, Vals (ls.map V.ref) us → us = ls.map Value.ref
  | [], us, h => by cases h; rfl
  | l :: ls, us, h => by
    cases h with
    | cons r t => rw [show _ = Value.ref l from r, vals_refs t]; rfl
def rSumL : List V → Hp → VK → Prop := fun vs H Q => ∃ (a b : Addr) (ls : List Addr) (pss : List (List V)), vs = [V.ref a, V.ref b] ∧ Rd H a (.lst (ls.map V.ref)) ∧ H b = some (.lst []) ∧ ls.length = pss.length ∧
  (∀ (i : Nat) (l : Addr) (ps : List V), ls[i]? = some l → pss[i]? = some ps → Rd H l (.lst ps)) ∧ pss.flatten.length ≤ sizeLine ∧ (ls = [] → Q (.ref b) H) ∧ ∀ p, H p = none → Q (.ref p) (upd H p (.lst pss.flatten))
theorem call_sumL {X : Cx} (hc : X.calm = true) : CallR X (.builtin "sum") rSumL := by
  intro pins s σ H vs us Q I r h
  obtain ⟨a, b, ls, pss, rfl, ra, hb, hlen, hin, hsz, q0, q1⟩ := h
  obtain ⟨u1, u2, rfl, e1, e2⟩ := vals2 r
  obtain rfl : u1 = Value.ref a := e1
  obtain rfl : u2 = Value.ref b := e2
  obtain ⟨its, ca, rv, hl, ga⟩ := lst_rd I ra
  obtain ⟨itb, cb, rvb, _, gb⟩ := lst_rd I (.inl hb)
  obtain rfl : itb = [] := by cases rvb; rfl
  obtain rfl := vals_refs rv
  have pick : ∀ j : Nat, ∃ ps : List Value, ∀ l qs, ls[j]? = some l → pss[j]? = some qs → Vals qs ps ∧ ∃ cj, s.heap.get? l = some (lstO ps cj) := fun j => by
    cases h1 : ls[j]? with
    | none => exact ⟨[], fun l qs e => by cases e⟩
    | some l =>
      cases h2 : pss[j]? with
      | none => exact ⟨[], fun l qs _ e => by cases e⟩
      | some qs =>
        obtain ⟨ps, cj, rp, _, gp⟩ := lst_rd I (hin j l qs h1 h2)
        exact ⟨ps, fun l' qs' e e' => by cases e; cases e'; exact ⟨rp, cj, gp⟩⟩
  obtain ⟨parts, hp⟩ := Classical.axiomOfChoice pick
  have hn : (ls.map Value.ref).toArray.size = pss.length := by rw [List.size_toArray, List.length_map, hlen]
  have fv : ∀ n, n ≤ pss.length → Vals (pss.take n).flatten (front parts n) := fun n hn => front_vals (by rw [List.length_take]; omega) fun j ps hj => by
    have hj2 : j < (pss.take n).length := (List.getElem?_eq_some_iff.mp hj).1
    rw [List.length_take] at hj2
    have hj3 : pss[j]? = some ps := by rw [List.getElem?_take] at hj; split at hj; exact hj; cases hj
    have : ls[j]? = some ls[j] := List.getElem?_eq_getElem (by omega)
    exact (hp j _ _ this hj3).1
  have full : Vals pss.flatten (front parts pss.length) := by
    have := fv pss.length (Nat.le_refl _)
    rw [List.take_length] at this
    exact this
  refine sumL_call (I.ok.hd hc) (items := (ls.map Value.ref).toArray) (la := fun j => ls.getD j 0) (parts := parts) (ca := ca) (cb := cb) (by simpa [lstO] using ga) gb (fun i v e => ?_) (fun j hj => ?_) (fun i hi => ?_) fun h' tk T' c' k g d => ?_
  · have e : (ls.map Value.ref)[i]? = some v := by rw [← e]; simp
    rw [List.getElem?_map] at e
    cases q : ls[i]? with
    | none => rw [q] at e; cases e
    | some l =>
      rw [q] at e
      have := Option.some.inj e
      rw [← this]
      simp [List.getD, q]
  · have hj : j < ls.length := by simpa using hj
    have q1 : ls[j]? = some ls[j] := List.getElem?_eq_getElem hj
    have q2 : pss[j]? = some (pss[j]'(by omega)) := List.getElem?_eq_getElem (by omega)
    have := (hp j _ _ q1 q2).2
    simpa [List.getD, q1] using this
  · rw [hn] at hi
    rw [← (fv i hi).length]
    refine Nat.le_trans ?_ hsz
    have : pss = pss.take i ++ pss.drop i := (List.take_append_drop i pss).symm
    conv => rhs; rw [this]
    rw [List.flatten_append, List.length_append]
    exact Nat.le_add_right _ _
  · rw [hn] at g d
    rcases d with ⟨d1, d2⟩ | ⟨d1, d2⟩
    · subst d2
      have : ls = [] := List.length_eq_zero_iff.mp (hlen.trans d1)
      exact ⟨.ref T', H, I.kept k, rfl, q0 this⟩
    · exact ⟨.ref T', upd H T' (.lst pss.flatten), I.laid (t' := tk) k d2 ⟨hsz, _, c', full, g⟩, rfl, q1 T' (I.hok.fresh d2)⟩
theorem RepL.parts {K : PySem.W.Frag} {Z H : Hp} : ∀ {xss : List (List D)} {vs : List V} {F : AS}, RepL K Z H vs (xss.map fun xs => D.lst false xs) F → (∀ xs ∈ xss, frzL xs = xs) →
    ∃ (ls : List Addr) (pss : List (List V)), vs = ls.map V.ref ∧ ls.length = pss.length ∧ (∀ (i : Nat) (l : Addr) (ps : List V), ls[i]? = some l → pss[i]? = some ps → Rd Z l (.lst ps)) ∧ ∀ H', RepL K Z H' pss.flatten xss.flatten nF
  | [], _, _, h, _ => by
    cases h
    exact ⟨[], [], rfl, rfl, fun i l ps e => by simp at e, fun _ => .nil⟩
  | xs :: xss, _, _, h, hf => by
    cases h with
    | cons r t f g =>
      obtain ⟨ls, pss, rfl, h1, h2, h3⟩ := RepL.parts t fun ys hy => hf ys (List.mem_cons_of_mem _ hy)
      cases r with
      | lstF ha hr =>
        rename_i a ws
        refine ⟨a :: ls, ws :: pss, rfl, by simp [h1], fun i l ps e e' => ?_, fun H' => ?_⟩
        · cases i with
          | zero => simp at e e'; subst e e'; exact ha
          | succ i => exact h2 i l ps (by simpa using e) (by simpa using e')
        · rw [List.flatten_cons, List.flatten_cons]
          exact (hr.imm' (hf xs List.mem_cons_self)).append (h3 H')
/-- sum(xss, []) of frozen lists -/
def gSumL : List D → (D → Prop) → Prop := fun ds Q => ∃ (o : Bool) (xss : List (List D)), ds = [.lst o (xss.map fun xs => D.lst false xs), .lst true []] ∧ (∀ xs ∈ xss, frzL xs = xs) ∧ xss.flatten.length ≤ sizeLine ∧ Q (.lst true xss.flatten)
theorem RepA.two {K : PySem.W.Frag} {Z H : Hp} {F : AS} {vs : List V} {d e : D} (h : RepA K Z H F vs [d, e]) : ∃ v w, vs = [v, w] ∧ Rep K Z H v d F ∧ Rep K Z H w e F := paired2 h
section
variable {X : Cx} {a : Expr} {M R : List Nat} {ta : TX} {pos p p2 : Pos}
def sumQ (Q : D → Env → Prop) : List D → Env → Prop := fun ds env => match ds with
  | [d, .lst true []] => ∃ (o : Bool) (xss : List (List D)), d = .lst o (xss.map fun xs => D.lst false xs) ∧ (∀ xs ∈ xss, frzL xs = xs) ∧ xss.flatten.length ≤ sizeLine ∧ Q (.lst true xss.flatten) env
  | _ => False
theorem sumQ_inv {Q : D → Env → Prop} {ds : List D} {env : Env} (h : sumQ Q ds env) : ∃ (o : Bool) (xss : List (List D)), ds = [.lst o (xss.map fun xs => D.lst false xs), .lst true []] ∧ (∀ xs ∈ xss, frzL xs = xs) ∧ xss.flatten.length ≤ sizeLine ∧ Q (.lst true xss.flatten) env := by
  unfold sumQ at h
  split at h
  · obtain ⟨o, xss, e, r⟩ := h
    exact ⟨o, xss, by rw [e], r⟩
  · exact h.elim
def oSumL (t : TX) : TX := fun env Q => t env fun d env1 => ∃ (o : Bool) (xss : List (List D)), d = .lst o (xss.map fun xs => D.lst false xs) ∧ (∀ xs ∈ xss, frzL xs = xs) ∧ xss.flatten.length ≤ sizeLine ∧ Q (.lst true xss.flatten) env1
theorem x_sumL (hc : X.calm = true) (hg : Gl X "sum") (hm : X.mg "sum" = none) (ha : XX X a M [] ta) (na : starEach [a, .List [] p2] X.env = (false, eval a X.env) :: starEach [.List [] p2] X.env := by rfl) (nb : starEach [.List [] p2] X.env = (false, eval (.List [] p2) X.env) :: starEach [] X.env := by rfl) (hpl : (backTo pos (starEach [.List [] p2] X.env)).any (·.1) = false := by rfl) :
    XX X (.Call (.Name "sum" p) [a, .List [] p2] [] pos) (M ++ []) [] (oSumL ta) := by
  have hargs : XL X [a, .List [] p2] (M ++ []) (aCons ta (aCons (oLst aNil) aNil)) := xl_cons ha (xl_cons (x_lst xl_nil) xl_nil nb) na
  refine ⟨pe_imp (pe_callB (call_sumL hc) hg hm (by decide +kernel) hargs.pa (by decide) (by decide) na hpl) fun σ H Q ⟨S, Qt, eH, s, q, k⟩ => by
  subst eH
  refine ⟨S, sumQ Qt, rfl, s, q, fun S1 vs ds Fv q1 hl s1 st1 v1 => ?_⟩
  obtain ⟨o, xss, rfl, hf, hz, q2⟩ := sumQ_inv q1
  cases v1.rep with
  | cons r t f g =>
    cases t with
    | cons r2 t2 f2 g2 =>
      cases t2
      rename_i G E v1' G2 E2 v2'
      obtain ⟨a1, ws, rfl, ra, rl⟩ := r.lst_inv s1.zh
      obtain ⟨b1, vb, Gb, rfl, fb, hb, zb, rb, _⟩ := r2.own_inv
      cases rb
      obtain ⟨ls, pss, rfl, h1, h2, h3⟩ := RepL.parts rl hf
      have hfl : pss.flatten.length = xss.flatten.length := (h3 S1.H).length
      have fbF : Fv b1 := (g b1 (f2 b1 fb)).1
      refine ⟨a1, b1, ls, pss, rfl, ra, hb, h1, fun i l ps e e' => Rd.sub s1.zh (h2 i l ps e e'), by rw [hfl]; exact hz, fun e => ?_, fun p hp => ?_⟩
      · subst e
        have hp0 : pss = [] := List.length_eq_zero_iff.mp h1.symm
        have hx0 : xss.flatten = [] := by rw [hp0] at hfl; exact List.length_eq_zero_iff.mp hfl.symm
        rw [hx0] at q2
        exact k S1 _ _ (fun c => c = b1) q2 s1 st1 ⟨.lstO (G := nF) rfl hb zb .nil fun _ z => z.elim, fun c z => by subst z; exact v1.tv _ fbF, fun c z => by subst z; exact .inr (v1.ow _ fbF)⟩
      · obtain ⟨x, zh⟩ := ext_new (o := .lst pss.flatten) s1.zh hp
        have zp : S1.Z p = none := by
          cases e : S1.Z p with
          | none => rfl
          | some u => have := s1.zh p u e; rw [hp] at this; cases this
        refine k ⟨S1.Z, upd S1.H p (.lst pss.flatten), S1.env, S1.F⟩ _ _ (fun c => c = p) q2 (s1.more x zh) (st1.then0 (.more x)) ⟨.lstO (G := nF) rfl upd_same zp (h3 _) fun _ z => z.elim, fun c z => ?_, fun c z => ?_⟩
        · subst z; exact ⟨⟨_, upd_same⟩, zp⟩
        · subst z; exact .inr ⟨fun i z => s1.noF hp z, .inl (st1.none_of hp)⟩⟩
end
@[simp ↓] theorem r_oSumL {ta : TX} {env : Env} {Q : D → Env → Prop} : oSumL ta env Q = ta env fun d env1 => ∃ (o : Bool) (xss : List (List D)), d = .lst o (xss.map fun xs => D.lst false xs) ∧ (∀ xs ∈ xss, frzL xs = xs) ∧ xss.flatten.length ≤ sizeLine ∧ Q (.lst true xss.flatten) env1 := rfl
/-! ### sorted(ints, key=abs) -/
def absI (i : Int) : Int := if i < 0 then -i else i
def byAbs (ns : List Int) : List Int := ns.mergeSort fun a b => decide (absI a ≤ absI b)
theorem each_ints : ∀ {ns : List Int} {us : List Value}, Vals (ns.map V.int) us → PySem.W.EachIs (fun v i => ∃ t, v = Value.int i t) us ns
  | [], us, h => by cases h; exact .nil
  | n :: ns, us, h => by
    cases h with
    | cons r t => exact .cons r (each_ints t)
theorem ints_each : ∀ {ns : List Int} {us : List Value}, PySem.W.EachIs (fun v i => ∃ t, v = Value.int i t) us ns → Vals (ns.map V.int) us
  | [], us, h => by cases h; exact .nil
  | n :: ns, us, h => by
    cases h with
    | cons r t => exact .cons r (ints_each t)
def tSortAbs (te : TE) (K : PySem.W.Frag) : TE := fun σ H Q => te σ H fun x H1 => ∃ (a : Addr) (ns : List Int), x = V.ref a ∧ SqL K H1 a (ns.map V.int) ∧ ∀ p, H1 p = none → Q (.ref p) (upd H1 p (.lst ((byAbs ns).map V.int)))
section
variable {X : Cx} {a : Expr} {M R : List Nat} {ta : TX} {pos p p2 kpos : Pos} {te : TE}
theorem pe_sortAbs (hc : X.calm = true) (hu : X.A.units + 65 < cLine) (hg : Gl X "sorted") (hm : X.mg "sorted" = none) (hg2 : Gl X "abs") (hm2 : X.mg "abs" = none) (ha : PE X a te)
    (he : backTo pos (starEach [a] X.env) = (false, eval a X.env) :: backTo pos (starEach [] X.env) := by rfl) (na : starEach [a] X.env = (false, eval a X.env) :: starEach [] X.env := by rfl) (hpl : (backTo pos (starEach [a] X.env)).any (·.1) = false := by rfl)
    (hall : (backToKw pos (keywordEach [⟨some "key", .Name "abs" p2, kpos⟩] X.env)).all (·.1.isSome) = true := by rfl) (hnone : (backToKw pos (keywordEach [⟨some "key", .Name "abs" p2, kpos⟩] X.env)).any (·.1.isNone) = false := by rfl) (hks : (backToKw pos (keywordEach [⟨some "key", .Name "abs" p2, kpos⟩] X.env)).filterMap (·.1) = [Str.ofString "key"] := by rfl) :
    PE X (.Call (.Name "sorted" p) [a] [⟨some "key", .Name "abs" p2, kpos⟩] pos) (tSortAbs te X.K) := by
  refine ⟨fun pins s σ H Q I h => ?_⟩
  refine wpAny_Call_Name_kw (ld_blt I hg hm (u := .builtin "sorted") (by decide +kernel) ?_ (by decide) (by decide))
  refine PyProof.Rows.callWith_kw (thn ((pa_cons ha pa_nil na).run pos pins s σ H (fun vs H1 => match vs with
    | [x] => ∃ (a : Addr) (ns : List Int), x = V.ref a ∧ SqL X.K H1 a (ns.map V.int) ∧ ∀ p, H1 p = none → Q (.ref p) (upd H1 p (.lst ((byAbs ns).map V.int)))
    | _ => False) I h) fun us s1 ⟨vs, H1, I1, r1, q1⟩ => ?_) he hpl hall hnone
  match vs, q1 with
  | [x], q1 =>
    obtain ⟨l, ns, rfl, hs, q⟩ := q1
    obtain ⟨u, rfl, e1⟩ := vals1 r1
    obtain rfl : u = Value.ref l := e1
    rw [hks]
    show wpAny _ _ (evalAll ((do let v ← eval (.Name "abs" p2) X.env; standAt pos; pure v) :: [])) _ _ s1
    refine wpAny_evalAll_cons (wpAny_bind (ld_blt I1 hg2 hm2 (u := .builtin "abs") (by decide +kernel) (wpAny_bind (wpAny_standAt (wpAny_pure ?_))) (by decide) (by decide)))
    refine wpAny_evalAll_nil ?_
    obtain ⟨its, rv, hl, hz⟩ := I1.list hs
    have hz : ns.length ≤ sizeLine := by rw [List.length_map] at hz; exact hz
    refine PySem.W.sorted_key_data (b := false) (f := .builtin "abs") (fun i : Int => PyData.int (absI i)) hl.isList (each_ints rv) (PySem.W.AllAlike.of fun b b' => by simp [PySem.W.alike]) (PySem.W.Sortable.others fun b => ⟨by simp, by simp⟩) hz (fun x _ => ?_) (PyProof.Rows.ksk_s1 _ _) (fun _ => PyProof.Rows.ksk_l1 _ _) (fun x => PyProof.Rows.ksk_t4 "abs" x) (fun v x hv _ h tk hk => ?_) fun out c h' tk k hfr g hlen hout => ?_
    · simp only [PyData.depth]; omega
    · obtain ⟨t, rfl⟩ := hv
      exact PyProof.Rows.call_abs_int fun u tk => ⟨_, _, rfl, fun _ _ e => e, .int _ _⟩
    · rw [PySem.W.dataLe_int] at hout
      have hv : Vals ((byAbs ns).map V.int) out := ints_each hout
      refine ⟨.ref _, upd H1 (s1.heap.objs.size + 1) (.lst ((byAbs ns).map V.int)), I1.laid (t' := tk) k (Nat.le_succ _) ⟨by rw [hv.length, hlen]; exact hz, out, c, hv, g⟩, rfl, q _ (I1.hok.fresh (Nat.le_succ _))⟩
end
section
variable {X : Cx} {a : Expr} {M R : List Nat} {ta : TX} {pos p p2 kpos : Pos}
def oSortAbs (t : TX) : TX := fun env Q => t env fun d env1 => ∃ (ns : List Int), lstItems d = some (ns.map D.int) ∧ Q (.lst true ((byAbs ns).map D.int)) env1
theorem x_sortAbs (hc : X.calm = true) (hu : X.A.units + 65 < cLine) (hg : Gl X "sorted") (hm : X.mg "sorted" = none) (hg2 : Gl X "abs") (hm2 : X.mg "abs" = none) (ha : XX X a M R ta)
    (he : backTo pos (starEach [a] X.env) = (false, eval a X.env) :: backTo pos (starEach [] X.env) := by rfl) (na : starEach [a] X.env = (false, eval a X.env) :: starEach [] X.env := by rfl) (hpl : (backTo pos (starEach [a] X.env)).any (·.1) = false := by rfl)
    (hall : (backToKw pos (keywordEach [⟨some "key", .Name "abs" p2, kpos⟩] X.env)).all (·.1.isSome) = true := by rfl) (hnone : (backToKw pos (keywordEach [⟨some "key", .Name "abs" p2, kpos⟩] X.env)).any (·.1.isNone) = false := by rfl) (hks : (backToKw pos (keywordEach [⟨some "key", .Name "abs" p2, kpos⟩] X.env)).filterMap (·.1) = [Str.ofString "key"] := by rfl) :
    XX X (.Call (.Name "sorted" p) [a] [⟨some "key", .Name "abs" p2, kpos⟩] pos) M [] (oSortAbs ta) := ⟨pe_imp (pe_sortAbs hc hu hg hm hg2 hm2 ha.pe he na hpl hall hnone hks) fun σ H Q ⟨S, Qt, eH, s, q, k⟩ => by
  subst eH
  refine ⟨S, _, rfl, s, q, fun S1 v d Fv ⟨ns, ed, q1⟩ s1 st1 v1 => ?_⟩
  have got : ∃ (l : Addr) (vs : List V), v = V.ref l ∧ SqL X.K S1.H l vs ∧ RepL X.K S1.Z S1.H vs (ns.map D.int) Fv := by
    cases d with
    | lst o ys =>
      cases ed
      obtain ⟨l, vs, rfl, h1, h2⟩ := v1.rep.lst_inv s1.zh
      exact ⟨l, vs, rfl, .inl h1, h2⟩
    | kst ys =>
      cases ed
      exact v1.rep.kst_inv s1.zh
    | _ => cases ed
  obtain ⟨l, vs, rfl, h1, h2⟩ := got
  rw [h2.ints] at h1
  refine ⟨l, ns, rfl, h1, fun p hp => ?_⟩
  obtain ⟨x, zh⟩ := ext_new (o := .lst ((byAbs ns).map V.int)) s1.zh hp
  have zp : S1.Z p = none := by
    cases e : S1.Z p with
    | none => rfl
    | some u => have := s1.zh p u e; rw [hp] at this; cases this
  refine k ⟨S1.Z, upd S1.H p (.lst ((byAbs ns).map V.int)), S1.env, S1.F⟩ _ _ (fun c => c = p) q1 (s1.more x zh) (st1.then0 (.more x)) ⟨.lstO (G := nF) rfl upd_same zp (.of_ints _) fun _ z => z.elim, fun c z => ?_, fun c z => ?_⟩
  · subst z; exact ⟨⟨_, upd_same⟩, zp⟩
  · subst z; exact .inr ⟨fun i z => s1.noF hp z, .inl (st1.none_of hp)⟩⟩
@[simp ↓] theorem r_oSortAbs {env : Env} {Q : D → Env → Prop} : oSortAbs ta env Q = ta env fun d env1 => ∃ (ns : List Int), lstItems d = some (ns.map D.int) ∧ Q (.lst true ((byAbs ns).map D.int)) env1 := rfl
end
end TT

/-! T20: greatest and least of lists -/
namespace TT
open PySem PySem.Spec PyProof.Rows L2
section
variable {X : Cx}
/-- max(ns), min(ns) of ints -/
def gTop (up : Bool) : List D → (D → Prop) → Prop := r1 fun d Q => ∃ ns : List Int, lstItems d = some (ns.map D.int) ∧ ns ≠ [] ∧ ∀ m, m ∈ ns → (∀ y, y ∈ ns → if up = true then y ≤ m else m ≤ y) → Q (.int m)
theorem got_ints {K : PySem.W.Frag} {S : W} {σ : L2.St} {v : V} {d : D} {F : AS} {ns : List Int} (s : SR K σ S) (r : Rep K S.Z S.H v d F) (e : lstItems d = some (ns.map D.int)) : ∃ a, v = V.ref a ∧ SqL K S.H a (ns.map V.int) := by
  cases d with
  | lst o ys =>
    cases e
    obtain ⟨l, vs, rfl, h1, h2⟩ := r.lst_inv s.zh
    exact ⟨l, rfl, by rw [← h2.ints]; exact .inl h1⟩
  | kst ys =>
    cases e
    obtain ⟨l, vs, rfl, h1, h2⟩ := r.kst_inv s.zh
    exact ⟨l, rfl, by rw [← h2.ints]; exact h1⟩
  | _ => cases e
theorem c_max1 (hc : X.calm = true) : CallT X (.builtin "max") (gTop true) := by
  refine ⟨_, cr_max hc, fun σ S vs ds F Qd P s ra ⟨d, e, ns, hn, h0, q⟩ k => ?_⟩
  subst e
  obtain ⟨v, rfl, r⟩ := paired1 ra
  obtain ⟨a, rfl, h1⟩ := got_ints s r hn
  exact ⟨a, ns, rfl, h1, List.length_pos_iff.mpr h0, fun m hm hle => k _ _ _ _ nF (q m hm fun y hy => by rw [if_pos rfl]; exact hle y hy) (.imm s (.int _))⟩
theorem c_min1 (hc : X.calm = true) : CallT X (.builtin "min") (gTop false) := by
  refine ⟨_, cr_min hc, fun σ S vs ds F Qd P s ra ⟨d, e, ns, hn, h0, q⟩ k => ?_⟩
  subst e
  obtain ⟨v, rfl, r⟩ := paired1 ra
  obtain ⟨a, rfl, h1⟩ := got_ints s r hn
  exact ⟨a, ns, rfl, h1, List.length_pos_iff.mpr h0, fun m hm hle => k _ _ _ _ nF (q m hm fun y hy => by rw [if_neg (by simp)]; exact hle y hy) (.imm s (.int _))⟩
/-! ### .. with default -/
theorem hold_ints {h : Heap} : ∀ {ns : List Int} {us : List Value}, Vals (ns.map V.int) us → PySem.W.HoldAll h us ns
  | [], us, hv => by cases hv; exact PySem.W.HoldAll.nil
  | n :: ns, us, hv => by
    cases hv with
    | cons r t =>
      obtain ⟨tk, rfl⟩ := r
      exact PySem.W.HoldAll.cons ⟨_, .int _ _⟩ (hold_ints t)
theorem holds_int {h : Heap} {v : Value} {i : Int} (H : PySem.W.Holds h v i) : ∃ t, v = Value.int i t := by
  obtain ⟨as, r⟩ := H
  cases r
  exact ⟨_, rfl⟩
def rTopDf (K : PySem.W.Frag) (up : Bool) : List V → List V → Hp → VK → Prop := fun vs zs H Q => ∃ (a : Addr) (ns : List Int) (z : V), vs = [V.ref a] ∧ zs = [z] ∧ SqL K H a (ns.map V.int) ∧ (ns = [] → Q z H) ∧ ∀ m, m ∈ ns → (∀ y, y ∈ ns → if up = true then y ≤ m else m ≤ y) → Q (.int m) H
theorem lt_int (a b : Int) : PySem.W.DatumOrd.lt a b = decide (a < b) := rfl
theorem maxOf_int (x : Int) : ∀ xs : List Int, PySem.W.maxOf x xs ∈ x :: xs ∧ ∀ y ∈ x :: xs, y ≤ PySem.W.maxOf x xs := by
  intro xs
  unfold PySem.W.maxOf
  induction xs generalizing x with
  | nil => simp
  | cons k r ih =>
    rw [List.foldl_cons, lt_int]
    by_cases h : x < k
    · simp only [h, decide_true, if_true]
      obtain ⟨i1, i2⟩ := ih k
      refine ⟨List.mem_cons_of_mem _ i1, fun y hy => ?_⟩
      rcases List.mem_cons.mp hy with rfl | hy
      · have := i2 k List.mem_cons_self; omega
      · exact i2 y hy
    · simp only [h, decide_false, Bool.false_eq_true, if_false]
      obtain ⟨i1, i2⟩ := ih x
      refine ⟨?_, fun y hy => ?_⟩
      · rcases List.mem_cons.mp i1 with e | e
        · rw [e]; exact List.mem_cons_self
        · exact List.mem_cons_of_mem _ (List.mem_cons_of_mem _ e)
      · rcases List.mem_cons.mp hy with rfl | hy
        · exact i2 _ List.mem_cons_self
        · rcases List.mem_cons.mp hy with rfl | hy
          · have := i2 x List.mem_cons_self; omega
          · exact i2 y (List.mem_cons_of_mem _ hy)
theorem cr_maxDf (hc : X.calm = true) (hu : X.A.units + 65 < cLine) : CallRK X (.builtin "max") [Str.ofString "default"] (rTopDf X.K true) := by
  intro pins s σ H vs zs us ws Q I r rz h
  obtain ⟨a, ns, z, rfl, rfl, hs, q0, q⟩ := h
  obtain rfl := Vals.ref1 r
  obtain ⟨w1, rfl, e1⟩ := vals1 rz
  obtain ⟨its, rv, hl, _⟩ := I.list hs
  refine PySem.W.max_list_datum_default (I.ok.hd hc) hl.isList (xs := ns) (by simpa using hold_ints rv) (by show X.A.units + 1 + 0 < cLine; omega) (fun e h' tk hk => ⟨z, H, I.kept hk, e1, q0 e⟩) fun y ys i v h' tk e hi hv hk => ?_
  obtain ⟨t, rfl⟩ := holds_int hv
  obtain ⟨m1, m2⟩ := maxOf_int y ys
  exact ⟨.int _, H, I.kept hk, ⟨t, rfl⟩, q _ (by rw [e]; exact m1) fun w hw => by rw [if_pos rfl]; rw [e] at hw; exact m2 w hw⟩
theorem minOf_int (x : Int) : ∀ xs : List Int, PySem.W.minOf x xs ∈ x :: xs ∧ ∀ y ∈ x :: xs, PySem.W.minOf x xs ≤ y := by
  intro xs
  unfold PySem.W.minOf
  induction xs generalizing x with
  | nil => simp
  | cons k r ih =>
    rw [List.foldl_cons, lt_int]
    by_cases h : k < x
    · simp only [h, decide_true, if_true]
      obtain ⟨i1, i2⟩ := ih k
      refine ⟨List.mem_cons_of_mem _ i1, fun y hy => ?_⟩
      rcases List.mem_cons.mp hy with rfl | hy
      · have := i2 k List.mem_cons_self; omega
      · exact i2 y hy
    · simp only [h, decide_false, Bool.false_eq_true, if_false]
      obtain ⟨i1, i2⟩ := ih x
      refine ⟨?_, fun y hy => ?_⟩
      · rcases List.mem_cons.mp i1 with e | e
        · rw [e]; exact List.mem_cons_self
        · exact List.mem_cons_of_mem _ (List.mem_cons_of_mem _ e)
      · rcases List.mem_cons.mp hy with rfl | hy
        · exact i2 _ List.mem_cons_self
        · rcases List.mem_cons.mp hy with rfl | hy
          · have := i2 x List.mem_cons_self; omega
          · exact i2 y (List.mem_cons_of_mem _ hy)
theorem cr_minDf (hc : X.calm = true) (hu : X.A.units + 65 < cLine) : CallRK X (.builtin "min") [Str.ofString "default"] (rTopDf X.K false) := by
  intro pins s σ H vs zs us ws Q I r rz h
  obtain ⟨a, ns, z, rfl, rfl, hs, q0, q⟩ := h
  obtain rfl := Vals.ref1 r
  obtain ⟨w1, rfl, e1⟩ := vals1 rz
  obtain ⟨its, rv, hl, _⟩ := I.list hs
  refine PySem.W.min_list_datum_default (I.ok.hd hc) hl.isList (xs := ns) (by simpa using hold_ints rv) (by show X.A.units + 1 + 0 < cLine; omega) (fun e h' tk hk => ⟨z, H, I.kept hk, e1, q0 e⟩) fun y ys i v h' tk e hi hv hk => ?_
  obtain ⟨t, rfl⟩ := holds_int hv
  obtain ⟨m1, m2⟩ := minOf_int y ys
  exact ⟨.int _, H, I.kept hk, ⟨t, rfl⟩, q _ (by rw [e]; exact m1) fun w hw => by rw [if_neg (by simp)]; rw [e] at hw; exact m2 w hw⟩
/-- max(ns, default=z), min(..) -/
def oTopDf (up : Bool) (t : TX) (z : D) : TX := fun env Q => t env fun d env1 => ∃ ns : List Int, lstItems d = some (ns.map D.int) ∧ ∀ m, (ns = [] ∧ m = z ∨ ∃ i, m = .int i ∧ i ∈ ns ∧ ∀ y, y ∈ ns → if up = true then y ≤ i else i ≤ y) → Q m env1
variable {a e2 : Expr} {M R : List Nat} {ta : TX} {pos p kpos : Pos} {x : Str} {id : String} {v : V} {z : D} {up : Bool}
theorem x_topDf (hcr : CallRK X (.builtin id) [Str.ofString "default"] (rTopDf X.K up)) (hg : Gl X x) (hm : X.mg x = none) (hv : bootBuiltins x = some (.builtin id)) (ha : XX X a M R ta) (hz : PE X e2 (tC v)) (rz : ∀ Z H, Rep X.K Z H v z nF) (hn : x ≠ "__name__" := by decide) (hdbg : (x == ("__debug__" : Str)) = false := by decide)
    (na : starEach [a] X.env = (false, eval a X.env) :: starEach [] X.env := by rfl) (he : backTo pos (starEach [a] X.env) = (false, eval a X.env) :: backTo pos (starEach [] X.env) := by rfl) (hpln : (backTo pos (starEach [a] X.env)).any (·.1) = false := by rfl)
    (hall : (backToKw pos (keywordEach [⟨some "default", e2, kpos⟩] X.env)).all (·.1.isSome) = true := by rfl) (hnone : (backToKw pos (keywordEach [⟨some "default", e2, kpos⟩] X.env)).any (·.1.isNone) = false := by rfl) (hks : (backToKw pos (keywordEach [⟨some "default", e2, kpos⟩] X.env)).filterMap (·.1) = [Str.ofString "default"] := by rfl) :
    XX X (.Call (.Name x p) [a] [⟨some "default", e2, kpos⟩] pos) M [] (oTopDf up ta z) := ⟨pe_imp (pe_callBK hcr hg hm hv (pa_cons ha.pe pa_nil na) (pk_cons hz pk_nil) hn hdbg he hpln hall hnone hks) fun σ H Q ⟨S, Qt, eH, s, q, k⟩ => by
  subst eH
  refine ⟨S, _, rfl, s, q, fun S1 w d Fv ⟨ns, ed, q1⟩ s1 st1 v1 => ?_⟩
  obtain ⟨l, rfl, h1⟩ := got_ints s1 v1.rep ed
  refine ⟨l, ns, v, rfl, rfl, h1, fun e => ?_, fun m hm hle => ?_⟩
  · exact k S1 v z nF (q1 z (.inl ⟨e, rfl⟩)) s1 st1 (.imm (rz _ _))
  · exact k S1 _ _ nF (q1 (.int m) (.inr ⟨m, rfl, hm, hle⟩)) s1 st1 (.imm (.int m))⟩
@[simp ↓] theorem r_oTopDf {env : Env} {Q : D → Env → Prop} : oTopDf up ta z env Q = ta env fun d env1 => ∃ ns : List Int, lstItems d = some (ns.map D.int) ∧ ∀ m, (ns = [] ∧ m = z ∨ ∃ i, m = .int i ∧ i ∈ ns ∧ ∀ y, y ∈ ns → if up = true then y ≤ i else i ≤ y) → Q m env1 := rfl
end
@[simp] theorem r_gTop {up : Bool} {ds : List D} {QP : D → Prop} : gTop up ds QP = ∃ d, ds = [d] ∧ ∃ ns : List Int, lstItems d = some (ns.map D.int) ∧ ns ≠ [] ∧ ∀ m, m ∈ ns → (∀ y, y ∈ ns → if up = true then y ≤ m else m ≤ y) → QP (.int m) := rfl
end TT

/-! T21: defs that are called where no repr is under way -/
namespace TT
open PySem PySem.Spec PyProof.Rows L2
/-- `FnOk`, asked only where no guard is up -/
structure FnG (P : Program) (w : World) (K : PySem.W.Frag) (mg : Str → Option Value) (base : Heap) (k : Nat) (f : Addr) (fd : FuncData) (ps : List Str) (sp : Sp) : Prop where
  ln : ∀ vs H Q E, sp vs H Q E → vs.length = ps.length
  go : ∀ (A : Around) (outer : List PySem.Env) (s : Shared) (H : Hp) (args : Args) (us : List Value) (vs : List V) (Q : VK) (E : L2.XK), A.guards = some [] → Room k A → Env0 P w K mg base A outer s H → BindsTo s fd args (ps.zip us) → Vals vs us → sp vs H Q E →
    codeAny (model P w) A (.call (.ref f) args) (CR CX0 outer P w H s Q E) s
section
variable {P : Program} {w : World} {K : PySem.W.Frag} {mg : Str → Option Value} {base : Heap} {k : Nat} {f : Addr} {fd : FuncData} {ps : List Str} {sp : Sp}
theorem fnG_of (F : FnOk P w K mg base CX0 k f fd ps sp) : FnG P w K mg base k f fd ps sp := ⟨F.len, fun A outer s H args us vs Q E _ => F.run A outer s H args us vs Q E⟩
theorem guards_deeper (A : Around) (e : PySem.Env) : (A.deeper e).guards = A.guards := rfl
/-- a def by its body, no guard up -/
theorem fnG_body {name qual : Str} {params : Arguments} {body : List Stmt} {scope : Scope} {dV kV doc pm cdv ct oc : Value} {an od : Option Addr} {osl : Array (Option Value)} {N : List Str}
    (lk : K.lookup f = some ⟨oc, od, .func (PySem.W.fnOf name qual params body scope dV kV doc pm an cdv ct), osl⟩) (hcd : PySem.W.codeIn K cdv qual = true) (S : FnScope N ps scope)
    (ln : ∀ vs H Q E, sp vs H Q E → vs.length = ps.length)
    (hb : ∀ (A : Around) (outer : List PySem.Env) (s : Shared) (H : Hp) (vs : List V) (Q : VK) (E : L2.XK), A.guards = some [] → Room k (A.deeper (envOfC qual scope s.heap.objs.size f cdv)) → sp vs H Q E →
      ∃ t, PSs (cxOf CX0 P w K mg base N qual scope f cdv A outer s H E) body t ∧ t { nx := fun _ H' => Q .non H', rt := Q } (start N vs) H) :
    FnG P w K mg base (k + 1) f (PySem.W.fnOf name qual params body scope dV kV doc pm an cdv ct) ps sp := by
  constructor
  · exact ln
  · intro A outer s H args us vs Q E hG hr e0 hbd rv hsp
    obtain ⟨t, ht, hq⟩ := hb A outer s H vs Q E hG (Room.deeper hr _) hsp
    have olds := fun b o e => (e0.bs b o e).1
    have KX := e0.mod.kin.keeps olds
    refine codeAny_call_function hr.depth (KX _ _ lk) rfl S.co S.gen rfl (PySem.W.codeRec_of KX hcd) (hbd _ _ _ _ (wpAny_newFunctionEnv_cells S.kind (fun y hy => ?_) fun env he s1 x => ?_))
    · obtain ⟨n, v⟩ := y
      exact (S.par n (List.of_mem_zip hy).1).imp id fun q => ⟨q, PySem.W.cellsFrom_some _ _ _ (.inl q)⟩
    · subst he
      refine ⟨(e0.mod.nolimit.keeps olds).keeps x.toInCall.keep, codeAny_func (wpAny_mono (ht.run [] s1 (start N vs) H _ (inv_start S hr.hd e0 (ln _ _ _ _ hsp) rv x) hq) (fun fl s' hs => ?_) fun e s' hs => hs)⟩
      rcases fl with _ | u | _ | _
      all_goals first
        | (obtain ⟨_, _, _, q⟩ := hs; exact q.elim)
        | (obtain ⟨σ', H', J, q⟩ := hs; exact ⟨V.non, H', J.os, J.bare, J.base, J.hok, rfl, q⟩)
        | (obtain ⟨v, σ', H', J, r, q⟩ := hs; exact ⟨v, H', J.os, J.bare, J.base, J.hok, r, q⟩)
end
section
variable {P : Program} {w : World} {K : PySem.W.Frag} {mg : Str → Option Value} {base : Heap} {x qual : Str} {params : Arguments} {body : List Stmt} {scope : Scope} {dvs : List V} {kws : List (Str × V)} {f : Addr} {fd : FuncData} {N ps : List Str}
theorem fn_okG {k : Nat} {sp : TX} {Asg io : List Nat} {tb : TXS} (F : FunD K x qual params body scope dvs kws f fd) (Sc : FnScope N ps scope)
    (hbody : ∀ (cdv : Value) (A : Around) (outer : List PySem.Env) (s : Shared) (H : Hp) (E : L2.XK), A.guards = some [] → Room k (A.deeper (envOfC qual scope s.heap.objs.size f cdv)) → XSs (cxOf CX0 P w K mg base N qual scope f cdv A outer s H E).nox body Asg tb)
    (hio : Dj io Asg = true)
    (vc : ∀ (env : Env) (Qt : D → Env → Prop), env.length = ps.length → sp env Qt → tb { nx := fun e => Qt .non (fin io ps.length e), rt := fun r e => Qt r (fin io ps.length e) } (begin N ps env)) :
    FnG P w K mg base (k + 1) f fd ps (liftSp K ps.length sp) := by
  have hpl : ps.length ≤ N.length := by have := congrArg List.length Sc.pre; rw [List.length_take] at this; omega
  obtain ⟨oc, od, dV, kV, doc, pm, an, cdv, ct, osl, rfl, lk, hcd, _, _⟩ := F.ex
  refine fnG_body lk hcd Sc (fun vs H Q E h => h.1) fun A outer s H vs Q E hG hr ⟨hl, S, Qt, eH, s0, q, k⟩ => ⟨_, (hbody cdv A outer s H E hG hr).pss.nox, ?_⟩
  subst eH
  have hln : S.env.length = vs.length := by rw [s0.ln, List.length_map]
  have sB : SR K (start N vs) ⟨S.Z, S.H, begin N ps S.env, S.F⟩ := by
    refine ⟨s0.zh, fun i d e => ?_, s0.ap, s0.tr, ?_⟩
    · have e : (begin N ps S.env)[i]? = some (some d) := e
      unfold begin at e
      by_cases hi : i < S.env.length
      · rw [List.getElem?_append_left hi] at e
        obtain ⟨v, h1, h2⟩ := s0.sl i d e
        refine ⟨v, ?_, h2⟩
        unfold L2.start
        rw [List.getElem?_append_left (by rw [List.length_map]; omega)]
        exact h1
      · rw [List.getElem?_append_right (by omega), List.getElem?_replicate] at e
        split at e <;> cases e
    · show (begin N ps S.env).length = (start N vs).length
      unfold begin L2.start
      rw [List.length_append, List.length_append, List.length_replicate, List.length_replicate, List.length_map, hln, hl]
  have done : ∀ (σ' : L2.St) (S' : W) (v : V) (d : D) (Fv : AS), Qt d (fin io ps.length S'.env) → SR K σ' S' → StpS Asg (start N vs) σ' ⟨S.Z, S.H, begin N ps S.env, S.F⟩ S' → VPs K ⟨S.Z, S.H, begin N ps S.env, S.F⟩ S' v d Fv → Q v S'.H := fun σ' S' v d Fv q1 s1 st1 v1 => by
    refine k ⟨S'.Z, S'.H, fin io ps.length S'.env, fun i a => i ∈ io ∧ S'.F i a⟩ v d Fv q1 ⟨s1.zh, fun i d e => ?_, fun i j a h1 h2 => s1.ap i j a h1.2 h2.2, fun i a h => s1.tr i a h.2, ?_⟩ ⟨st1.ext, fun i a h => st1.nf i a h.2, fun _ _ => rfl⟩ ⟨v1.rep, v1.tv, fun a z => ⟨fun i y => (v1.ow a z).1 i y.2, (v1.ow a z).2⟩⟩
    · obtain ⟨h1, h2, h3⟩ := fin_at e
      obtain ⟨v, e1, r⟩ := s1.sl i d h3
      refine ⟨v, ?_, r.mono fun a z => ⟨h2, z⟩⟩
      rw [st1.sg i (dj_out hio h2)] at e1
      unfold L2.start at e1
      rw [List.getElem?_append_left (by rw [List.length_map]; omega)] at e1
      exact e1
    · show (fin io ps.length S'.env).length = (vs.map some).length
      unfold fin
      rw [List.length_map, List.length_range, List.length_map, hl]
  refine ⟨⟨S.Z, S.H, begin N ps S.env, S.F⟩, _, rfl, sB, vc S.env Qt (by rw [hln, hl]) q, fun σ' S' q1 s1 st1 => ?_, fun σ' S' v d Fv q1 s1 st1 v1 => done σ' S' v d Fv q1 s1 st1 v1, fun _ _ z => z.elim, fun _ _ z => z.elim⟩
  exact done σ' S' .non .non nF q1 s1 st1 ⟨.non, fun _ z => z.elim, fun _ z => z.elim⟩
end
end TT

/-! T22: repr of data, no guard up -/
namespace TT
open PySem PySem.Spec PyProof.Rows L2
section
variable {X : Cx}
def rRepr (K : PySem.W.Frag) : List V → Hp → VK → Prop := fun xs H Q => ∃ a d, xs = [.ref a] ∧ Dp K H (.ref a) d ∧ d.showable = true ∧ d.hasDict = false ∧ d.depth ≤ 64 ∧ d.shown.length ≤ sizeLine ∧ Q (.str d.shown) H
theorem call_reprD (hG : X.A.guards = some []) (hu : X.A.units + 65 < cLine) : CallR X (.builtin "repr") (rRepr X.K) := by
  intro pins s σ H xs us Q I r h
  obtain ⟨a, d, rfl, dp, h1, h2, h3, h4, q⟩ := h
  obtain ⟨u, rfl, e⟩ := vals1 r
  obtain rfl : u = Value.ref a := e
  obtain ⟨as, rd⟩ := Dp.reads I d _ _ dp rfl
  exact PySem.repr_of_reads' rd h1 (PyData.noDict_hsm h2) hG (by omega) (fun _ _ e => e) (fun h' u tk k => ⟨.str d.shown, H, I.un (Un.kept k) (I.hok.kept k), ⟨u, rfl⟩, q⟩) h4
/-- repr of a list or a tuple -/
def gRepr : List D → (D → Prop) → Prop := r1 fun d Q => d.pyok = true ∧ (∃ ds, d.py = .list ds ∨ d.py = .tuple ds) ∧ d.py.showable = true ∧ d.py.hasDict = false ∧ d.py.depth ≤ 64 ∧ d.py.shown.length ≤ sizeLine ∧ Q (.str d.py.shown)
theorem c_repr (hG : X.A.guards = some []) (hu : X.A.units + 65 < cLine) : CallT X (.builtin "repr") gRepr := by
  refine ⟨_, call_reprD hG hu, fun σ S vs ds F Qd P s ra ⟨d, e, h0, ⟨is, hi⟩, h1, h2, h3, h4, q⟩ k => ?_⟩
  subst e
  obtain ⟨v, rfl, r⟩ := paired1 ra
  have dp := r.dp s.zh h0
  have ha : ∃ a, v = V.ref a := by
    rcases hi with hi | hi <;> (rw [hi] at dp; cases dp; exact ⟨_, rfl⟩)
  obtain ⟨a, rfl⟩ := ha
  exact ⟨a, d.py, rfl, dp, h1, h2, h3, h4, k _ _ _ _ nF q (.imm s (.str _))⟩
end
end TT

/-! B1: rows and rings of folk on one cut; the beat; how far the held are -/
namespace TT
/-- one cut: who stands on the plus side -/
abbrev Cfg := Nat → Bool
def prd (n f : Nat) : Nat := if f = 0 then n - 1 else f - 1
def suc (n f : Nat) : Nat := if f + 1 = n then 0 else f + 1
def nearN (n : Nat) (ring : Bool) (f : Nat) : List Nat :=
  if ring = true then [prd n f, suc n f] else (if 0 < f then [f - 1] else []) ++ (if f + 1 < n then [f + 1] else [])
theorem near_mem {n : Nat} {ring : Bool} {f g : Nat} (hf : f < n) : g ∈ nearN n ring f ↔ (ring = true ∧ (g = prd n f ∨ g = suc n f)) ∨ (ring = false ∧ ((0 < f ∧ g = f - 1) ∨ (f + 1 < n ∧ g = f + 1))) := by
  unfold nearN
  cases ring
  · by_cases h1 : 0 < f <;> by_cases h2 : f + 1 < n <;> simp [h1, h2]
  · simp
theorem near_lt {n : Nat} {ring : Bool} {f g : Nat} (hf : f < n) (h : g ∈ nearN n ring f) : g < n := by
  rw [near_mem hf] at h
  unfold prd suc at h
  rcases h with ⟨_, h | h⟩ | ⟨_, h | h⟩
  · split at h <;> omega
  · split at h <;> omega
  · omega
  · omega
theorem near_sym {n : Nat} {ring : Bool} {f g : Nat} (hf : f < n) (h : g ∈ nearN n ring f) : f ∈ nearN n ring g := by
  have hg := near_lt hf h
  rw [near_mem hf] at h
  rw [near_mem hg]
  unfold prd suc at *
  rcases h with ⟨hr, h | h⟩ | ⟨hr, h | h⟩
  · refine .inl ⟨hr, .inr ?_⟩
    split at h <;> split <;> omega
  · refine .inl ⟨hr, .inl ?_⟩
    split at h <;> split <;> omega
  · exact .inr ⟨hr, by omega⟩
  · exact .inr ⟨hr, by omega⟩
def heldB (n : Nat) (ring : Bool) (x : Cfg) (f : Nat) : Bool := decide ((nearN n ring f).length < 2) || (nearN n ring f).any fun g => x g == x f
def stepB (n : Nat) (ring : Bool) (x : Cfg) : Cfg := fun f => if heldB n ring x f = true then x f else !x f
def itB (n : Nat) (ring : Bool) : Nat → Cfg → Cfg
  | 0, x => x
  | k + 1, x => stepB n ring (itB n ring k x)
structure Far (n : Nat) (ring : Bool) (x : Cfg) (far : Nat → Nat) : Prop where
  zero : ∀ f, f < n → (far f = 0 ↔ heldB n ring x f = true)
  lip : ∀ f g, f < n → g ∈ nearN n ring f → far f ≤ far g + 1
  wit : ∀ f, f < n → 0 < far f → ∃ g, g ∈ nearN n ring f ∧ far g + 1 = far f
def odd (k : Nat) : Bool := decide (k % 2 = 1)
theorem odd_succ (k : Nat) : odd (k + 1) = !odd k := by
  unfold odd
  by_cases h : k % 2 = 1
  · have : ¬ ((k + 1) % 2 = 1) := by omega
    simp [h, this]
  · have : (k + 1) % 2 = 1 := by omega
    simp [h, this]
theorem held_iff {n : Nat} {ring : Bool} {x : Cfg} {f : Nat} : heldB n ring x f = true ↔ (nearN n ring f).length < 2 ∨ ∃ g, g ∈ nearN n ring f ∧ x g = x f := by
  unfold heldB
  simp
theorem itB_far {n : Nat} {ring : Bool} {x : Cfg} {far : Nat → Nat} (H : Far n ring x far) : ∀ k f, f < n → itB n ring k x f = (x f != odd (min k (far f)))
  | 0, f, hf => by simp [itB, odd]
  | k + 1, f, hf => by
    have ih := fun g hg => itB_far H k g hg
    show stepB n ring (itB n ring k x) f = _
    unfold stepB
    rw [ih f hf]
    by_cases h0 : far f = 0
    · have hh := (H.zero f hf).mp h0
      have : heldB n ring (itB n ring k x) f = true := by
        rw [held_iff] at hh ⊢
        refine hh.imp id fun ⟨g, h1, h2⟩ => ⟨g, h1, ?_⟩
        have hg := near_lt hf h1
        have : far g = 0 := (H.zero g hg).mpr (held_iff.mpr (.inr ⟨f, near_sym hf h1, h2.symm⟩))
        rw [ih g hg, ih f hf, this, h0, h2]
      rw [if_pos this, h0]
      simp
    · have nh : ¬ ((nearN n ring f).length < 2 ∨ ∃ g, g ∈ nearN n ring f ∧ x g = x f) := fun z => h0 ((H.zero f hf).mpr (held_iff.mpr z))
      have nx : ∀ g, g ∈ nearN n ring f → x g = !x f := fun g hg => by
        have : x g ≠ x f := fun e => nh (.inr ⟨g, hg, e⟩)
        revert this
        cases x g <;> cases x f <;> simp
      by_cases hk : k < far f
      · have : ¬ heldB n ring (itB n ring k x) f = true := by
          rw [held_iff]
          rintro (h | ⟨g, h1, h2⟩)
          · exact nh (.inl h)
          · have hg := near_lt hf h1
            have hl := H.lip f g hf h1
            rw [ih g hg, ih f hf, nx g h1, Nat.min_eq_left (by omega), Nat.min_eq_left (by omega)] at h2
            revert h2
            cases x f <;> cases odd k <;> simp
        rw [if_neg this, Nat.min_eq_left (by omega), Nat.min_eq_left (by omega), odd_succ]
        cases x f <;> cases odd k <;> rfl
      · obtain ⟨g, h1, h2⟩ := H.wit f hf (by omega)
        have hg := near_lt hf h1
        have : heldB n ring (itB n ring k x) f = true := by
          rw [held_iff]
          refine .inr ⟨g, h1, ?_⟩
          rw [ih g hg, ih f hf, nx g h1, Nat.min_eq_right (by omega), Nat.min_eq_right (by omega), ← h2, odd_succ]
          cases x f <;> cases odd (far g) <;> rfl
        rw [if_pos this, Nat.min_eq_right (by omega), Nat.min_eq_right (by omega)]
theorem itB_free {n : Nat} {ring : Bool} {x : Cfg} (H : ∀ f, f < n → heldB n ring x f = false) : ∀ k f, f < n → itB n ring k x f = (x f != odd k)
  | 0, f, hf => by simp [itB, odd]
  | k + 1, f, hf => by
    have ih := fun g hg => itB_free H k g hg
    show stepB n ring (itB n ring k x) f = _
    unfold stepB
    have : ¬ heldB n ring (itB n ring k x) f = true := by
      have h := H f hf
      rw [held_iff]
      rintro (h | ⟨g, h1, h2⟩)
      · exact absurd (held_iff.mpr (.inl h)) (by rw [H f hf]; simp)
      · rw [ih g (near_lt hf h1), ih f hf] at h2
        have : x g = x f := by
          revert h2
          cases x f <;> cases x g <;> cases odd k <;> simp
        exact absurd (held_iff.mpr (.inr ⟨g, h1, this⟩)) (by rw [H f hf]; simp)
    rw [if_neg this, ih f hf, odd_succ]
    cases x f <;> cases odd k <;> rfl
/-! ### more stays more -/
theorem stepB_mono {n : Nat} {ring : Bool} {x y : Cfg} (h : ∀ f, f < n → x f = true → y f = true) : ∀ f, f < n → stepB n ring x f = true → stepB n ring y f = true := by
  intro f hf
  have key : ∀ z : Cfg, stepB n ring z f = true ↔ ((nearN n ring f).length < 2 ∧ z f = true) ∨ (¬ (nearN n ring f).length < 2 ∧ ((z f = true ∧ ∃ g, g ∈ nearN n ring f ∧ z g = true) ∨ (z f = false ∧ ∀ g, g ∈ nearN n ring f → z g = true))) := by
    intro z
    unfold stepB
    by_cases h1 : (nearN n ring f).length < 2
    · simp [held_iff, h1]
    · simp only [held_iff, h1, false_or, false_and, not_false_eq_true, true_and]
      cases e : z f with
      | true =>
        simp
      | false =>
        simp
  rw [key, key]
  have hg : ∀ g, g ∈ nearN n ring f → x g = true → y g = true := fun g hm => h g (near_lt hf hm)
  have two : ¬ (nearN n ring f).length < 2 → ∃ g, g ∈ nearN n ring f := fun h2 => by
    match e : nearN n ring f with
    | [] => simp [e] at h2
    | g :: r => exact ⟨g, List.mem_cons_self⟩
  rintro (⟨a, b⟩ | ⟨a, ⟨b, g, c, d⟩ | ⟨b, c⟩⟩)
  · exact .inl ⟨a, h f hf b⟩
  · exact .inr ⟨a, .inl ⟨h f hf b, g, c, hg g c d⟩⟩
  · cases e : y f with
    | true =>
      obtain ⟨g, hm⟩ := two a
      exact .inr ⟨a, .inl ⟨rfl, g, hm, hg g hm (c g hm)⟩⟩
    | false => exact .inr ⟨a, .inr ⟨rfl, fun g hm => hg g hm (c g hm)⟩⟩
theorem itB_mono {n : Nat} {ring : Bool} {x y : Cfg} (h : ∀ f, f < n → x f = true → y f = true) : ∀ k f, f < n → itB n ring k x f = true → itB n ring k y f = true
  | 0 => h
  | k + 1 => stepB_mono (itB_mono h k)
theorem held_congr {n : Nat} {ring : Bool} {x y : Cfg} {f : Nat} (hf : f < n) (h : ∀ g, g < n → x g = y g) : heldB n ring x f = heldB n ring y f := by
  have : ∀ a b : Bool, (a = true ↔ b = true) → a = b := by intro a b; cases a <;> cases b <;> simp
  refine this _ _ ?_
  rw [held_iff, held_iff]
  refine or_congr Iff.rfl (exists_congr fun g => and_congr_right fun hm => ?_)
  rw [h g (near_lt hf hm), h f hf]
theorem itB_congr {n : Nat} {ring : Bool} {x y : Cfg} (h : ∀ g, g < n → x g = y g) : ∀ k f, f < n → itB n ring k x f = itB n ring k y f
  | 0, f, hf => h f hf
  | k + 1, f, hf => by
    show stepB _ _ _ _ = stepB _ _ _ _
    unfold stepB
    rw [held_congr hf (itB_congr h k), itB_congr h k f hf]
theorem held_not {n : Nat} {ring : Bool} {x : Cfg} {f : Nat} : heldB n ring (fun g => !x g) f = heldB n ring x f := by
  unfold heldB
  congr 2
  funext g
  show ((!x g) == (!x f)) = (x g == x f)
  cases x g <;> cases x f <;> rfl
theorem itB_not {n : Nat} {ring : Bool} {x : Cfg} : ∀ k, itB n ring k (fun g => !x g) = fun f => !itB n ring k x f
  | 0 => rfl
  | k + 1 => by
    funext f
    show stepB _ _ _ _ = !stepB _ _ _ _
    unfold stepB
    rw [itB_not k, held_not]
    split <;> rfl
theorem itB_add {n : Nat} {ring : Bool} {x : Cfg} (j : Nat) : ∀ k, itB n ring (k + j) x = itB n ring k (itB n ring j x)
  | 0 => by rw [Nat.zero_add]; rfl
  | k + 1 => by
    rw [Nat.add_right_comm]
    show stepB _ _ _ = stepB _ _ _
    rw [itB_add j k]
/-! ### the two sweeps -/
/-- b f: lowered to one more than p f's (where it counts) -/
def low (n : Nat) (p : Nat → Nat) (ok : Nat → Bool) (a : Nat → Nat) (f : Nat) : Nat → Nat := fun j => if j = f then min (a f) (if ok f = true then a (p f) + 1 else n) else a j
/-- on a sequence: b i lowered to one more than b (i-1) -/
def lowS (b : Nat → Nat) (i : Nat) : Nat → Nat := fun j => if j = i then min (b i) (b (i - 1) + 1) else b j
/-- one sweep from 1 on -/
theorem sweep1 : ∀ (m : Nat) (s : Nat) (b : Nat → Nat), 1 ≤ s → (∀ j, 1 ≤ j → j < s → b j ≤ b (j - 1) + 1) →
    ∃ c, c = (List.range' s m).foldl lowS b ∧ c 0 = b 0 ∧ (∀ j, 1 ≤ j → j < s + m → c j ≤ c (j - 1) + 1) ∧ (∀ j, j < s ∨ s + m ≤ j → c j = b j)
  | 0, s, b, hs, h => ⟨b, rfl, rfl, fun j h1 h2 => h j h1 (by omega), fun _ _ => rfl⟩
  | m + 1, s, b, hs, h => by
    obtain ⟨c, e, c0, c1, c2⟩ := sweep1 m (s + 1) (lowS b s) (by omega) fun j h1 h2 => by
      unfold lowS
      by_cases e : j = s
      · rw [if_pos e, if_neg (by omega), e]; exact Nat.min_le_right _ _
      · rw [if_neg e, if_neg (by omega)]; exact h j h1 (by omega)
    refine ⟨c, by rw [e, List.range'_succ, List.foldl_cons], ?_, fun j h1 h2 => c1 j h1 (by omega), fun j hj => ?_⟩
    · rw [c0]; unfold lowS; rw [if_neg (by omega)]
    · by_cases e : j = s
      · omega
      · rw [c2 j (by omega)]; unfold lowS; rw [if_neg e]
/-- a second one, when the first has been: what changes lies at c 0 or above -/
theorem sweep2 : ∀ (m : Nat) (s : Nat) (b a : Nat → Nat), 1 ≤ s → (∀ j, 1 ≤ j → a j ≤ a (j - 1) + 1 ∨ s + m ≤ j) → (∀ j, j < s → b j = a j ∨ b 0 ≤ b j) → (∀ j, s ≤ j → b j = a j) →
    ∀ c, c = (List.range' s m).foldl lowS b → (∀ j, j < s + m → c j = a j ∨ b 0 ≤ c j) ∧ c 0 = b 0
  | 0, s, b, a, hs, ha, h1, h2, c, e => by
    have e : c = b := e
    subst e
    exact ⟨fun j hj => h1 j (by omega), rfl⟩
  | m + 1, s, b, a, hs, ha, h1, h2, c, e => by
    rw [List.range'_succ, List.foldl_cons] at e
    have e0 : lowS b s 0 = b 0 := by unfold lowS; rw [if_neg (by omega)]
    obtain ⟨q1, q2⟩ := sweep2 m (s + 1) (lowS b s) a (by omega) (fun j hj => (ha j hj).imp id (by omega)) (fun j hj => by
      rw [e0]
      unfold lowS
      by_cases ej : j = s
      · rw [if_pos ej, ej]
        have as := h2 s (Nat.le_refl _)
        rcases h1 (s - 1) (by omega) with z | z
        · left
          rcases ha s hs with y | y
          · rw [as, z]; exact Nat.min_eq_left y
          · omega
        · rcases Nat.le_total (b s) (b (s - 1) + 1) with y | y
          · left; rw [Nat.min_eq_left y]; exact as
          · right; rw [Nat.min_eq_right y]; omega
      · rw [if_neg ej]; exact h1 j (by omega)) (fun j hj => by
      unfold lowS
      rw [if_neg (by omega)]; exact h2 j (by omega)) c e
    rw [e0] at q1 q2
    exact ⟨fun j hj => q1 j (by omega), q2⟩
/-- round the ring twice: all are near -/
theorem sweepR {n : Nat} (hn : 0 < n) (b : Nat → Nat) (hb : ∀ j, 1 ≤ j → j < n → b j ≤ b (j - 1) + 1) (b' c : Nat → Nat) (e1 : b' = fun j => if j = 0 then min (b 0) (b (n - 1) + 1) else b j)
    (e2 : c = (List.range' 1 (n - 1)).foldl lowS b') : (∀ j, 1 ≤ j → j < n → c j ≤ c (j - 1) + 1) ∧ c 0 ≤ c (n - 1) + 1 := by
  obtain ⟨c', ec, c0, c1, _⟩ := sweep1 (n - 1) 1 b' (Nat.le_refl _) fun j h1 h2 => by omega
  rw [← e2] at ec
  subst ec
  refine ⟨fun j h1 h2 => c1 j h1 (by omega), ?_⟩
  obtain ⟨q, q0⟩ := sweep2 (n - 1) 1 b' b (Nat.le_refl _) (fun j hj => by
    by_cases h : j < n
    · exact .inl (hb j hj h)
    · exact .inr (by omega)) (fun j hj => by
    have : j = 0 := by omega
    subst this
    exact .inr (Nat.le_refl _)) (fun j hj => by rw [e1]; simp only; rw [if_neg (by omega)]) c' e2
  rw [q0]
  have b0 : b' 0 = min (b 0) (b (n - 1) + 1) := by rw [e1]; simp
  rcases q (n - 1) (by omega) with z | z
  · rw [z, b0]; exact Nat.min_le_right _ _
  · omega
/-! ### .. on the folk -/
structure Inv (n : Nat) (ring : Bool) (x : Cfg) (a : Nat → Nat) : Prop where
  zero : ∀ f, f < n → (a f = 0 ↔ heldB n ring x f = true)
  le : ∀ f, f < n → a f ≤ n
  exp : ∀ f, f < n → a f = 0 ∨ a f = n ∨ ∃ g, g ∈ nearN n ring f ∧ a g + 1 ≤ a f
theorem inv_low {n : Nat} {ring : Bool} {x : Cfg} {a : Nat → Nat} {p : Nat → Nat} {ok : Nat → Bool} {f : Nat} (h : Inv n ring x a) (hf : f < n) (hp : ok f = true → p f ∈ nearN n ring f) : Inv n ring x (low n p ok a f) := by
  have le : ∀ j, low n p ok a f j ≤ a j := fun j => by
    unfold TT.low
    split
    · rename_i e; rw [e]; exact Nat.min_le_left _ _
    · exact Nat.le_refl _
  have pos : ∀ j, j < n → 0 < a j → 0 < low n p ok a f j := fun j hj hp => by
    unfold TT.low
    split
    · rename_i e
      rw [← e]
      split <;> omega
    · exact hp
  refine ⟨fun j hj => ?_, fun j hj => Nat.le_trans (le j) (h.le j hj), fun j hj => ?_⟩
  · rw [← h.zero j hj]
    refine ⟨fun e => ?_, fun e => by have := le j; omega⟩
    rcases Nat.eq_zero_or_pos (a j) with z | z
    · exact z
    · have := pos j hj z; omega
  · have old : a j = 0 ∨ a j = n ∨ ∃ g, g ∈ nearN n ring j ∧ low n p ok a f g + 1 ≤ a j := (h.exp j hj).imp id fun z => z.imp id fun ⟨g, h1, h2⟩ => ⟨g, h1, by have := le g; omega⟩
    by_cases e : j = f
    · subst e
      have ev : low n p ok a j j = min (a j) (if ok j = true then a (p j) + 1 else n) := by unfold TT.low; rw [if_pos rfl]
      by_cases hm : a j ≤ (if ok j = true then a (p j) + 1 else n)
      · rw [ev, Nat.min_eq_left hm]; exact old
      · rw [ev, Nat.min_eq_right (by omega)]
        by_cases hk : ok j = true
        · rw [if_pos hk]
          refine .inr (.inr ⟨p j, hp hk, ?_⟩)
          have := le (p j); omega
        · rw [if_neg hk]; exact .inr (.inl rfl)
    · have ev : low n p ok a f j = a j := by unfold TT.low; rw [if_neg e]
      rw [ev]; exact old
theorem inv_fold {n : Nat} {ring : Bool} {x : Cfg} {p : Nat → Nat} {ok : Nat → Bool} (hp : ∀ f, f < n → ok f = true → p f ∈ nearN n ring f) : ∀ (L : List Nat) (a : Nat → Nat), Inv n ring x a → (∀ f ∈ L, f < n) → Inv n ring x (L.foldl (low n p ok) a)
  | [], _, h, _ => h
  | f :: L, a, h, hl => inv_fold hp L _ (inv_low h (hl f List.mem_cons_self) (hp f (hl f List.mem_cons_self))) fun g hg => hl g (List.mem_cons_of_mem _ hg)
/-- a sweep told on the sequence e -/
theorem fold_seq {n : Nat} {p : Nat → Nat} {ok : Nat → Bool} {e : Nat → Nat} (inj : ∀ i j, i < n → j < n → e i = e j → i = j) (hp : ∀ i, 1 ≤ i → i < n → p (e i) = e (i - 1) ∧ ok (e i) = true) :
    ∀ (L : List Nat) (a b : Nat → Nat), (∀ i, i < n → a (e i) = b i) → (∀ i ∈ L, 1 ≤ i ∧ i < n) → ∀ i, i < n → (L.map e).foldl (low n p ok) a (e i) = L.foldl lowS b i
  | [], a, b, h, _, i, hi => h i hi
  | k :: L, a, b, h, hl, i, hi => by
    rw [List.map_cons, List.foldl_cons, List.foldl_cons]
    obtain ⟨h1, h2⟩ := hl k List.mem_cons_self
    refine fold_seq inj hp L _ _ (fun j hj => ?_) (fun j hj => hl j (List.mem_cons_of_mem _ hj)) i hi
    unfold low lowS
    by_cases ej : j = k
    · subst ej
      rw [if_pos rfl, if_pos rfl, (hp j h1 h2).1, (hp j h1 h2).2, if_pos rfl, h j hj, h (j - 1) (by omega)]
    · rw [if_neg fun z => ej (inj j k hj h2 z), if_neg ej, h j hj]
theorem range'_lt {n i : Nat} (h : i ∈ List.range' 1 (n - 1)) : 1 ≤ i ∧ i < n := by
  rw [List.mem_range'_1] at h; omega
/-- once round: all but the first are near the one ahead -/
theorem lap {n : Nat} (hn : 0 < n) {p : Nat → Nat} {ok : Nat → Bool} {e : Nat → Nat} (inj : ∀ i j, i < n → j < n → e i = e j → i = j) (hp : ∀ i, 1 ≤ i → i < n → p (e i) = e (i - 1) ∧ ok (e i) = true) (a : Nat → Nat) :
    ∀ i, 1 ≤ i → i < n → ((List.range' 1 (n - 1)).map e).foldl (low n p ok) a (e i) ≤ ((List.range' 1 (n - 1)).map e).foldl (low n p ok) a (e (i - 1)) + 1 := by
  intro i h1 h2
  obtain ⟨c, ec, _, c1, _⟩ := sweep1 (n - 1) 1 (fun i => a (e i)) (Nat.le_refl _) fun j h1 h2 => by omega
  have q := fold_seq inj hp (List.range' 1 (n - 1)) a (fun i => a (e i)) (fun _ _ => rfl) (fun i hi => range'_lt hi)
  rw [q i h2, q (i - 1) (by omega), ← ec]
  exact c1 i h1 (by omega)
/-- .. and the first too, on a ring, the second time -/
theorem lapR {n : Nat} (hn : 0 < n) {p : Nat → Nat} {ok : Nat → Bool} {e : Nat → Nat} (inj : ∀ i j, i < n → j < n → e i = e j → i = j) (hp : ∀ i, 1 ≤ i → i < n → p (e i) = e (i - 1) ∧ ok (e i) = true) (hw : p (e 0) = e (n - 1) ∧ ok (e 0) = true) (a : Nat → Nat)
    (ha : ∀ i, 1 ≤ i → i < n → a (e i) ≤ a (e (i - 1)) + 1) : ∀ c, c = (e 0 :: (List.range' 1 (n - 1)).map e).foldl (low n p ok) a → (∀ i, 1 ≤ i → i < n → c (e i) ≤ c (e (i - 1)) + 1) ∧ c (e 0) ≤ c (e (n - 1)) + 1 := by
  intro c ec
  rw [List.foldl_cons] at ec
  have hb : ∀ i, i < n → low n p ok a (e 0) (e i) = (fun j => if j = 0 then min (a (e 0)) (a (e (n - 1)) + 1) else a (e j)) i := fun i hi => by
    unfold low
    by_cases ei : i = 0
    · subst ei
      simp only [if_true]
      rw [hw.1, hw.2, if_pos rfl]
    · rw [if_neg fun z => ei (inj i 0 hi hn z)]
      simp only [if_neg ei]
  have q := fold_seq inj hp (List.range' 1 (n - 1)) (low n p ok a (e 0)) _ hb (fun i hi => range'_lt hi)
  obtain ⟨r1, r2⟩ := sweepR hn (fun i => a (e i)) (fun j h1 h2 => ha j h1 h2) _ _ rfl rfl
  rw [ec]
  refine ⟨fun i h1 h2 => ?_, ?_⟩
  · rw [q i h2, q (i - 1) (by omega)]; exact r1 i h1 h2
  · rw [q 0 hn, q (n - 1) (by omega)]; exact r2
/-- the sweep back keeps what the sweep on brought -/
theorem back_keeps {n : Nat} {ring : Bool} {a : Nat → Nat} (h : ∀ f, f < n → (ring = true ∨ 0 < f) → a f ≤ a (prd n f) + 1) (le : ∀ f, f < n → a f ≤ n) {f : Nat} (hf : f < n) :
    (∀ j, j < n → (ring = true ∨ 0 < j) → low n (suc n) (fun f => ring || decide (f + 1 < n)) a f j ≤ low n (suc n) (fun f => ring || decide (f + 1 < n)) a f (prd n j) + 1) := by
  intro j hj hr
  have hh := h j hj hr
  have hl := le f hf
  have hsp : j = f → prd n j = f → True := fun _ _ => trivial
  have hps : prd n j = f → (ring || decide (f + 1 < n)) = true → suc n f = j := fun e k => by
    unfold prd at e
    unfold suc
    have k : ring = true ∨ f + 1 < n := by simpa using k
    split at e <;> split <;> omega
  unfold low
  by_cases e1 : j = f
  · rw [if_pos e1]
    by_cases e2 : prd n j = f
    · rw [if_pos e2]; omega
    · rw [if_neg e2, ← e1]
      exact Nat.le_trans (Nat.min_le_left _ _) hh
  · rw [if_neg e1]
    by_cases e2 : prd n j = f
    · rw [if_pos e2]
      rw [e2] at hh
      by_cases k : (ring || decide (f + 1 < n)) = true
      · rw [if_pos k, hps e2 k]; omega
      · rw [if_neg k, Nat.min_eq_left hl]; exact hh
    · rw [if_neg e2]; exact hh
theorem back_keeps_all {n : Nat} {ring : Bool} : ∀ (L : List Nat) (a : Nat → Nat), (∀ f, f < n → (ring = true ∨ 0 < f) → a f ≤ a (prd n f) + 1) → (∀ f, f < n → a f ≤ n) → (∀ f ∈ L, f < n) →
    ∀ j, j < n → (ring = true ∨ 0 < j) → L.foldl (low n (suc n) (fun f => ring || decide (f + 1 < n))) a j ≤ L.foldl (low n (suc n) (fun f => ring || decide (f + 1 < n))) a (prd n j) + 1
  | [], a, h, le, _ => h
  | f :: L, a, h, le, hl => back_keeps_all L _ (back_keeps h le (hl f List.mem_cons_self)) (fun j hj => by
    unfold low
    split
    · rename_i e; rw [← e]; exact Nat.le_trans (Nat.min_le_left _ _) (le j hj)
    · exact le j hj) fun g hg => hl g (List.mem_cons_of_mem _ hg)
def far0 (n : Nat) (ring : Bool) (x : Cfg) : Nat → Nat := fun f => if heldB n ring x f = true then 0 else n
def on1 (n : Nat) (ring : Bool) : List Nat := List.range' 1 (n - 1) ++ (if ring = true then List.range n else [])
def back1 (n : Nat) : List Nat := (List.range n ++ List.range n).reverse
def farP (n : Nat) (ring : Bool) (x : Cfg) : Nat → Nat := (back1 n).foldl (low n (suc n) (fun f => ring || decide (f + 1 < n))) ((on1 n ring).foldl (low n (prd n) (fun f => ring || decide (0 < f))) (far0 n ring x))
theorem range_cons {n : Nat} (hn : 0 < n) : List.range n = 0 :: List.range' 1 (n - 1) := by
  rw [List.range_eq_range']
  obtain ⟨m, rfl⟩ : ∃ m, n = m + 1 := ⟨n - 1, by omega⟩
  rw [List.range'_succ]; rfl
theorem range_rev (n : Nat) : (List.range n).reverse = (List.range n).map fun i => n - 1 - i := by
  rw [List.range_eq_range', List.reverse_range', ← List.range_eq_range']
  exact List.map_congr_left fun a _ => by omega
theorem farP_far {n : Nat} {ring : Bool} {x : Cfg} (hn : 0 < n) (some : ∃ f, f < n ∧ heldB n ring x f = true) : Far n ring x (farP n ring x) := by
  -- the start
  have i0 : Inv n ring x (far0 n ring x) := by
    refine ⟨fun f hf => ?_, fun f hf => ?_, fun f hf => ?_⟩ <;> unfold far0
    · split <;> simp_all; omega
    · split <;> omega
    · split
      · exact .inl rfl
      · exact .inr (.inl rfl)
  have pr : ∀ f, f < n → (ring || decide (0 < f)) = true → prd n f ∈ nearN n ring f := fun f hf k => by
    rw [near_mem hf]
    have k : ring = true ∨ 0 < f := by simpa using k
    cases ring with
    | true => exact .inl ⟨rfl, .inl rfl⟩
    | false =>
      have k : 0 < f := k.resolve_left (by simp)
      exact .inr ⟨rfl, .inl ⟨k, by unfold prd; rw [if_neg (by omega)]⟩⟩
  have su : ∀ f, f < n → (ring || decide (f + 1 < n)) = true → suc n f ∈ nearN n ring f := fun f hf k => by
    rw [near_mem hf]
    have k : ring = true ∨ f + 1 < n := by simpa using k
    cases ring with
    | true => exact .inl ⟨rfl, .inr rfl⟩
    | false =>
      have k : f + 1 < n := k.resolve_left (by simp)
      exact .inr ⟨rfl, .inr ⟨k, by unfold suc; rw [if_neg (by omega)]⟩⟩
  have l1 : ∀ f ∈ on1 n ring, f < n := fun f hf => by
    unfold on1 at hf
    rw [List.mem_append] at hf
    rcases hf with h | h
    · exact (range'_lt h).2
    · split at h
      · exact List.mem_range.mp h
      · cases h
  have l2 : ∀ f ∈ back1 n, f < n := fun f hf => by
    unfold back1 at hf
    simpa using hf
  have i1 := inv_fold pr (on1 n ring) _ i0 l1
  have i2 := inv_fold su (back1 n) _ i1 l2
  -- the sweep on
  have f1 : ∀ f, f < n → (ring = true ∨ 0 < f) → (on1 n ring).foldl (low n (prd n) (fun f => ring || decide (0 < f))) (far0 n ring x) f ≤ (on1 n ring).foldl (low n (prd n) (fun f => ring || decide (0 < f))) (far0 n ring x) (prd n f) + 1 := by
    have hp : ∀ i, 1 ≤ i → i < n → prd n (id i) = id (i - 1) ∧ (ring || decide (0 < id i)) = true := fun i h1 h2 => ⟨by unfold prd; rw [if_neg (by simp; omega)]; rfl, by simp; exact .inr (by omega)⟩
    have lp := lap (p := prd n) (ok := fun f => ring || decide (0 < f)) (e := id) hn (fun _ _ _ _ e => e) hp (far0 n ring x)
    rw [List.map_id] at lp
    intro f hf hr
    cases ring with
    | false =>
      have hr : 0 < f := hr.resolve_left (by simp)
      have e : on1 n false = List.range' 1 (n - 1) := by unfold on1; simp
      rw [e]
      have := lp f hr hf
      unfold prd
      rw [if_neg (by omega)]
      exact this
    | true =>
      have e : on1 n true = List.range' 1 (n - 1) ++ (id 0 :: (List.range' 1 (n - 1)).map id) := by unfold on1; rw [if_pos rfl, range_cons hn, List.map_id]; rfl
      rw [e, List.foldl_append]
      obtain ⟨r1, r2⟩ := lapR (p := prd n) (ok := fun f => true || decide (0 < f)) (e := id) hn (fun _ _ _ _ e => e) hp ⟨by unfold prd; simp, by simp⟩ _ lp _ rfl
      unfold prd
      split
      · rename_i z; rw [z]; exact r2
      · exact r1 f (by omega) hf
  -- the sweep back
  have b2 := back_keeps_all (back1 n) _ f1 (fun f hf => i1.le f hf) l2
  have g2 : ∀ f, f < n → (ring = true ∨ f + 1 < n) → farP n ring x f ≤ farP n ring x (suc n f) + 1 := by
    let e : Nat → Nat := fun i => n - 1 - i
    have inj : ∀ i j, i < n → j < n → e i = e j → i = j := fun i j hi hj h => by have h : n - 1 - i = n - 1 - j := h; omega
    have hp : ∀ i, 1 ≤ i → i < n → suc n (e i) = e (i - 1) ∧ (ring || decide (e i + 1 < n)) = true := fun i h1 h2 => ⟨by
      show suc n (n - 1 - i) = n - 1 - (i - 1)
      unfold suc
      rw [if_neg (by omega)]; omega, by
      have : n - 1 - i + 1 < n := by omega
      show (ring || decide (n - 1 - i + 1 < n)) = true
      simp [this]⟩
    have el : back1 n = (e 0 :: (List.range' 1 (n - 1)).map e) ++ (e 0 :: (List.range' 1 (n - 1)).map e) := by
      unfold back1
      rw [List.reverse_append, range_rev, range_cons hn, List.map_cons]
    have fin : ∀ f, f < n → f + 1 < n → (∃ i, 1 ≤ i ∧ i < n ∧ f = e i ∧ suc n f = e (i - 1)) := fun f hf h => ⟨n - 1 - f, by omega, by omega, by show f = n - 1 - (n - 1 - f); omega, by
      show suc n f = n - 1 - (n - 1 - f - 1)
      unfold suc
      rw [if_neg (by omega)]; omega⟩
    intro f hf hr
    unfold farP
    rw [el, List.foldl_append, List.foldl_cons]
    have lp := fun a => lap (p := suc n) (ok := fun f => ring || decide (f + 1 < n)) (e := e) hn inj hp a
    by_cases hf1 : f + 1 < n
    · obtain ⟨i, h1, h2, rfl, h4⟩ := fin f hf hf1
      rw [h4, List.foldl_cons]
      exact lp _ i h1 h2
    · have hr : ring = true := hr.resolve_right hf1
      subst hr
      obtain ⟨_, r2⟩ := lapR (p := suc n) (ok := fun f => true || decide (f + 1 < n)) (e := e) hn inj hp ⟨by
        show suc n (n - 1 - 0) = n - 1 - (n - 1)
        unfold suc
        rw [if_pos (by omega)]; omega, by simp⟩ _ (lp _) _ rfl
      have e0 : f = e 0 := by show f = n - 1 - 0; omega
      have e1 : suc n f = e (n - 1) := by
        show suc n f = n - 1 - (n - 1)
        unfold suc
        rw [if_pos (by omega)]; omega
      rw [e1, e0]
      exact r2
  have lip : ∀ f g, f < n → g ∈ nearN n ring f → farP n ring x f ≤ farP n ring x g + 1 := fun f g hf hg => by
    rw [near_mem hf] at hg
    rcases hg with ⟨h, rfl | rfl⟩ | ⟨h, ⟨h1, rfl⟩ | ⟨h1, rfl⟩⟩
    · exact b2 f hf (.inl h)
    · exact g2 f hf (.inl h)
    · have := b2 f hf (.inr h1)
      have e : prd n f = f - 1 := by unfold prd; rw [if_neg (by omega)]
      rw [e] at this; exact this
    · have := g2 f hf (.inr h1)
      have e : suc n f = f + 1 := by unfold suc; rw [if_neg (by omega)]
      rw [e] at this; exact this
  refine ⟨i2.zero, lip, fun f hf h0 => ?_⟩
  rcases i2.exp f hf with h | h | ⟨g, h1, h2⟩
  · exact absurd h (by unfold farP at h0; omega)
  · -- so far off is nobody
    obtain ⟨h', hh, hd⟩ := some
    have z := (i2.zero h' hh).mpr hd
    have up : ∀ k, h' + k < n → farP n ring x (h' + k) ≤ k := fun k => by
      induction k with
      | zero => intro _; show farP n ring x h' ≤ 0; unfold farP; omega
      | succ k ih =>
        intro hk
        have := b2 (h' + (k + 1)) hk (.inr (by omega))
        have e : prd n (h' + (k + 1)) = h' + k := by unfold prd; rw [if_neg (by omega)]; omega
        rw [e] at this
        have i := ih (by omega)
        unfold farP at i ⊢
        omega
    have dn : ∀ k, k ≤ h' → farP n ring x (h' - k) ≤ k := fun k => by
      induction k with
      | zero => intro _; show farP n ring x h' ≤ 0; unfold farP; omega
      | succ k ih =>
        intro hk
        have := g2 (h' - (k + 1)) (by omega) (.inr (by omega))
        have e : suc n (h' - (k + 1)) = h' - k := by unfold suc; rw [if_neg (by omega)]; omega
        rw [e] at this
        have i := ih (by omega)
        omega
    have h : farP n ring x f = n := h
    rcases Nat.le_total h' f with q | q
    · have := up (f - h') (by omega)
      have e : h' + (f - h') = f := by omega
      rw [e] at this; omega
    · have := dn (h' - f) (by omega)
      have e : h' - (h' - f) = f := by omega
      rw [e] at this; omega
  · refine ⟨g, h1, ?_⟩
    have := lip f g hf h1
    unfold farP at this ⊢
    omega
end TT

/-! B2: stands as trees, promises of the defs of the beat -/
namespace TT
open PySem L2
@[simp] theorem frzL_nil : frzL [] = [] := by rw [frzL]
@[simp] theorem frzL_cons (d : D) (r : List D) : frzL (d :: r) = d.frz :: frzL r := by rw [frzL]
@[simp] theorem wipeE_nil (e : Env) : wipeE e [] = e := rfl
@[simp] theorem wipeE_cons (e : Env) (v : Nat) (vs : List Nat) : wipeE e (v :: vs) = (wipeE e vs).set v none := rfl
theorem size_le {n : Nat} (h : n ≤ 100000) : n ≤ sizeLine := Nat.le_trans h (by rw [sizeLine_eq]; decide)
@[simp] theorem begin_eq (N ps : List Str) (env : Env) : begin N ps env = env ++ List.replicate (N.length - ps.length) none := rfl
/-- side c, plus or minus -/
def sg (c : Nat) (b : Bool) : Int := if b = true then (c : Int) + 1 else -((c : Int) + 1)
theorem sg_eq (c : Nat) (a b : Bool) : decide (sg c a = sg c b) = (a == b) := by
  unfold sg
  cases a <;> cases b <;> simp <;> omega
theorem sg_neg (c : Nat) (b : Bool) : -sg c b = sg c (!b) := by
  unfold sg
  cases b <;> simp <;> omega
def rowI (m : Nat) (y : Nat → Bool) : List Int := (List.range m).map fun c => sg c (y c)
def stD (n m : Nat) (x : Nat → Nat → Bool) : List D := (List.range n).map fun f => rowD (rowI m (x f))
@[simp] theorem stD_length (n m x) : (stD n m x).length = n := by simp [stD]
@[simp] theorem rowI_length (m y) : (rowI m y).length = m := by simp [rowI]
@[simp] theorem stD_frz (n m x) : (stD n m x).map D.frz = stD n m x := by
  unfold stD
  rw [List.map_map]
  exact List.map_congr_left fun f _ => frz_rowD _
theorem ix_stD {o : Bool} {n m : Nat} {x : Nat → Nat → Bool} {f : Nat} (hf : f < n) : getIx (.lst o (stD n m x)) (.int (f : Nat)) = some (rowD (rowI m (x f))) :=
  ix_lst (by omega) (by unfold stD; simp [hf])
theorem ix_rowI {m : Nat} {y : Nat → Bool} {c : Nat} (hc : c < m) : getIx (rowD (rowI m y)) (.int (c : Nat)) = some (.int (sg c (y c))) :=
  ix_tup (by omega) (by unfold rowI; simp [hc])
abbrev col (x : Nat → Nat → Bool) (c : Nat) : Cfg := fun f => x f c
def natsD (l : List Nat) : List D := l.map fun g => .int (g : Nat)
@[simp] theorem natsD_length (l) : (natsD l).length = l.length := by simp [natsD]
@[simp] theorem natsD_frz (l : List Nat) : (natsD l).map D.frz = natsD l := by
  unfold natsD
  rw [List.map_map]
  exact List.map_congr_left fun f _ => frz_int _
theorem rgD0 (n : Nat) : rgD 0 n = natsD (List.range n) := by
  unfold rgD natsD
  exact List.map_congr_left fun i _ => by rw [Int.zero_add]
theorem rgD1 (n : Nat) : rgD 1 n = natsD (List.range' 1 n) := by
  unfold rgD natsD
  rw [List.range'_eq_map_range, List.map_map]
  exact List.map_congr_left fun i _ => by simp
def farL (n : Nat) (a : Nat → Nat) : List D := (List.range n).map fun f => .int (a f : Nat)
@[simp] theorem farL_length (n a) : (farL n a).length = n := by simp [farL]
@[simp] theorem farL_frz (n a) : (farL n a).map D.frz = farL n a := by
  unfold farL
  rw [List.map_map]
  exact List.map_congr_left fun f _ => frz_int _
theorem ix_farL {o : Bool} {n f : Nat} {a : Nat → Nat} (hf : f < n) : getIx (.lst o (farL n a)) (.int (f : Nat)) = some (.int (a f : Nat)) :=
  ix_lst (by omega) (by unfold farL; simp [hf])
def anyHeld (n : Nat) (ring : Bool) (x : Cfg) : Bool := (List.range n).any fun f => heldB n ring x f
def farD (o : Bool) (n : Nat) (ring : Bool) (x : Cfg) : D := if anyHeld n ring x = true then .lst o (farL n (farP n ring x)) else .non
@[simp] theorem farD_frz (o n ring x) : (farD o n ring x).frz = farD false n ring x := by
  unfold farD
  split <;> simp
@[simp] theorem nfE_fin (n : Nat) (e : Env) : nfE (fin [] n e) = true := by
  rw [fin_nil]
  induction n with
  | zero => rfl
  | succ n ih => rw [List.replicate_succ]; exact ih
/-! ### promises -/
def sp_neighbours : TX := fun env Q => ∃ (n f : Nat) (ring : Bool), env = [some (.int n), some (.int f), some (.bl ring)] ∧ f < n ∧ ∀ fe, nfE fe = true → Q (.lst true (natsD (nearN n ring f))) fe
def sp_is_held : TX := fun env Q => ∃ (n m : Nat) (x : Nat → Nat → Bool) (c f : Nat) (ring : Bool), env = [some (.lst false (stD n m x)), some (.int ((c : Int) + 1)), some (.int f), some (.bl ring)] ∧ c < m ∧ f < n ∧ n ≤ 1000 ∧ ∀ fe, nfE fe = true → Q (.bl (heldB n ring (col x c) f)) fe
def sp_distances : TX := fun env Q => ∃ (n m : Nat) (x : Nat → Nat → Bool) (c : Nat) (ring : Bool), env = [some (.lst false (stD n m x)), some (.int ((c : Int) + 1)), some (.bl ring)] ∧ c < m ∧ 0 < n ∧ n ≤ 1000 ∧ ∀ fe, nfE fe = true → Q (farD true n ring (col x c)) fe
def sp_side_behind : TX := fun env Q => ∃ (n m : Nat) (x : Nat → Nat → Bool) (c f k : Nat) (ring : Bool), env = [some (.lst false (stD n m x)), some (.int ((c : Int) + 1)), some (.int f), some (.int k), some (farD false n ring (col x c))] ∧ c < m ∧ f < n ∧ ∀ fe, nfE fe = true → Q (.int (sg c (itB n ring k (col x c) f))) fe
def sp_all_distances : TX := fun env Q => ∃ (n m : Nat) (x : Nat → Nat → Bool) (ring : Bool), env = [some (.lst false (stD n m x)), some (.bl ring)] ∧ 0 < n ∧ n ≤ 1000 ∧ m ≤ 1000 ∧ ∀ fe, nfE fe = true → Q (.lst true ((List.range m).map fun c => farD true n ring (col x c))) fe
def sp_spot_behind : TX := fun env Q => ∃ (n m : Nat) (x : Nat → Nat → Bool) (f k : Nat) (ring : Bool), env = [some (.lst false (stD n m x)), some (.int f), some (.int k), some (.lst false ((List.range m).map fun c => farD false n ring (col x c)))] ∧ f < n ∧ n ≤ 1000 ∧ m ≤ 1000 ∧ ∀ fe, nfE fe = true → Q (rowD (rowI m fun c => itB n ring k (col x c) f)) fe
/-- the stand k beats on -/
def beatsX (n : Nat) (ring : Bool) (k : Nat) (x : Nat → Nat → Bool) : Nat → Nat → Bool := fun f c => itB n ring k (col x c) f
def sp_behind : TX := fun env Q => ∃ (n m : Nat) (x : Nat → Nat → Bool) (k : Nat) (ring : Bool), env = [some (.lst false (stD n m x)), some (.int k), some (.bl ring)] ∧ 0 < n ∧ n ≤ 1000 ∧ m ≤ 1000 ∧ ∀ fe, nfE fe = true → Q (.lst true (stD n m (beatsX n ring k x))) fe

theorem ix_farL_prd {o : Bool} {n f : Nat} {a : Nat → Nat} (hf : f < n) : getIx (.lst o (farL n a)) (.int ((f : Nat) - 1)) = some (.int (a (prd n f) : Nat)) := by
  by_cases h : f = 0
  · subst h
    show atI (farL n a) ((0 : Nat) - 1) = _
    unfold atI ixN
    rw [if_neg (by omega), farL_length, if_pos (by omega)]
    have e : (((0 : Nat) : Int) - 1 + (n : Nat)).toNat = n - 1 := by omega
    rw [e]
    unfold farL prd
    simp [hf, show n - 1 < n by omega]
  · have e : ((f : Nat) : Int) - 1 = ((f - 1 : Nat) : Int) := by omega
    rw [e]
    have := ix_farL (o := o) (a := a) (show f - 1 < n by omega)
    rw [this]
    unfold prd
    rw [if_neg h]
theorem suc_mod {n f : Nat} (hf : f < n) : ((f : Nat) + 1 : Int) % (n : Nat) = (suc n f : Nat) := by
  unfold suc
  split
  · rename_i z
    rw [show (f : Int) + 1 = ((n : Nat) : Int) by omega, Int.emod_self]; rfl
  · rw [show ((f : Int) + 1) = ((f + 1 : Nat) : Int) by omega]
    exact Int.emod_eq_of_lt (by omega) (by omega)
theorem suc_lt {n f : Nat} (hf : f < n) : suc n f < n := by unfold suc; split <;> omega
theorem prd_lt {n f : Nat} (hf : f < n) : prd n f < n := by unfold prd; split <;> omega
theorem farL_set {n f : Nat} {a b : Nat → Nat} {v : Int} (hf : f < n) (hb : ∀ j, j ≠ f → b j = a j) (hv : ((b f : Nat) : Int) = v) : (farL n a).set f (.int v) = farL n b := by
  refine List.ext_getElem? fun i => ?_
  rw [List.getElem?_set]
  unfold farL
  by_cases e : f = i
  · subst e
    simp [hf, hv]
  · rw [if_neg e]
    by_cases hi : i < n
    · simp [hi, hb i (Ne.symm e)]
    · simp [hi]
theorem rin_farL {neg o : Bool} {n : Nat} {a : Nat → Nat} {v : Nat} {QP : D → Prop} (q : QP (.bl (if neg = true then !decide (∃ f, f < n ∧ a f = v) else decide (∃ f, f < n ∧ a f = v)))) : rInT neg (.int (v : Nat)) (.lst o (farL n a)) QP := by
  have e : farL n a = ((List.range n).map fun f => ((a f : Nat) : Int)).map D.int := by unfold farL; rw [List.map_map]; rfl
  rw [e]
  refine cmp_int0.rin ?_
  have : decide ((v : Int) ∈ (List.range n).map fun f => ((a f : Nat) : Int)) = decide (∃ f, f < n ∧ a f = v) := decide_eq_decide.mpr (by
    rw [List.mem_map]
    refine exists_congr fun f => ?_
    rw [List.mem_range]
    exact and_congr_right fun _ => by omega)
  rw [this]
  exact q
theorem odd_int (k : Nat) : ((k : Int) % 2 = 0) ↔ odd k = false := by
  unfold odd
  rw [decide_eq_false_iff_not]
  omega
theorem enum_map {α : Type} (f : α → D) : ∀ (xs : List α) (k : Nat), enumL (k : Nat) (xs.map f) = (xs.zipIdx k).map fun p => D.tup [.int (p.2 : Nat), f p.1]
  | [], _ => rfl
  | a :: r, k => by
    rw [List.map_cons, enumL, List.zipIdx_cons, List.map_cons, ← enum_map f r (k + 1)]; rfl
theorem enum_range (f : Nat → D) (m : Nat) : enumL 0 ((List.range m).map f) = (List.range m).map fun c => D.tup [.int (c : Nat), f c] := by
  refine Eq.trans (enum_map f (List.range m) 0) (List.ext_getElem? fun i => ?_)
  simp
  by_cases h : i < m <;> simp [h]
end TT

/-! M1: typed values and how data are made of them; what goes on with a value -/
namespace TT
open PySem PySem.Spec PyProof.Rows L2
abbrev Fz {α : Type} (e e' : α → D) : Prop := ∀ a, (e a).frz = e' a
abbrev Nf {α : Type} (e : α → D) : Prop := ∀ a, (e a).nf = true
theorem szl : 0 < sizeLine ∧ 1 < sizeLine ∧ 2 < sizeLine ∧ 3 < sizeLine ∧ 4 < sizeLine ∧ 5 < sizeLine ∧ 6 < sizeLine := by rw [sizeLine_eq]; decide
section
variable {α β γ δ : Type} {o : Bool} {e e' f f' : α → D} {ea ea' : α → D} {eb eb' : β → D} {ec ec' : γ → D}
def eL (o : Bool) (e : α → D) (xs : List α) : D := .lst o (xs.map e)
def eQ (e : α → D) (xs : List α) : D := .kst (xs.map e)
def eT (e : α → D) (xs : List α) : D := .tup (xs.map e)
def e1 (ea : α → D) (p : α) : D := .tup [ea p]
def e2 (ea : α → D) (eb : β → D) (p : α × β) : D := .tup [ea p.1, eb p.2]
def e3 (ea : α → D) (eb : β → D) (ec : γ → D) (p : α × β × γ) : D := .tup [ea p.1, eb p.2.1, ec p.2.2]
def e4 {δ : Type} (ea : α → D) (eb : β → D) (ec : γ → D) (ed : δ → D) (p : α × β × γ × δ) : D := .tup [ea p.1, eb p.2.1, ec p.2.2.1, ed p.2.2.2]
def e0 (_ : Unit) : D := .tup []
def eN (_ : Unit) : D := .non
def eO (e : α → D) : Option α → D
  | none => .non
  | some a => e a
/-- dicts by ints -/
def eK (o : Bool) (e : α → D) (kvs : List (Int × α)) : D := .dct o (kvs.map fun p => (.inl p.1, e p.2))
theorem fzI : Fz D.int D.int := frz_int
theorem fzB : Fz D.bl D.bl := frz_bl
theorem fzS : Fz D.str D.str := frz_str
theorem fzN : Fz eN eN := fun _ => frz_non
theorem fz0 : Fz e0 e0 := fun _ => by unfold e0; simp
theorem fzL (h : Fz e e') : Fz (eL o e) (eL false e') := fun xs => by unfold eL; rw [frz_lst, List.map_map]; exact congrArg _ (List.map_congr_left fun a _ => h a)
theorem fzQ (h : Fz e e') : Fz (eQ e) (eQ e') := fun xs => by unfold eQ; rw [frz_kst, List.map_map]; exact congrArg _ (List.map_congr_left fun a _ => h a)
theorem fzT (h : Fz e e') : Fz (eT e) (eT e') := fun xs => by unfold eT; rw [frz_tup, List.map_map]; exact congrArg _ (List.map_congr_left fun a _ => h a)
theorem fz1 (ha : Fz ea ea') : Fz (e1 ea) (e1 ea') := fun p => by unfold e1; simp [ha _]
theorem fz2 (ha : Fz ea ea') (hb : Fz eb eb') : Fz (e2 ea eb) (e2 ea' eb') := fun p => by unfold e2; simp [ha _, hb _]
theorem fz3 (ha : Fz ea ea') (hb : Fz eb eb') (hc : Fz ec ec') : Fz (e3 ea eb ec) (e3 ea' eb' ec') := fun p => by unfold e3; simp [ha _, hb _, hc _]
theorem fz4 {ed ed' : δ → D} (ha : Fz ea ea') (hb : Fz eb eb') (hc : Fz ec ec') (hd : Fz ed ed') : Fz (e4 ea eb ec ed) (e4 ea' eb' ec' ed') := fun p => by unfold e4; simp [ha _, hb _, hc _, hd _]
theorem fzO (h : Fz e e') : Fz (eO e) (eO e') := fun x => match x with
  | none => frz_non
  | some a => h a
theorem fzK (h : Fz e e') : Fz (eK o e) (eK false e') := fun xs => by unfold eK; rw [frz_dct, List.map_map]; exact congrArg _ (List.map_congr_left fun a _ => by show (_, (e a.2).frz) = _; rw [h])
theorem nvI : Nf D.int := nf_int
theorem nvB : Nf D.bl := nf_bl
theorem nvS : Nf D.str := nf_str
theorem nvN : Nf eN := fun _ => nf_non
theorem nv0 : Nf e0 := fun _ => by unfold e0; simp
theorem nvL (h : Nf e) : Nf (eL true e) := fun xs => by unfold eL; rw [nf_lst, List.all_map, Bool.true_and, List.all_eq_true]; exact fun a _ => h a
theorem nvT (h : Nf e) : Nf (eT e) := fun xs => by unfold eT; rw [nf_tup, List.all_map, List.all_eq_true]; exact fun a _ => h a
theorem nv1 (ha : Nf ea) : Nf (e1 ea) := fun p => by unfold e1; simp [ha _]
theorem nv2 (ha : Nf ea) (hb : Nf eb) : Nf (e2 ea eb) := fun p => by unfold e2; simp [ha _, hb _]
theorem nv3 (ha : Nf ea) (hb : Nf eb) (hc : Nf ec) : Nf (e3 ea eb ec) := fun p => by unfold e3; simp [ha _, hb _, hc _]
theorem nv4 {ed : δ → D} (ha : Nf ea) (hb : Nf eb) (hc : Nf ec) (hd : Nf ed) : Nf (e4 ea eb ec ed) := fun p => by unfold e4; simp [ha _, hb _, hc _, hd _]
theorem nvO (h : Nf e) : Nf (eO e) := fun x => match x with
  | none => nf_non
  | some a => h a
theorem nvK (h : Nf e) : Nf (eK true e) := fun xs => by unfold eK; rw [D.nf, nfK_all, nfL_all, List.map_map, Bool.true_and, List.all_map, List.all_eq_true]; exact fun a _ => h a.2
theorem nfE0 : nfE [] = true := rfl
theorem nfEn {env : Env} (h : nfE env = true) : nfE (none :: env) = true := h
theorem nfEs {env : Env} {d : D} (hd : d.nf = true) (h : nfE env = true) : nfE (some d :: env) = true := by rw [nfE_some, hd, h]; rfl
theorem eL_map (xs : List α) : D.lst o (xs.map e) = eL o e xs := rfl
theorem frzL_e (h : Fz e e') (xs : List α) : frzL (xs.map e) = xs.map e' := by rw [frzL_map, List.map_map]; exact List.map_congr_left fun a _ => h a
end
section
variable {τ1 : Type} {o : Bool} {k1 : Str} {e1 fe1 : τ1 → D}
def eR1 (o : Bool) (k1 : Str) (e1 : τ1 → D) (p : τ1) : D := .dct o [(.inr k1, e1 p)]
theorem fzR1 (h1 : Fz e1 fe1) : Fz (eR1 o k1 e1) (eR1 false k1 fe1) := fun p => by unfold eR1; rw [D.frz, frzK_map]; simp [h1 _]
theorem nvR1 (h1 : Nf e1) : Nf (eR1 true k1 e1) := fun p => by unfold eR1; rw [D.nf, nfK_all]; simp [nfL_all, h1 _]
theorem gR1_1 (p : τ1) : dget (eR1 o k1 e1 p) (.str k1) = some (some (e1 p)) := by simp [eR1, dget, keyD, lookK]
theorem pR1_1 (p : τ1) (v : τ1)  : putX (eR1 true k1 e1 p) (.str k1) (e1 v) = some (eR1 true k1 e1 v) := by simp [eR1, putX, keyD, putD, szl]
theorem lR1_1 {d1 : D}  : lookK [((.inr k1 : Key), d1)] (.inr k1) = some d1 := by simp [lookK]
theorem uR1_1 {p : τ1} {v : τ1} {d : D} (q : d = e1 v)  : D.dct true (putD [((.inr k1 : Key), e1 p)] (.inr k1) d) = eR1 true k1 e1 v := by subst q; simp [eR1, putD]
end
section
variable {τ1 τ2 : Type} {o : Bool} {k1 k2 : Str} {e1 fe1 : τ1 → D} {e2 fe2 : τ2 → D}
def eR2 (o : Bool) (k1 k2 : Str) (e1 : τ1 → D) (e2 : τ2 → D) (p : τ1 × τ2) : D := .dct o [(.inr k1, e1 p.1), (.inr k2, e2 p.2)]
theorem fzR2 (h1 : Fz e1 fe1) (h2 : Fz e2 fe2) : Fz (eR2 o k1 k2 e1 e2) (eR2 false k1 k2 fe1 fe2) := fun p => by unfold eR2; rw [D.frz, frzK_map]; simp [h1 _, h2 _]
theorem nvR2 (h1 : Nf e1) (h2 : Nf e2) : Nf (eR2 true k1 k2 e1 e2) := fun p => by unfold eR2; rw [D.nf, nfK_all]; simp [nfL_all, h1 _, h2 _]
theorem gR2_1 (p : τ1 × τ2) : dget (eR2 o k1 k2 e1 e2 p) (.str k1) = some (some (e1 p.1)) := by simp [eR2, dget, keyD, lookK]
theorem pR2_1 (p : τ1 × τ2) (v : τ1) (h12 : k1 ≠ k2 := by decide) : putX (eR2 true k1 k2 e1 e2 p) (.str k1) (e1 v) = some (eR2 true k1 k2 e1 e2 (v, p.2)) := by simp [eR2, putX, keyD, putD, szl, h12, h12.symm]
theorem lR2_1 {d1 d2 : D}  : lookK [((.inr k1 : Key), d1), ((.inr k2 : Key), d2)] (.inr k1) = some d1 := by simp [lookK]
theorem uR2_1 {p : τ1 × τ2} {v : τ1} {d : D} (q : d = e1 v) (h12 : k1 ≠ k2 := by decide) : D.dct true (putD [((.inr k1 : Key), e1 p.1), ((.inr k2 : Key), e2 p.2)] (.inr k1) d) = eR2 true k1 k2 e1 e2 (v, p.2) := by subst q; simp [eR2, putD, h12, h12.symm]
theorem gR2_2 (p : τ1 × τ2) (h1 : k1 ≠ k2 := by decide) : dget (eR2 o k1 k2 e1 e2 p) (.str k2) = some (some (e2 p.2)) := by simp [eR2, dget, keyD, lookK, h1]
theorem pR2_2 (p : τ1 × τ2) (v : τ2) (h12 : k1 ≠ k2 := by decide) : putX (eR2 true k1 k2 e1 e2 p) (.str k2) (e2 v) = some (eR2 true k1 k2 e1 e2 (p.1, v)) := by simp [eR2, putX, keyD, putD, szl, h12, h12.symm]
theorem lR2_2 {d1 d2 : D} (h1 : k1 ≠ k2 := by decide) : lookK [((.inr k1 : Key), d1), ((.inr k2 : Key), d2)] (.inr k2) = some d2 := by simp [lookK, h1]
theorem uR2_2 {p : τ1 × τ2} {v : τ2} {d : D} (q : d = e2 v) (h12 : k1 ≠ k2 := by decide) : D.dct true (putD [((.inr k1 : Key), e1 p.1), ((.inr k2 : Key), e2 p.2)] (.inr k2) d) = eR2 true k1 k2 e1 e2 (p.1, v) := by subst q; simp [eR2, putD, h12, h12.symm]
end
section
variable {τ1 τ2 τ3 : Type} {o : Bool} {k1 k2 k3 : Str} {e1 fe1 : τ1 → D} {e2 fe2 : τ2 → D} {e3 fe3 : τ3 → D}
def eR3 (o : Bool) (k1 k2 k3 : Str) (e1 : τ1 → D) (e2 : τ2 → D) (e3 : τ3 → D) (p : τ1 × τ2 × τ3) : D := .dct o [(.inr k1, e1 p.1), (.inr k2, e2 p.2.1), (.inr k3, e3 p.2.2)]
theorem fzR3 (h1 : Fz e1 fe1) (h2 : Fz e2 fe2) (h3 : Fz e3 fe3) : Fz (eR3 o k1 k2 k3 e1 e2 e3) (eR3 false k1 k2 k3 fe1 fe2 fe3) := fun p => by unfold eR3; rw [D.frz, frzK_map]; simp [h1 _, h2 _, h3 _]
theorem nvR3 (h1 : Nf e1) (h2 : Nf e2) (h3 : Nf e3) : Nf (eR3 true k1 k2 k3 e1 e2 e3) := fun p => by unfold eR3; rw [D.nf, nfK_all]; simp [nfL_all, h1 _, h2 _, h3 _]
theorem gR3_1 (p : τ1 × τ2 × τ3) : dget (eR3 o k1 k2 k3 e1 e2 e3 p) (.str k1) = some (some (e1 p.1)) := by simp [eR3, dget, keyD, lookK]
theorem pR3_1 (p : τ1 × τ2 × τ3) (v : τ1) (h12 : k1 ≠ k2 := by decide) (h13 : k1 ≠ k3 := by decide) (h23 : k2 ≠ k3 := by decide) : putX (eR3 true k1 k2 k3 e1 e2 e3 p) (.str k1) (e1 v) = some (eR3 true k1 k2 k3 e1 e2 e3 (v, p.2.1, p.2.2)) := by simp [eR3, putX, keyD, putD, szl, h12, h13, h23, h12.symm, h13.symm, h23.symm]
theorem lR3_1 {d1 d2 d3 : D}  : lookK [((.inr k1 : Key), d1), ((.inr k2 : Key), d2), ((.inr k3 : Key), d3)] (.inr k1) = some d1 := by simp [lookK]
theorem uR3_1 {p : τ1 × τ2 × τ3} {v : τ1} {d : D} (q : d = e1 v) (h12 : k1 ≠ k2 := by decide) (h13 : k1 ≠ k3 := by decide) (h23 : k2 ≠ k3 := by decide) : D.dct true (putD [((.inr k1 : Key), e1 p.1), ((.inr k2 : Key), e2 p.2.1), ((.inr k3 : Key), e3 p.2.2)] (.inr k1) d) = eR3 true k1 k2 k3 e1 e2 e3 (v, p.2.1, p.2.2) := by subst q; simp [eR3, putD, h12, h13, h23, h12.symm, h13.symm, h23.symm]
theorem gR3_2 (p : τ1 × τ2 × τ3) (h1 : k1 ≠ k2 := by decide) : dget (eR3 o k1 k2 k3 e1 e2 e3 p) (.str k2) = some (some (e2 p.2.1)) := by simp [eR3, dget, keyD, lookK, h1]
theorem pR3_2 (p : τ1 × τ2 × τ3) (v : τ2) (h12 : k1 ≠ k2 := by decide) (h13 : k1 ≠ k3 := by decide) (h23 : k2 ≠ k3 := by decide) : putX (eR3 true k1 k2 k3 e1 e2 e3 p) (.str k2) (e2 v) = some (eR3 true k1 k2 k3 e1 e2 e3 (p.1, v, p.2.2)) := by simp [eR3, putX, keyD, putD, szl, h12, h13, h23, h12.symm, h13.symm, h23.symm]
theorem lR3_2 {d1 d2 d3 : D} (h1 : k1 ≠ k2 := by decide) : lookK [((.inr k1 : Key), d1), ((.inr k2 : Key), d2), ((.inr k3 : Key), d3)] (.inr k2) = some d2 := by simp [lookK, h1]
theorem uR3_2 {p : τ1 × τ2 × τ3} {v : τ2} {d : D} (q : d = e2 v) (h12 : k1 ≠ k2 := by decide) (h13 : k1 ≠ k3 := by decide) (h23 : k2 ≠ k3 := by decide) : D.dct true (putD [((.inr k1 : Key), e1 p.1), ((.inr k2 : Key), e2 p.2.1), ((.inr k3 : Key), e3 p.2.2)] (.inr k2) d) = eR3 true k1 k2 k3 e1 e2 e3 (p.1, v, p.2.2) := by subst q; simp [eR3, putD, h12, h13, h23, h12.symm, h13.symm, h23.symm]
theorem gR3_3 (p : τ1 × τ2 × τ3) (h1 : k1 ≠ k3 := by decide) (h2 : k2 ≠ k3 := by decide) : dget (eR3 o k1 k2 k3 e1 e2 e3 p) (.str k3) = some (some (e3 p.2.2)) := by simp [eR3, dget, keyD, lookK, h1, h2]
theorem pR3_3 (p : τ1 × τ2 × τ3) (v : τ3) (h12 : k1 ≠ k2 := by decide) (h13 : k1 ≠ k3 := by decide) (h23 : k2 ≠ k3 := by decide) : putX (eR3 true k1 k2 k3 e1 e2 e3 p) (.str k3) (e3 v) = some (eR3 true k1 k2 k3 e1 e2 e3 (p.1, p.2.1, v)) := by simp [eR3, putX, keyD, putD, szl, h12, h13, h23, h12.symm, h13.symm, h23.symm]
theorem lR3_3 {d1 d2 d3 : D} (h1 : k1 ≠ k3 := by decide) (h2 : k2 ≠ k3 := by decide) : lookK [((.inr k1 : Key), d1), ((.inr k2 : Key), d2), ((.inr k3 : Key), d3)] (.inr k3) = some d3 := by simp [lookK, h1, h2]
theorem uR3_3 {p : τ1 × τ2 × τ3} {v : τ3} {d : D} (q : d = e3 v) (h12 : k1 ≠ k2 := by decide) (h13 : k1 ≠ k3 := by decide) (h23 : k2 ≠ k3 := by decide) : D.dct true (putD [((.inr k1 : Key), e1 p.1), ((.inr k2 : Key), e2 p.2.1), ((.inr k3 : Key), e3 p.2.2)] (.inr k3) d) = eR3 true k1 k2 k3 e1 e2 e3 (p.1, p.2.1, v) := by subst q; simp [eR3, putD, h12, h13, h23, h12.symm, h13.symm, h23.symm]
end
section
variable {τ1 τ2 τ3 τ4 : Type} {o : Bool} {k1 k2 k3 k4 : Str} {e1 fe1 : τ1 → D} {e2 fe2 : τ2 → D} {e3 fe3 : τ3 → D} {e4 fe4 : τ4 → D}
def eR4 (o : Bool) (k1 k2 k3 k4 : Str) (e1 : τ1 → D) (e2 : τ2 → D) (e3 : τ3 → D) (e4 : τ4 → D) (p : τ1 × τ2 × τ3 × τ4) : D := .dct o [(.inr k1, e1 p.1), (.inr k2, e2 p.2.1), (.inr k3, e3 p.2.2.1), (.inr k4, e4 p.2.2.2)]
theorem fzR4 (h1 : Fz e1 fe1) (h2 : Fz e2 fe2) (h3 : Fz e3 fe3) (h4 : Fz e4 fe4) : Fz (eR4 o k1 k2 k3 k4 e1 e2 e3 e4) (eR4 false k1 k2 k3 k4 fe1 fe2 fe3 fe4) := fun p => by unfold eR4; rw [D.frz, frzK_map]; simp [h1 _, h2 _, h3 _, h4 _]
theorem nvR4 (h1 : Nf e1) (h2 : Nf e2) (h3 : Nf e3) (h4 : Nf e4) : Nf (eR4 true k1 k2 k3 k4 e1 e2 e3 e4) := fun p => by unfold eR4; rw [D.nf, nfK_all]; simp [nfL_all, h1 _, h2 _, h3 _, h4 _]
theorem gR4_1 (p : τ1 × τ2 × τ3 × τ4) : dget (eR4 o k1 k2 k3 k4 e1 e2 e3 e4 p) (.str k1) = some (some (e1 p.1)) := by simp [eR4, dget, keyD, lookK]
theorem pR4_1 (p : τ1 × τ2 × τ3 × τ4) (v : τ1) (h12 : k1 ≠ k2 := by decide) (h13 : k1 ≠ k3 := by decide) (h14 : k1 ≠ k4 := by decide) (h23 : k2 ≠ k3 := by decide) (h24 : k2 ≠ k4 := by decide) (h34 : k3 ≠ k4 := by decide) : putX (eR4 true k1 k2 k3 k4 e1 e2 e3 e4 p) (.str k1) (e1 v) = some (eR4 true k1 k2 k3 k4 e1 e2 e3 e4 (v, p.2.1, p.2.2.1, p.2.2.2)) := by simp [eR4, putX, keyD, putD, szl, h12, h13, h14, h23, h24, h34, h12.symm, h13.symm, h14.symm, h23.symm, h24.symm, h34.symm]
theorem lR4_1 {d1 d2 d3 d4 : D}  : lookK [((.inr k1 : Key), d1), ((.inr k2 : Key), d2), ((.inr k3 : Key), d3), ((.inr k4 : Key), d4)] (.inr k1) = some d1 := by simp [lookK]
theorem uR4_1 {p : τ1 × τ2 × τ3 × τ4} {v : τ1} {d : D} (q : d = e1 v) (h12 : k1 ≠ k2 := by decide) (h13 : k1 ≠ k3 := by decide) (h14 : k1 ≠ k4 := by decide) (h23 : k2 ≠ k3 := by decide) (h24 : k2 ≠ k4 := by decide) (h34 : k3 ≠ k4 := by decide) : D.dct true (putD [((.inr k1 : Key), e1 p.1), ((.inr k2 : Key), e2 p.2.1), ((.inr k3 : Key), e3 p.2.2.1), ((.inr k4 : Key), e4 p.2.2.2)] (.inr k1) d) = eR4 true k1 k2 k3 k4 e1 e2 e3 e4 (v, p.2.1, p.2.2.1, p.2.2.2) := by subst q; simp [eR4, putD, h12, h13, h14, h23, h24, h34, h12.symm, h13.symm, h14.symm, h23.symm, h24.symm, h34.symm]
theorem gR4_2 (p : τ1 × τ2 × τ3 × τ4) (h1 : k1 ≠ k2 := by decide) : dget (eR4 o k1 k2 k3 k4 e1 e2 e3 e4 p) (.str k2) = some (some (e2 p.2.1)) := by simp [eR4, dget, keyD, lookK, h1]
theorem pR4_2 (p : τ1 × τ2 × τ3 × τ4) (v : τ2) (h12 : k1 ≠ k2 := by decide) (h13 : k1 ≠ k3 := by decide) (h14 : k1 ≠ k4 := by decide) (h23 : k2 ≠ k3 := by decide) (h24 : k2 ≠ k4 := by decide) (h34 : k3 ≠ k4 := by decide) : putX (eR4 true k1 k2 k3 k4 e1 e2 e3 e4 p) (.str k2) (e2 v) = some (eR4 true k1 k2 k3 k4 e1 e2 e3 e4 (p.1, v, p.2.2.1, p.2.2.2)) := by simp [eR4, putX, keyD, putD, szl, h12, h13, h14, h23, h24, h34, h12.symm, h13.symm, h14.symm, h23.symm, h24.symm, h34.symm]
theorem lR4_2 {d1 d2 d3 d4 : D} (h1 : k1 ≠ k2 := by decide) : lookK [((.inr k1 : Key), d1), ((.inr k2 : Key), d2), ((.inr k3 : Key), d3), ((.inr k4 : Key), d4)] (.inr k2) = some d2 := by simp [lookK, h1]
theorem uR4_2 {p : τ1 × τ2 × τ3 × τ4} {v : τ2} {d : D} (q : d = e2 v) (h12 : k1 ≠ k2 := by decide) (h13 : k1 ≠ k3 := by decide) (h14 : k1 ≠ k4 := by decide) (h23 : k2 ≠ k3 := by decide) (h24 : k2 ≠ k4 := by decide) (h34 : k3 ≠ k4 := by decide) : D.dct true (putD [((.inr k1 : Key), e1 p.1), ((.inr k2 : Key), e2 p.2.1), ((.inr k3 : Key), e3 p.2.2.1), ((.inr k4 : Key), e4 p.2.2.2)] (.inr k2) d) = eR4 true k1 k2 k3 k4 e1 e2 e3 e4 (p.1, v, p.2.2.1, p.2.2.2) := by subst q; simp [eR4, putD, h12, h13, h14, h23, h24, h34, h12.symm, h13.symm, h14.symm, h23.symm, h24.symm, h34.symm]
theorem gR4_3 (p : τ1 × τ2 × τ3 × τ4) (h1 : k1 ≠ k3 := by decide) (h2 : k2 ≠ k3 := by decide) : dget (eR4 o k1 k2 k3 k4 e1 e2 e3 e4 p) (.str k3) = some (some (e3 p.2.2.1)) := by simp [eR4, dget, keyD, lookK, h1, h2]
theorem pR4_3 (p : τ1 × τ2 × τ3 × τ4) (v : τ3) (h12 : k1 ≠ k2 := by decide) (h13 : k1 ≠ k3 := by decide) (h14 : k1 ≠ k4 := by decide) (h23 : k2 ≠ k3 := by decide) (h24 : k2 ≠ k4 := by decide) (h34 : k3 ≠ k4 := by decide) : putX (eR4 true k1 k2 k3 k4 e1 e2 e3 e4 p) (.str k3) (e3 v) = some (eR4 true k1 k2 k3 k4 e1 e2 e3 e4 (p.1, p.2.1, v, p.2.2.2)) := by simp [eR4, putX, keyD, putD, szl, h12, h13, h14, h23, h24, h34, h12.symm, h13.symm, h14.symm, h23.symm, h24.symm, h34.symm]
theorem lR4_3 {d1 d2 d3 d4 : D} (h1 : k1 ≠ k3 := by decide) (h2 : k2 ≠ k3 := by decide) : lookK [((.inr k1 : Key), d1), ((.inr k2 : Key), d2), ((.inr k3 : Key), d3), ((.inr k4 : Key), d4)] (.inr k3) = some d3 := by simp [lookK, h1, h2]
theorem uR4_3 {p : τ1 × τ2 × τ3 × τ4} {v : τ3} {d : D} (q : d = e3 v) (h12 : k1 ≠ k2 := by decide) (h13 : k1 ≠ k3 := by decide) (h14 : k1 ≠ k4 := by decide) (h23 : k2 ≠ k3 := by decide) (h24 : k2 ≠ k4 := by decide) (h34 : k3 ≠ k4 := by decide) : D.dct true (putD [((.inr k1 : Key), e1 p.1), ((.inr k2 : Key), e2 p.2.1), ((.inr k3 : Key), e3 p.2.2.1), ((.inr k4 : Key), e4 p.2.2.2)] (.inr k3) d) = eR4 true k1 k2 k3 k4 e1 e2 e3 e4 (p.1, p.2.1, v, p.2.2.2) := by subst q; simp [eR4, putD, h12, h13, h14, h23, h24, h34, h12.symm, h13.symm, h14.symm, h23.symm, h24.symm, h34.symm]
theorem gR4_4 (p : τ1 × τ2 × τ3 × τ4) (h1 : k1 ≠ k4 := by decide) (h2 : k2 ≠ k4 := by decide) (h3 : k3 ≠ k4 := by decide) : dget (eR4 o k1 k2 k3 k4 e1 e2 e3 e4 p) (.str k4) = some (some (e4 p.2.2.2)) := by simp [eR4, dget, keyD, lookK, h1, h2, h3]
theorem pR4_4 (p : τ1 × τ2 × τ3 × τ4) (v : τ4) (h12 : k1 ≠ k2 := by decide) (h13 : k1 ≠ k3 := by decide) (h14 : k1 ≠ k4 := by decide) (h23 : k2 ≠ k3 := by decide) (h24 : k2 ≠ k4 := by decide) (h34 : k3 ≠ k4 := by decide) : putX (eR4 true k1 k2 k3 k4 e1 e2 e3 e4 p) (.str k4) (e4 v) = some (eR4 true k1 k2 k3 k4 e1 e2 e3 e4 (p.1, p.2.1, p.2.2.1, v)) := by simp [eR4, putX, keyD, putD, szl, h12, h13, h14, h23, h24, h34, h12.symm, h13.symm, h14.symm, h23.symm, h24.symm, h34.symm]
theorem lR4_4 {d1 d2 d3 d4 : D} (h1 : k1 ≠ k4 := by decide) (h2 : k2 ≠ k4 := by decide) (h3 : k3 ≠ k4 := by decide) : lookK [((.inr k1 : Key), d1), ((.inr k2 : Key), d2), ((.inr k3 : Key), d3), ((.inr k4 : Key), d4)] (.inr k4) = some d4 := by simp [lookK, h1, h2, h3]
theorem uR4_4 {p : τ1 × τ2 × τ3 × τ4} {v : τ4} {d : D} (q : d = e4 v) (h12 : k1 ≠ k2 := by decide) (h13 : k1 ≠ k3 := by decide) (h14 : k1 ≠ k4 := by decide) (h23 : k2 ≠ k3 := by decide) (h24 : k2 ≠ k4 := by decide) (h34 : k3 ≠ k4 := by decide) : D.dct true (putD [((.inr k1 : Key), e1 p.1), ((.inr k2 : Key), e2 p.2.1), ((.inr k3 : Key), e3 p.2.2.1), ((.inr k4 : Key), e4 p.2.2.2)] (.inr k4) d) = eR4 true k1 k2 k3 k4 e1 e2 e3 e4 (p.1, p.2.1, p.2.2.1, v) := by subst q; simp [eR4, putD, h12, h13, h14, h23, h24, h34, h12.symm, h13.symm, h14.symm, h23.symm, h24.symm, h34.symm]
end
section
variable {τ1 τ2 τ3 τ4 τ5 : Type} {o : Bool} {k1 k2 k3 k4 k5 : Str} {e1 fe1 : τ1 → D} {e2 fe2 : τ2 → D} {e3 fe3 : τ3 → D} {e4 fe4 : τ4 → D} {e5 fe5 : τ5 → D}
def eR5 (o : Bool) (k1 k2 k3 k4 k5 : Str) (e1 : τ1 → D) (e2 : τ2 → D) (e3 : τ3 → D) (e4 : τ4 → D) (e5 : τ5 → D) (p : τ1 × τ2 × τ3 × τ4 × τ5) : D := .dct o [(.inr k1, e1 p.1), (.inr k2, e2 p.2.1), (.inr k3, e3 p.2.2.1), (.inr k4, e4 p.2.2.2.1), (.inr k5, e5 p.2.2.2.2)]
theorem fzR5 (h1 : Fz e1 fe1) (h2 : Fz e2 fe2) (h3 : Fz e3 fe3) (h4 : Fz e4 fe4) (h5 : Fz e5 fe5) : Fz (eR5 o k1 k2 k3 k4 k5 e1 e2 e3 e4 e5) (eR5 false k1 k2 k3 k4 k5 fe1 fe2 fe3 fe4 fe5) := fun p => by unfold eR5; rw [D.frz, frzK_map]; simp [h1 _, h2 _, h3 _, h4 _, h5 _]
theorem nvR5 (h1 : Nf e1) (h2 : Nf e2) (h3 : Nf e3) (h4 : Nf e4) (h5 : Nf e5) : Nf (eR5 true k1 k2 k3 k4 k5 e1 e2 e3 e4 e5) := fun p => by unfold eR5; rw [D.nf, nfK_all]; simp [nfL_all, h1 _, h2 _, h3 _, h4 _, h5 _]
theorem gR5_1 (p : τ1 × τ2 × τ3 × τ4 × τ5) : dget (eR5 o k1 k2 k3 k4 k5 e1 e2 e3 e4 e5 p) (.str k1) = some (some (e1 p.1)) := by simp [eR5, dget, keyD, lookK]
theorem pR5_1 (p : τ1 × τ2 × τ3 × τ4 × τ5) (v : τ1) (h12 : k1 ≠ k2 := by decide) (h13 : k1 ≠ k3 := by decide) (h14 : k1 ≠ k4 := by decide) (h15 : k1 ≠ k5 := by decide) (h23 : k2 ≠ k3 := by decide) (h24 : k2 ≠ k4 := by decide) (h25 : k2 ≠ k5 := by decide) (h34 : k3 ≠ k4 := by decide) (h35 : k3 ≠ k5 := by decide) (h45 : k4 ≠ k5 := by decide) : putX (eR5 true k1 k2 k3 k4 k5 e1 e2 e3 e4 e5 p) (.str k1) (e1 v) = some (eR5 true k1 k2 k3 k4 k5 e1 e2 e3 e4 e5 (v, p.2.1, p.2.2.1, p.2.2.2.1, p.2.2.2.2)) := by simp [eR5, putX, keyD, putD, szl, h12, h13, h14, h15, h23, h24, h25, h34, h35, h45, h12.symm, h13.symm, h14.symm, h15.symm, h23.symm, h24.symm, h25.symm, h34.symm, h35.symm, h45.symm]
theorem lR5_1 {d1 d2 d3 d4 d5 : D}  : lookK [((.inr k1 : Key), d1), ((.inr k2 : Key), d2), ((.inr k3 : Key), d3), ((.inr k4 : Key), d4), ((.inr k5 : Key), d5)] (.inr k1) = some d1 := by simp [lookK]
theorem uR5_1 {p : τ1 × τ2 × τ3 × τ4 × τ5} {v : τ1} {d : D} (q : d = e1 v) (h12 : k1 ≠ k2 := by decide) (h13 : k1 ≠ k3 := by decide) (h14 : k1 ≠ k4 := by decide) (h15 : k1 ≠ k5 := by decide) (h23 : k2 ≠ k3 := by decide) (h24 : k2 ≠ k4 := by decide) (h25 : k2 ≠ k5 := by decide) (h34 : k3 ≠ k4 := by decide) (h35 : k3 ≠ k5 := by decide) (h45 : k4 ≠ k5 := by decide) : D.dct true (putD [((.inr k1 : Key), e1 p.1), ((.inr k2 : Key), e2 p.2.1), ((.inr k3 : Key), e3 p.2.2.1), ((.inr k4 : Key), e4 p.2.2.2.1), ((.inr k5 : Key), e5 p.2.2.2.2)] (.inr k1) d) = eR5 true k1 k2 k3 k4 k5 e1 e2 e3 e4 e5 (v, p.2.1, p.2.2.1, p.2.2.2.1, p.2.2.2.2) := by subst q; simp [eR5, putD, h12, h13, h14, h15, h23, h24, h25, h34, h35, h45, h12.symm, h13.symm, h14.symm, h15.symm, h23.symm, h24.symm, h25.symm, h34.symm, h35.symm, h45.symm]
theorem gR5_2 (p : τ1 × τ2 × τ3 × τ4 × τ5) (h1 : k1 ≠ k2 := by decide) : dget (eR5 o k1 k2 k3 k4 k5 e1 e2 e3 e4 e5 p) (.str k2) = some (some (e2 p.2.1)) := by simp [eR5, dget, keyD, lookK, h1]
theorem pR5_2 (p : τ1 × τ2 × τ3 × τ4 × τ5) (v : τ2) (h12 : k1 ≠ k2 := by decide) (h13 : k1 ≠ k3 := by decide) (h14 : k1 ≠ k4 := by decide) (h15 : k1 ≠ k5 := by decide) (h23 : k2 ≠ k3 := by decide) (h24 : k2 ≠ k4 := by decide) (h25 : k2 ≠ k5 := by decide) (h34 : k3 ≠ k4 := by decide) (h35 : k3 ≠ k5 := by decide) (h45 : k4 ≠ k5 := by decide) : putX (eR5 true k1 k2 k3 k4 k5 e1 e2 e3 e4 e5 p) (.str k2) (e2 v) = some (eR5 true k1 k2 k3 k4 k5 e1 e2 e3 e4 e5 (p.1, v, p.2.2.1, p.2.2.2.1, p.2.2.2.2)) := by simp [eR5, putX, keyD, putD, szl, h12, h13, h14, h15, h23, h24, h25, h34, h35, h45, h12.symm, h13.symm, h14.symm, h15.symm, h23.symm, h24.symm, h25.symm, h34.symm, h35.symm, h45.symm]
theorem lR5_2 {d1 d2 d3 d4 d5 : D} (h1 : k1 ≠ k2 := by decide) : lookK [((.inr k1 : Key), d1), ((.inr k2 : Key), d2), ((.inr k3 : Key), d3), ((.inr k4 : Key), d4), ((.inr k5 : Key), d5)] (.inr k2) = some d2 := by simp [lookK, h1]
theorem uR5_2 {p : τ1 × τ2 × τ3 × τ4 × τ5} {v : τ2} {d : D} (q : d = e2 v) (h12 : k1 ≠ k2 := by decide) (h13 : k1 ≠ k3 := by decide) (h14 : k1 ≠ k4 := by decide) (h15 : k1 ≠ k5 := by decide) (h23 : k2 ≠ k3 := by decide) (h24 : k2 ≠ k4 := by decide) (h25 : k2 ≠ k5 := by decide) (h34 : k3 ≠ k4 := by decide) (h35 : k3 ≠ k5 := by decide) (h45 : k4 ≠ k5 := by decide) : D.dct true (putD [((.inr k1 : Key), e1 p.1), ((.inr k2 : Key), e2 p.2.1), ((.inr k3 : Key), e3 p.2.2.1), ((.inr k4 : Key), e4 p.2.2.2.1), ((.inr k5 : Key), e5 p.2.2.2.2)] (.inr k2) d) = eR5 true k1 k2 k3 k4 k5 e1 e2 e3 e4 e5 (p.1, v, p.2.2.1, p.2.2.2.1, p.2.2.2.2) := by subst q; simp [eR5, putD, h12, h13, h14, h15, h23, h24, h25, h34, h35, h45, h12.symm, h13.symm, h14.symm, h15.symm, h23.symm, h24.symm, h25.symm, h34.symm, h35.symm, h45.symm]
theorem gR5_3 (p : τ1 × τ2 × τ3 × τ4 × τ5) (h1 : k1 ≠ k3 := by decide) (h2 : k2 ≠ k3 := by decide) : dget (eR5 o k1 k2 k3 k4 k5 e1 e2 e3 e4 e5 p) (.str k3) = some (some (e3 p.2.2.1)) := by simp [eR5, dget, keyD, lookK, h1, h2]
theorem pR5_3 (p : τ1 × τ2 × τ3 × τ4 × τ5) (v : τ3) (h12 : k1 ≠ k2 := by decide) (h13 : k1 ≠ k3 := by decide) (h14 : k1 ≠ k4 := by decide) (h15 : k1 ≠ k5 := by decide) (h23 : k2 ≠ k3 := by decide) (h24 : k2 ≠ k4 := by decide) (h25 : k2 ≠ k5 := by decide) (h34 : k3 ≠ k4 := by decide) (h35 : k3 ≠ k5 := by decide) (h45 : k4 ≠ k5 := by decide) : putX (eR5 true k1 k2 k3 k4 k5 e1 e2 e3 e4 e5 p) (.str k3) (e3 v) = some (eR5 true k1 k2 k3 k4 k5 e1 e2 e3 e4 e5 (p.1, p.2.1, v, p.2.2.2.1, p.2.2.2.2)) := by simp [eR5, putX, keyD, putD, szl, h12, h13, h14, h15, h23, h24, h25, h34, h35, h45, h12.symm, h13.symm, h14.symm, h15.symm, h23.symm, h24.symm, h25.symm, h34.symm, h35.symm, h45.symm]
theorem lR5_3 {d1 d2 d3 d4 d5 : D} (h1 : k1 ≠ k3 := by decide) (h2 : k2 ≠ k3 := by decide) : lookK [((.inr k1 : Key), d1), ((.inr k2 : Key), d2), ((.inr k3 : Key), d3), ((.inr k4 : Key), d4), ((.inr k5 : Key), d5)] (.inr k3) = some d3 := by simp [lookK, h1, h2]
theorem uR5_3 {p : τ1 × τ2 × τ3 × τ4 × τ5} {v : τ3} {d : D} (q : d = e3 v) (h12 : k1 ≠ k2 := by decide) (h13 : k1 ≠ k3 := by decide) (h14 : k1 ≠ k4 := by decide) (h15 : k1 ≠ k5 := by decide) (h23 : k2 ≠ k3 := by decide) (h24 : k2 ≠ k4 := by decide) (h25 : k2 ≠ k5 := by decide) (h34 : k3 ≠ k4 := by decide) (h35 : k3 ≠ k5 := by decide) (h45 : k4 ≠ k5 := by decide) : D.dct true (putD [((.inr k1 : Key), e1 p.1), ((.inr k2 : Key), e2 p.2.1), ((.inr k3 : Key), e3 p.2.2.1), ((.inr k4 : Key), e4 p.2.2.2.1), ((.inr k5 : Key), e5 p.2.2.2.2)] (.inr k3) d) = eR5 true k1 k2 k3 k4 k5 e1 e2 e3 e4 e5 (p.1, p.2.1, v, p.2.2.2.1, p.2.2.2.2) := by subst q; simp [eR5, putD, h12, h13, h14, h15, h23, h24, h25, h34, h35, h45, h12.symm, h13.symm, h14.symm, h15.symm, h23.symm, h24.symm, h25.symm, h34.symm, h35.symm, h45.symm]
theorem gR5_4 (p : τ1 × τ2 × τ3 × τ4 × τ5) (h1 : k1 ≠ k4 := by decide) (h2 : k2 ≠ k4 := by decide) (h3 : k3 ≠ k4 := by decide) : dget (eR5 o k1 k2 k3 k4 k5 e1 e2 e3 e4 e5 p) (.str k4) = some (some (e4 p.2.2.2.1)) := by simp [eR5, dget, keyD, lookK, h1, h2, h3]
theorem pR5_4 (p : τ1 × τ2 × τ3 × τ4 × τ5) (v : τ4) (h12 : k1 ≠ k2 := by decide) (h13 : k1 ≠ k3 := by decide) (h14 : k1 ≠ k4 := by decide) (h15 : k1 ≠ k5 := by decide) (h23 : k2 ≠ k3 := by decide) (h24 : k2 ≠ k4 := by decide) (h25 : k2 ≠ k5 := by decide) (h34 : k3 ≠ k4 := by decide) (h35 : k3 ≠ k5 := by decide) (h45 : k4 ≠ k5 := by decide) : putX (eR5 true k1 k2 k3 k4 k5 e1 e2 e3 e4 e5 p) (.str k4) (e4 v) = some (eR5 true k1 k2 k3 k4 k5 e1 e2 e3 e4 e5 (p.1, p.2.1, p.2.2.1, v, p.2.2.2.2)) := by simp [eR5, putX, keyD, putD, szl, h12, h13, h14, h15, h23, h24, h25, h34, h35, h45, h12.symm, h13.symm, h14.symm, h15.symm, h23.symm, h24.symm, h25.symm, h34.symm, h35.symm, h45.symm]
theorem lR5_4 {d1 d2 d3 d4 d5 : D} (h1 : k1 ≠ k4 := by decide) (h2 : k2 ≠ k4 := by decide) (h3 : k3 ≠ k4 := by decide) : lookK [((.inr k1 : Key), d1), ((.inr k2 : Key), d2), ((.inr k3 : Key), d3), ((.inr k4 : Key), d4), ((.inr k5 : Key), d5)] (.inr k4) = some d4 := by simp [lookK, h1, h2, h3]
theorem uR5_4 {p : τ1 × τ2 × τ3 × τ4 × τ5} {v : τ4} {d : D} (q : d = e4 v) (h12 : k1 ≠ k2 := by decide) (h13 : k1 ≠ k3 := by decide) (h14 : k1 ≠ k4 := by decide) (h15 : k1 ≠ k5 := by decide) (h23 : k2 ≠ k3 := by decide) (h24 : k2 ≠ k4 := by decide) (h25 : k2 ≠ k5 := by decide) (h34 : k3 ≠ k4 := by decide) (h35 : k3 ≠ k5 := by decide) (h45 : k4 ≠ k5 := by decide) : D.dct true (putD [((.inr k1 : Key), e1 p.1), ((.inr k2 : Key), e2 p.2.1), ((.inr k3 : Key), e3 p.2.2.1), ((.inr k4 : Key), e4 p.2.2.2.1), ((.inr k5 : Key), e5 p.2.2.2.2)] (.inr k4) d) = eR5 true k1 k2 k3 k4 k5 e1 e2 e3 e4 e5 (p.1, p.2.1, p.2.2.1, v, p.2.2.2.2) := by subst q; simp [eR5, putD, h12, h13, h14, h15, h23, h24, h25, h34, h35, h45, h12.symm, h13.symm, h14.symm, h15.symm, h23.symm, h24.symm, h25.symm, h34.symm, h35.symm, h45.symm]
theorem gR5_5 (p : τ1 × τ2 × τ3 × τ4 × τ5) (h1 : k1 ≠ k5 := by decide) (h2 : k2 ≠ k5 := by decide) (h3 : k3 ≠ k5 := by decide) (h4 : k4 ≠ k5 := by decide) : dget (eR5 o k1 k2 k3 k4 k5 e1 e2 e3 e4 e5 p) (.str k5) = some (some (e5 p.2.2.2.2)) := by simp [eR5, dget, keyD, lookK, h1, h2, h3, h4]
theorem pR5_5 (p : τ1 × τ2 × τ3 × τ4 × τ5) (v : τ5) (h12 : k1 ≠ k2 := by decide) (h13 : k1 ≠ k3 := by decide) (h14 : k1 ≠ k4 := by decide) (h15 : k1 ≠ k5 := by decide) (h23 : k2 ≠ k3 := by decide) (h24 : k2 ≠ k4 := by decide) (h25 : k2 ≠ k5 := by decide) (h34 : k3 ≠ k4 := by decide) (h35 : k3 ≠ k5 := by decide) (h45 : k4 ≠ k5 := by decide) : putX (eR5 true k1 k2 k3 k4 k5 e1 e2 e3 e4 e5 p) (.str k5) (e5 v) = some (eR5 true k1 k2 k3 k4 k5 e1 e2 e3 e4 e5 (p.1, p.2.1, p.2.2.1, p.2.2.2.1, v)) := by simp [eR5, putX, keyD, putD, szl, h12, h13, h14, h15, h23, h24, h25, h34, h35, h45, h12.symm, h13.symm, h14.symm, h15.symm, h23.symm, h24.symm, h25.symm, h34.symm, h35.symm, h45.symm]
theorem lR5_5 {d1 d2 d3 d4 d5 : D} (h1 : k1 ≠ k5 := by decide) (h2 : k2 ≠ k5 := by decide) (h3 : k3 ≠ k5 := by decide) (h4 : k4 ≠ k5 := by decide) : lookK [((.inr k1 : Key), d1), ((.inr k2 : Key), d2), ((.inr k3 : Key), d3), ((.inr k4 : Key), d4), ((.inr k5 : Key), d5)] (.inr k5) = some d5 := by simp [lookK, h1, h2, h3, h4]
theorem uR5_5 {p : τ1 × τ2 × τ3 × τ4 × τ5} {v : τ5} {d : D} (q : d = e5 v) (h12 : k1 ≠ k2 := by decide) (h13 : k1 ≠ k3 := by decide) (h14 : k1 ≠ k4 := by decide) (h15 : k1 ≠ k5 := by decide) (h23 : k2 ≠ k3 := by decide) (h24 : k2 ≠ k4 := by decide) (h25 : k2 ≠ k5 := by decide) (h34 : k3 ≠ k4 := by decide) (h35 : k3 ≠ k5 := by decide) (h45 : k4 ≠ k5 := by decide) : D.dct true (putD [((.inr k1 : Key), e1 p.1), ((.inr k2 : Key), e2 p.2.1), ((.inr k3 : Key), e3 p.2.2.1), ((.inr k4 : Key), e4 p.2.2.2.1), ((.inr k5 : Key), e5 p.2.2.2.2)] (.inr k5) d) = eR5 true k1 k2 k3 k4 k5 e1 e2 e3 e4 e5 (p.1, p.2.1, p.2.2.1, p.2.2.2.1, v) := by subst q; simp [eR5, putD, h12, h13, h14, h15, h23, h24, h25, h34, h35, h45, h12.symm, h13.symm, h14.symm, h15.symm, h23.symm, h24.symm, h25.symm, h34.symm, h35.symm, h45.symm]
end
section
variable {τ1 τ2 τ3 τ4 τ5 τ6 : Type} {o : Bool} {k1 k2 k3 k4 k5 k6 : Str} {e1 fe1 : τ1 → D} {e2 fe2 : τ2 → D} {e3 fe3 : τ3 → D} {e4 fe4 : τ4 → D} {e5 fe5 : τ5 → D} {e6 fe6 : τ6 → D}
def eR6 (o : Bool) (k1 k2 k3 k4 k5 k6 : Str) (e1 : τ1 → D) (e2 : τ2 → D) (e3 : τ3 → D) (e4 : τ4 → D) (e5 : τ5 → D) (e6 : τ6 → D) (p : τ1 × τ2 × τ3 × τ4 × τ5 × τ6) : D := .dct o [(.inr k1, e1 p.1), (.inr k2, e2 p.2.1), (.inr k3, e3 p.2.2.1), (.inr k4, e4 p.2.2.2.1), (.inr k5, e5 p.2.2.2.2.1), (.inr k6, e6 p.2.2.2.2.2)]
theorem fzR6 (h1 : Fz e1 fe1) (h2 : Fz e2 fe2) (h3 : Fz e3 fe3) (h4 : Fz e4 fe4) (h5 : Fz e5 fe5) (h6 : Fz e6 fe6) : Fz (eR6 o k1 k2 k3 k4 k5 k6 e1 e2 e3 e4 e5 e6) (eR6 false k1 k2 k3 k4 k5 k6 fe1 fe2 fe3 fe4 fe5 fe6) := fun p => by unfold eR6; rw [D.frz, frzK_map]; simp [h1 _, h2 _, h3 _, h4 _, h5 _, h6 _]
theorem nvR6 (h1 : Nf e1) (h2 : Nf e2) (h3 : Nf e3) (h4 : Nf e4) (h5 : Nf e5) (h6 : Nf e6) : Nf (eR6 true k1 k2 k3 k4 k5 k6 e1 e2 e3 e4 e5 e6) := fun p => by unfold eR6; rw [D.nf, nfK_all]; simp [nfL_all, h1 _, h2 _, h3 _, h4 _, h5 _, h6 _]
theorem gR6_1 (p : τ1 × τ2 × τ3 × τ4 × τ5 × τ6) : dget (eR6 o k1 k2 k3 k4 k5 k6 e1 e2 e3 e4 e5 e6 p) (.str k1) = some (some (e1 p.1)) := by simp [eR6, dget, keyD, lookK]
theorem pR6_1 (p : τ1 × τ2 × τ3 × τ4 × τ5 × τ6) (v : τ1) (h12 : k1 ≠ k2 := by decide) (h13 : k1 ≠ k3 := by decide) (h14 : k1 ≠ k4 := by decide) (h15 : k1 ≠ k5 := by decide) (h16 : k1 ≠ k6 := by decide) (h23 : k2 ≠ k3 := by decide) (h24 : k2 ≠ k4 := by decide) (h25 : k2 ≠ k5 := by decide) (h26 : k2 ≠ k6 := by decide) (h34 : k3 ≠ k4 := by decide) (h35 : k3 ≠ k5 := by decide) (h36 : k3 ≠ k6 := by decide) (h45 : k4 ≠ k5 := by decide) (h46 : k4 ≠ k6 := by decide) (h56 : k5 ≠ k6 := by decide) : putX (eR6 true k1 k2 k3 k4 k5 k6 e1 e2 e3 e4 e5 e6 p) (.str k1) (e1 v) = some (eR6 true k1 k2 k3 k4 k5 k6 e1 e2 e3 e4 e5 e6 (v, p.2.1, p.2.2.1, p.2.2.2.1, p.2.2.2.2.1, p.2.2.2.2.2)) := by simp [eR6, putX, keyD, putD, szl, h12, h13, h14, h15, h16, h23, h24, h25, h26, h34, h35, h36, h45, h46, h56, h12.symm, h13.symm, h14.symm, h15.symm, h16.symm, h23.symm, h24.symm, h25.symm, h26.symm, h34.symm, h35.symm, h36.symm, h45.symm, h46.symm, h56.symm]
theorem lR6_1 {d1 d2 d3 d4 d5 d6 : D}  : lookK [((.inr k1 : Key), d1), ((.inr k2 : Key), d2), ((.inr k3 : Key), d3), ((.inr k4 : Key), d4), ((.inr k5 : Key), d5), ((.inr k6 : Key), d6)] (.inr k1) = some d1 := by simp [lookK]
theorem uR6_1 {p : τ1 × τ2 × τ3 × τ4 × τ5 × τ6} {v : τ1} {d : D} (q : d = e1 v) (h12 : k1 ≠ k2 := by decide) (h13 : k1 ≠ k3 := by decide) (h14 : k1 ≠ k4 := by decide) (h15 : k1 ≠ k5 := by decide) (h16 : k1 ≠ k6 := by decide) (h23 : k2 ≠ k3 := by decide) (h24 : k2 ≠ k4 := by decide) (h25 : k2 ≠ k5 := by decide) (h26 : k2 ≠ k6 := by decide) (h34 : k3 ≠ k4 := by decide) (h35 : k3 ≠ k5 := by decide) (h36 : k3 ≠ k6 := by decide) (h45 : k4 ≠ k5 := by decide) (h46 : k4 ≠ k6 := by decide) (h56 : k5 ≠ k6 := by decide) : D.dct true (putD [((.inr k1 : Key), e1 p.1), ((.inr k2 : Key), e2 p.2.1), ((.inr k3 : Key), e3 p.2.2.1), ((.inr k4 : Key), e4 p.2.2.2.1), ((.inr k5 : Key), e5 p.2.2.2.2.1), ((.inr k6 : Key), e6 p.2.2.2.2.2)] (.inr k1) d) = eR6 true k1 k2 k3 k4 k5 k6 e1 e2 e3 e4 e5 e6 (v, p.2.1, p.2.2.1, p.2.2.2.1, p.2.2.2.2.1, p.2.2.2.2.2) := by subst q; simp [eR6, putD, h12, h13, h14, h15, h16, h23, h24, h25, h26, h34, h35, h36, h45, h46, h56, h12.symm, h13.symm, h14.symm, h15.symm, h16.symm, h23.symm, h24.symm, h25.symm, h26.symm, h34.symm, h35.symm, h36.symm, h45.symm, h46.symm, h56.symm]
theorem gR6_2 (p : τ1 × τ2 × τ3 × τ4 × τ5 × τ6) (h1 : k1 ≠ k2 := by decide) : dget (eR6 o k1 k2 k3 k4 k5 k6 e1 e2 e3 e4 e5 e6 p) (.str k2) = some (some (e2 p.2.1)) := by simp [eR6, dget, keyD, lookK, h1]
theorem pR6_2 (p : τ1 × τ2 × τ3 × τ4 × τ5 × τ6) (v : τ2) (h12 : k1 ≠ k2 := by decide) (h13 : k1 ≠ k3 := by decide) (h14 : k1 ≠ k4 := by decide) (h15 : k1 ≠ k5 := by decide) (h16 : k1 ≠ k6 := by decide) (h23 : k2 ≠ k3 := by decide) (h24 : k2 ≠ k4 := by decide) (h25 : k2 ≠ k5 := by decide) (h26 : k2 ≠ k6 := by decide) (h34 : k3 ≠ k4 := by decide) (h35 : k3 ≠ k5 := by decide) (h36 : k3 ≠ k6 := by decide) (h45 : k4 ≠ k5 := by decide) (h46 : k4 ≠ k6 := by decide) (h56 : k5 ≠ k6 := by decide) : putX (eR6 true k1 k2 k3 k4 k5 k6 e1 e2 e3 e4 e5 e6 p) (.str k2) (e2 v) = some (eR6 true k1 k2 k3 k4 k5 k6 e1 e2 e3 e4 e5 e6 (p.1, v, p.2.2.1, p.2.2.2.1, p.2.2.2.2.1, p.2.2.2.2.2)) := by simp [eR6, putX, keyD, putD, szl, h12, h13, h14, h15, h16, h23, h24, h25, h26, h34, h35, h36, h45, h46, h56, h12.symm, h13.symm, h14.symm, h15.symm, h16.symm, h23.symm, h24.symm, h25.symm, h26.symm, h34.symm, h35.symm, h36.symm, h45.symm, h46.symm, h56.symm]
theorem lR6_2 {d1 d2 d3 d4 d5 d6 : D} (h1 : k1 ≠ k2 := by decide) : lookK [((.inr k1 : Key), d1), ((.inr k2 : Key), d2), ((.inr k3 : Key), d3), ((.inr k4 : Key), d4), ((.inr k5 : Key), d5), ((.inr k6 : Key), d6)] (.inr k2) = some d2 := by simp [lookK, h1]
theorem uR6_2 {p : τ1 × τ2 × τ3 × τ4 × τ5 × τ6} {v : τ2} {d : D} (q : d = e2 v) (h12 : k1 ≠ k2 := by decide) (h13 : k1 ≠ k3 := by decide) (h14 : k1 ≠ k4 := by decide) (h15 : k1 ≠ k5 := by decide) (h16 : k1 ≠ k6 := by decide) (h23 : k2 ≠ k3 := by decide) (h24 : k2 ≠ k4 := by decide) (h25 : k2 ≠ k5 := by decide) (h26 : k2 ≠ k6 := by decide) (h34 : k3 ≠ k4 := by decide) (h35 : k3 ≠ k5 := by decide) (h36 : k3 ≠ k6 := by decide) (h45 : k4 ≠ k5 := by decide) (h46 : k4 ≠ k6 := by decide) (h56 : k5 ≠ k6 := by decide) : D.dct true (putD [((.inr k1 : Key), e1 p.1), ((.inr k2 : Key), e2 p.2.1), ((.inr k3 : Key), e3 p.2.2.1), ((.inr k4 : Key), e4 p.2.2.2.1), ((.inr k5 : Key), e5 p.2.2.2.2.1), ((.inr k6 : Key), e6 p.2.2.2.2.2)] (.inr k2) d) = eR6 true k1 k2 k3 k4 k5 k6 e1 e2 e3 e4 e5 e6 (p.1, v, p.2.2.1, p.2.2.2.1, p.2.2.2.2.1, p.2.2.2.2.2) := by subst q; simp [eR6, putD, h12, h13, h14, h15, h16, h23, h24, h25, h26, h34, h35, h36, h45, h46, h56, h12.symm, h13.symm, h14.symm, h15.symm, h16.symm, h23.symm, h24.symm, h25.symm, h26.symm, h34.symm, h35.symm, h36.symm, h45.symm, h46.symm, h56.symm]
theorem gR6_3 (p : τ1 × τ2 × τ3 × τ4 × τ5 × τ6) (h1 : k1 ≠ k3 := by decide) (h2 : k2 ≠ k3 := by decide) : dget (eR6 o k1 k2 k3 k4 k5 k6 e1 e2 e3 e4 e5 e6 p) (.str k3) = some (some (e3 p.2.2.1)) := by simp [eR6, dget, keyD, lookK, h1, h2]
theorem pR6_3 (p : τ1 × τ2 × τ3 × τ4 × τ5 × τ6) (v : τ3) (h12 : k1 ≠ k2 := by decide) (h13 : k1 ≠ k3 := by decide) (h14 : k1 ≠ k4 := by decide) (h15 : k1 ≠ k5 := by decide) (h16 : k1 ≠ k6 := by decide) (h23 : k2 ≠ k3 := by decide) (h24 : k2 ≠ k4 := by decide) (h25 : k2 ≠ k5 := by decide) (h26 : k2 ≠ k6 := by decide) (h34 : k3 ≠ k4 := by decide) (h35 : k3 ≠ k5 := by decide) (h36 : k3 ≠ k6 := by decide) (h45 : k4 ≠ k5 := by decide) (h46 : k4 ≠ k6 := by decide) (h56 : k5 ≠ k6 := by decide) : putX (eR6 true k1 k2 k3 k4 k5 k6 e1 e2 e3 e4 e5 e6 p) (.str k3) (e3 v) = some (eR6 true k1 k2 k3 k4 k5 k6 e1 e2 e3 e4 e5 e6 (p.1, p.2.1, v, p.2.2.2.1, p.2.2.2.2.1, p.2.2.2.2.2)) := by simp [eR6, putX, keyD, putD, szl, h12, h13, h14, h15, h16, h23, h24, h25, h26, h34, h35, h36, h45, h46, h56, h12.symm, h13.symm, h14.symm, h15.symm, h16.symm, h23.symm, h24.symm, h25.symm, h26.symm, h34.symm, h35.symm, h36.symm, h45.symm, h46.symm, h56.symm]
theorem lR6_3 {d1 d2 d3 d4 d5 d6 : D} (h1 : k1 ≠ k3 := by decide) (h2 : k2 ≠ k3 := by decide) : lookK [((.inr k1 : Key), d1), ((.inr k2 : Key), d2), ((.inr k3 : Key), d3), ((.inr k4 : Key), d4), ((.inr k5 : Key), d5), ((.inr k6 : Key), d6)] (.inr k3) = some d3 := by simp [lookK, h1, h2]
theorem uR6_3 {p : τ1 × τ2 × τ3 × τ4 × τ5 × τ6} {v : τ3} {d : D} (q : d = e3 v) (h12 : k1 ≠ k2 := by decide) (h13 : k1 ≠ k3 := by decide) (h14 : k1 ≠ k4 := by decide) (h15 : k1 ≠ k5 := by decide) (h16 : k1 ≠ k6 := by decide) (h23 : k2 ≠ k3 := by decide) (h24 : k2 ≠ k4 := by decide) (h25 : k2 ≠ k5 := by decide) (h26 : k2 ≠ k6 := by decide) (h34 : k3 ≠ k4 := by decide) (h35 : k3 ≠ k5 := by decide) (h36 : k3 ≠ k6 := by decide) (h45 : k4 ≠ k5 := by decide) (h46 : k4 ≠ k6 := by decide) (h56 : k5 ≠ k6 := by decide) : D.dct true (putD [((.inr k1 : Key), e1 p.1), ((.inr k2 : Key), e2 p.2.1), ((.inr k3 : Key), e3 p.2.2.1), ((.inr k4 : Key), e4 p.2.2.2.1), ((.inr k5 : Key), e5 p.2.2.2.2.1), ((.inr k6 : Key), e6 p.2.2.2.2.2)] (.inr k3) d) = eR6 true k1 k2 k3 k4 k5 k6 e1 e2 e3 e4 e5 e6 (p.1, p.2.1, v, p.2.2.2.1, p.2.2.2.2.1, p.2.2.2.2.2) := by subst q; simp [eR6, putD, h12, h13, h14, h15, h16, h23, h24, h25, h26, h34, h35, h36, h45, h46, h56, h12.symm, h13.symm, h14.symm, h15.symm, h16.symm, h23.symm, h24.symm, h25.symm, h26.symm, h34.symm, h35.symm, h36.symm, h45.symm, h46.symm, h56.symm]
theorem gR6_4 (p : τ1 × τ2 × τ3 × τ4 × τ5 × τ6) (h1 : k1 ≠ k4 := by decide) (h2 : k2 ≠ k4 := by decide) (h3 : k3 ≠ k4 := by decide) : dget (eR6 o k1 k2 k3 k4 k5 k6 e1 e2 e3 e4 e5 e6 p) (.str k4) = some (some (e4 p.2.2.2.1)) := by simp [eR6, dget, keyD, lookK, h1, h2, h3]
theorem pR6_4 (p : τ1 × τ2 × τ3 × τ4 × τ5 × τ6) (v : τ4) (h12 : k1 ≠ k2 := by decide) (h13 : k1 ≠ k3 := by decide) (h14 : k1 ≠ k4 := by decide) (h15 : k1 ≠ k5 := by decide) (h16 : k1 ≠ k6 := by decide) (h23 : k2 ≠ k3 := by decide) (h24 : k2 ≠ k4 := by decide) (h25 : k2 ≠ k5 := by decide) (h26 : k2 ≠ k6 := by decide) (h34 : k3 ≠ k4 := by decide) (h35 : k3 ≠ k5 := by decide) (h36 : k3 ≠ k6 := by decide) (h45 : k4 ≠ k5 := by decide) (h46 : k4 ≠ k6 := by decide) (h56 : k5 ≠ k6 := by decide) : putX (eR6 true k1 k2 k3 k4 k5 k6 e1 e2 e3 e4 e5 e6 p) (.str k4) (e4 v) = some (eR6 true k1 k2 k3 k4 k5 k6 e1 e2 e3 e4 e5 e6 (p.1, p.2.1, p.2.2.1, v, p.2.2.2.2.1, p.2.2.2.2.2)) := by simp [eR6, putX, keyD, putD, szl, h12, h13, h14, h15, h16, h23, h24, h25, h26, h34, h35, h36, h45, h46, h56, h12.symm, h13.symm, h14.symm, h15.symm, h16.symm, h23.symm, h24.symm, h25.symm, h26.symm, h34.symm, h35.symm, h36.symm, h45.symm, h46.symm, h56.symm]
theorem lR6_4 {d1 d2 d3 d4 d5 d6 : D} (h1 : k1 ≠ k4 := by decide) (h2 : k2 ≠ k4 := by decide) (h3 : k3 ≠ k4 := by decide) : lookK [((.inr k1 : Key), d1), ((.inr k2 : Key), d2), ((.inr k3 : Key), d3), ((.inr k4 : Key), d4), ((.inr k5 : Key), d5), ((.inr k6 : Key), d6)] (.inr k4) = some d4 := by simp [lookK, h1, h2, h3]
theorem uR6_4 {p : τ1 × τ2 × τ3 × τ4 × τ5 × τ6} {v : τ4} {d : D} (q : d = e4 v) (h12 : k1 ≠ k2 := by decide) (h13 : k1 ≠ k3 := by decide) (h14 : k1 ≠ k4 := by decide) (h15 : k1 ≠ k5 := by decide) (h16 : k1 ≠ k6 := by decide) (h23 : k2 ≠ k3 := by decide) (h24 : k2 ≠ k4 := by decide) (h25 : k2 ≠ k5 := by decide) (h26 : k2 ≠ k6 := by decide) (h34 : k3 ≠ k4 := by decide) (h35 : k3 ≠ k5 := by decide) (h36 : k3 ≠ k6 := by decide) (h45 : k4 ≠ k5 := by decide) (h46 : k4 ≠ k6 := by decide) (h56 : k5 ≠ k6 := by decide) : D.dct true (putD [((.inr k1 : Key), e1 p.1), ((.inr k2 : Key), e2 p.2.1), ((.inr k3 : Key), e3 p.2.2.1), ((.inr k4 : Key), e4 p.2.2.2.1), ((.inr k5 : Key), e5 p.2.2.2.2.1), ((.inr k6 : Key), e6 p.2.2.2.2.2)] (.inr k4) d) = eR6 true k1 k2 k3 k4 k5 k6 e1 e2 e3 e4 e5 e6 (p.1, p.2.1, p.2.2.1, v, p.2.2.2.2.1, p.2.2.2.2.2) := by subst q; simp [eR6, putD, h12, h13, h14, h15, h16, h23, h24, h25, h26, h34, h35, h36, h45, h46, h56, h12.symm, h13.symm, h14.symm, h15.symm, h16.symm, h23.symm, h24.symm, h25.symm, h26.symm, h34.symm, h35.symm, h36.symm, h45.symm, h46.symm, h56.symm]
theorem gR6_5 (p : τ1 × τ2 × τ3 × τ4 × τ5 × τ6) (h1 : k1 ≠ k5 := by decide) (h2 : k2 ≠ k5 := by decide) (h3 : k3 ≠ k5 := by decide) (h4 : k4 ≠ k5 := by decide) : dget (eR6 o k1 k2 k3 k4 k5 k6 e1 e2 e3 e4 e5 e6 p) (.str k5) = some (some (e5 p.2.2.2.2.1)) := by simp [eR6, dget, keyD, lookK, h1, h2, h3, h4]
theorem pR6_5 (p : τ1 × τ2 × τ3 × τ4 × τ5 × τ6) (v : τ5) (h12 : k1 ≠ k2 := by decide) (h13 : k1 ≠ k3 := by decide) (h14 : k1 ≠ k4 := by decide) (h15 : k1 ≠ k5 := by decide) (h16 : k1 ≠ k6 := by decide) (h23 : k2 ≠ k3 := by decide) (h24 : k2 ≠ k4 := by decide) (h25 : k2 ≠ k5 := by decide) (h26 : k2 ≠ k6 := by decide) (h34 : k3 ≠ k4 := by decide) (h35 : k3 ≠ k5 := by decide) (h36 : k3 ≠ k6 := by decide) (h45 : k4 ≠ k5 := by decide) (h46 : k4 ≠ k6 := by decide) (h56 : k5 ≠ k6 := by decide) : putX (eR6 true k1 k2 k3 k4 k5 k6 e1 e2 e3 e4 e5 e6 p) (.str k5) (e5 v) = some (eR6 true k1 k2 k3 k4 k5 k6 e1 e2 e3 e4 e5 e6 (p.1, p.2.1, p.2.2.1, p.2.2.2.1, v, p.2.2.2.2.2)) := by simp [eR6, putX, keyD, putD, szl, h12, h13, h14, h15, h16, h23, h24, h25, h26, h34, h35, h36, h45, h46, h56, h12.symm, h13.symm, h14.symm, h15.symm, h16.symm, h23.symm, h24.symm, h25.symm, h26.symm, h34.symm, h35.symm, h36.symm, h45.symm, h46.symm, h56.symm]
theorem lR6_5 {d1 d2 d3 d4 d5 d6 : D} (h1 : k1 ≠ k5 := by decide) (h2 : k2 ≠ k5 := by decide) (h3 : k3 ≠ k5 := by decide) (h4 : k4 ≠ k5 := by decide) : lookK [((.inr k1 : Key), d1), ((.inr k2 : Key), d2), ((.inr k3 : Key), d3), ((.inr k4 : Key), d4), ((.inr k5 : Key), d5), ((.inr k6 : Key), d6)] (.inr k5) = some d5 := by simp [lookK, h1, h2, h3, h4]
theorem uR6_5 {p : τ1 × τ2 × τ3 × τ4 × τ5 × τ6} {v : τ5} {d : D} (q : d = e5 v) (h12 : k1 ≠ k2 := by decide) (h13 : k1 ≠ k3 := by decide) (h14 : k1 ≠ k4 := by decide) (h15 : k1 ≠ k5 := by decide) (h16 : k1 ≠ k6 := by decide) (h23 : k2 ≠ k3 := by decide) (h24 : k2 ≠ k4 := by decide) (h25 : k2 ≠ k5 := by decide) (h26 : k2 ≠ k6 := by decide) (h34 : k3 ≠ k4 := by decide) (h35 : k3 ≠ k5 := by decide) (h36 : k3 ≠ k6 := by decide) (h45 : k4 ≠ k5 := by decide) (h46 : k4 ≠ k6 := by decide) (h56 : k5 ≠ k6 := by decide) : D.dct true (putD [((.inr k1 : Key), e1 p.1), ((.inr k2 : Key), e2 p.2.1), ((.inr k3 : Key), e3 p.2.2.1), ((.inr k4 : Key), e4 p.2.2.2.1), ((.inr k5 : Key), e5 p.2.2.2.2.1), ((.inr k6 : Key), e6 p.2.2.2.2.2)] (.inr k5) d) = eR6 true k1 k2 k3 k4 k5 k6 e1 e2 e3 e4 e5 e6 (p.1, p.2.1, p.2.2.1, p.2.2.2.1, v, p.2.2.2.2.2) := by subst q; simp [eR6, putD, h12, h13, h14, h15, h16, h23, h24, h25, h26, h34, h35, h36, h45, h46, h56, h12.symm, h13.symm, h14.symm, h15.symm, h16.symm, h23.symm, h24.symm, h25.symm, h26.symm, h34.symm, h35.symm, h36.symm, h45.symm, h46.symm, h56.symm]
theorem gR6_6 (p : τ1 × τ2 × τ3 × τ4 × τ5 × τ6) (h1 : k1 ≠ k6 := by decide) (h2 : k2 ≠ k6 := by decide) (h3 : k3 ≠ k6 := by decide) (h4 : k4 ≠ k6 := by decide) (h5 : k5 ≠ k6 := by decide) : dget (eR6 o k1 k2 k3 k4 k5 k6 e1 e2 e3 e4 e5 e6 p) (.str k6) = some (some (e6 p.2.2.2.2.2)) := by simp [eR6, dget, keyD, lookK, h1, h2, h3, h4, h5]
theorem pR6_6 (p : τ1 × τ2 × τ3 × τ4 × τ5 × τ6) (v : τ6) (h12 : k1 ≠ k2 := by decide) (h13 : k1 ≠ k3 := by decide) (h14 : k1 ≠ k4 := by decide) (h15 : k1 ≠ k5 := by decide) (h16 : k1 ≠ k6 := by decide) (h23 : k2 ≠ k3 := by decide) (h24 : k2 ≠ k4 := by decide) (h25 : k2 ≠ k5 := by decide) (h26 : k2 ≠ k6 := by decide) (h34 : k3 ≠ k4 := by decide) (h35 : k3 ≠ k5 := by decide) (h36 : k3 ≠ k6 := by decide) (h45 : k4 ≠ k5 := by decide) (h46 : k4 ≠ k6 := by decide) (h56 : k5 ≠ k6 := by decide) : putX (eR6 true k1 k2 k3 k4 k5 k6 e1 e2 e3 e4 e5 e6 p) (.str k6) (e6 v) = some (eR6 true k1 k2 k3 k4 k5 k6 e1 e2 e3 e4 e5 e6 (p.1, p.2.1, p.2.2.1, p.2.2.2.1, p.2.2.2.2.1, v)) := by simp [eR6, putX, keyD, putD, szl, h12, h13, h14, h15, h16, h23, h24, h25, h26, h34, h35, h36, h45, h46, h56, h12.symm, h13.symm, h14.symm, h15.symm, h16.symm, h23.symm, h24.symm, h25.symm, h26.symm, h34.symm, h35.symm, h36.symm, h45.symm, h46.symm, h56.symm]
theorem lR6_6 {d1 d2 d3 d4 d5 d6 : D} (h1 : k1 ≠ k6 := by decide) (h2 : k2 ≠ k6 := by decide) (h3 : k3 ≠ k6 := by decide) (h4 : k4 ≠ k6 := by decide) (h5 : k5 ≠ k6 := by decide) : lookK [((.inr k1 : Key), d1), ((.inr k2 : Key), d2), ((.inr k3 : Key), d3), ((.inr k4 : Key), d4), ((.inr k5 : Key), d5), ((.inr k6 : Key), d6)] (.inr k6) = some d6 := by simp [lookK, h1, h2, h3, h4, h5]
theorem uR6_6 {p : τ1 × τ2 × τ3 × τ4 × τ5 × τ6} {v : τ6} {d : D} (q : d = e6 v) (h12 : k1 ≠ k2 := by decide) (h13 : k1 ≠ k3 := by decide) (h14 : k1 ≠ k4 := by decide) (h15 : k1 ≠ k5 := by decide) (h16 : k1 ≠ k6 := by decide) (h23 : k2 ≠ k3 := by decide) (h24 : k2 ≠ k4 := by decide) (h25 : k2 ≠ k5 := by decide) (h26 : k2 ≠ k6 := by decide) (h34 : k3 ≠ k4 := by decide) (h35 : k3 ≠ k5 := by decide) (h36 : k3 ≠ k6 := by decide) (h45 : k4 ≠ k5 := by decide) (h46 : k4 ≠ k6 := by decide) (h56 : k5 ≠ k6 := by decide) : D.dct true (putD [((.inr k1 : Key), e1 p.1), ((.inr k2 : Key), e2 p.2.1), ((.inr k3 : Key), e3 p.2.2.1), ((.inr k4 : Key), e4 p.2.2.2.1), ((.inr k5 : Key), e5 p.2.2.2.2.1), ((.inr k6 : Key), e6 p.2.2.2.2.2)] (.inr k6) d) = eR6 true k1 k2 k3 k4 k5 k6 e1 e2 e3 e4 e5 e6 (p.1, p.2.1, p.2.2.1, p.2.2.2.1, p.2.2.2.2.1, v) := by subst q; simp [eR6, putD, h12, h13, h14, h15, h16, h23, h24, h25, h26, h34, h35, h36, h45, h46, h56, h12.symm, h13.symm, h14.symm, h15.symm, h16.symm, h23.symm, h24.symm, h25.symm, h26.symm, h34.symm, h35.symm, h36.symm, h45.symm, h46.symm, h56.symm]
end
/-! ### going on with a value -/
def Wp {α : Type} (m : Option α) (K : α → Prop) : Prop := ∃ a, m = some a ∧ K a
section
variable {α β γ σ ρ : Type} {P A B : Prop} {b : Bool}
theorem bindK {m : Option α} {f : α → Option β} {K : β → Prop} (H : Wp (m.bind f) K) (k : ∀ a, m = some a → Wp (f a) K → P) : P := by
  obtain ⟨y, h, hk⟩ := H
  cases m with
  | none => cases h
  | some a => exact k a rfl ⟨y, h, hk⟩
theorem wpSome {a : α} {K : α → Prop} (H : Wp (some a) K) : K a := by
  obtain ⟨y, h, hk⟩ := H
  cases h
  exact hk
theorem wpNone {K : α → Prop} (H : Wp (none : Option α) K) : P := by
  obtain ⟨y, h, hk⟩ := H
  cases h
theorem wpT {m1 m2 : Option α} {K : α → Prop} (hb : b = true) (H : Wp (if b = true then m1 else m2) K) : Wp m1 K := by rw [if_pos hb] at H; exact H
theorem wpF {m1 m2 : Option α} {K : α → Prop} (hb : b = false) (H : Wp (if b = true then m1 else m2) K) : Wp m2 K := by rw [hb, if_neg (by decide)] at H; exact H
theorem wpOf {m : Option α} {a : α} (h : m = some a) : Wp m (fun x => x = a) := ⟨a, h, rfl⟩
theorem iteB (h1 : b = true → A) (h2 : b = false → B) : if b = true then A else B := by
  cases b with
  | true => exact h1 rfl
  | false => rw [if_neg (by decide)]; exact h2 rfl
/-! pure proofs: step on -/
theorem wp_bind {m : Option α} {f : α → Option β} {K : β → Prop} (h : Wp m fun a => Wp (f a) K) : Wp (m.bind f) K := by
  obtain ⟨a, rfl, y, h, k⟩ := h
  exact ⟨y, h, k⟩
theorem wp_some {a : α} {K : α → Prop} (h : K a) : Wp (some a) K := ⟨a, rfl, h⟩
theorem wp_step {m : Option α} {a : α} {f : α → Option β} {K : β → Prop} (hm : m = some a) (h : Wp (f a) K) : Wp (m.bind f) K := by rw [hm]; exact h
theorem Wp.mono {m : Option α} {K K' : α → Prop} (h : Wp m K) (i : ∀ a, K a → K' a) : Wp m K' := by
  obtain ⟨a, e, k⟩ := h
  exact ⟨a, e, i a k⟩
theorem wp_ite {m1 m2 : Option α} {K : α → Prop} {p : Prop} [Decidable p] (h1 : p → Wp m1 K) (h2 : ¬ p → Wp m2 K) : Wp (if p then m1 else m2) K := by
  split
  · exact h1 (by assumption)
  · exact h2 (by assumption)
/-! ### conditions -/
theorem g_and {c : TXT} {QB : Bool → Env → Prop} {env : Env} {b' : Bool} (J : QB (b && b') env) (h : b = true → ∀ Q' : Bool → Env → Prop, Q' b' env → c env Q') : if b = true then c env QB else QB false env := by
  cases b with
  | true => exact h rfl QB J
  | false => exact J
theorem g_or {c : TXT} {QB : Bool → Env → Prop} {env : Env} {b' : Bool} (J : QB (b || b') env) (h : b = false → ∀ Q' : Bool → Env → Prop, Q' b' env → c env Q') : if b = true then QB true env else c env QB := by
  cases b with
  | true => exact J
  | false => exact h rfl QB J
/-- the second one may fail -/
theorem g_andP {c : TXT} {QB : Bool → Env → Prop} {env : Env} {t : Bool} {m : Option Bool} (ht : (if b = true then m else some false) = some t) (J : QB t env) (h : b = true → ∀ Q' : Bool → Env → Prop, Q' t env → Wp m (fun x => x = t) → c env Q') : if b = true then c env QB else QB false env := by
  cases b with
  | true => exact h rfl QB J (wpOf ht)
  | false =>
    have ht : some false = some t := ht
    cases ht
    exact J
theorem g_orP {c : TXT} {QB : Bool → Env → Prop} {env : Env} {t : Bool} {m : Option Bool} (ht : (if b = true then some true else m) = some t) (J : QB t env) (h : b = false → ∀ Q' : Bool → Env → Prop, Q' t env → Wp m (fun x => x = t) → c env Q') : if b = true then QB true env else c env QB := by
  cases b with
  | true =>
    have ht : some true = some t := ht
    cases ht
    exact J
  | false => exact h rfl QB J (wpOf ht)
theorem g_if {ta tb : TX} {Q : D → Env → Prop} {env : Env} {e : α → D} {x y : α} (J : Q (e (if b = true then x else y)) env) (h1 : b = true → ∀ Q' : D → Env → Prop, Q' (e x) env → ta env Q') (h2 : b = false → ∀ Q' : D → Env → Prop, Q' (e y) env → tb env Q') : if b = true then ta env Q else tb env Q := by
  cases b with
  | true => exact h1 rfl Q J
  | false => exact h2 rfl Q J
theorem g_ifP {ta tb : TX} {Q : D → Env → Prop} {env : Env} {e : α → D} {x y : Option α} {z : α} (hz : (if b = true then x else y) = some z) (J : Q (e z) env) (h1 : b = true → ∀ Q' : D → Env → Prop, Q' (e z) env → Wp x (fun u => u = z) → ta env Q') (h2 : b = false → ∀ Q' : D → Env → Prop, Q' (e z) env → Wp y (fun u => u = z) → tb env Q') : if b = true then ta env Q else tb env Q := by
  cases b with
  | true => exact h1 rfl Q J (wpOf hz)
  | false => exact h2 rfl Q J (wpOf hz)
/-- .. and change the names -/
theorem g_ifS {ta tb : TX} {Q : D → Env → Prop} {env : Env} {e : α → D} {x y : Option (α × σ)} {z : α × σ} (R : σ → Env → Prop) (hz : (if b = true then x else y) = some z) (J : ∀ env', R z.2 env' → Q (e z.1) env') (h1 : b = true → ∀ Q' : D → Env → Prop, Wp x (fun u => ∀ env', R u.2 env' → Q' (e u.1) env') → ta env Q') (h2 : b = false → ∀ Q' : D → Env → Prop, Wp y (fun u => ∀ env', R u.2 env' → Q' (e u.1) env') → tb env Q') : if b = true then ta env Q else tb env Q := by
  cases b with
  | true => exact h1 rfl Q ⟨z, hz, J⟩
  | false => exact h2 rfl Q ⟨z, hz, J⟩
theorem g_andS {c : TXT} {QB : Bool → Env → Prop} {env : Env} {z : Bool × σ} {m : Option (Bool × σ)} {s0 : σ} (R : σ → Env → Prop) (ht : (if b = true then m else some (false, s0)) = some z) (h0 : R s0 env) (J : ∀ env', R z.2 env' → QB z.1 env') (h : b = true → ∀ Q' : Bool → Env → Prop, Wp m (fun u => ∀ env', R u.2 env' → Q' u.1 env') → c env Q') : if b = true then c env QB else QB false env := by
  cases b with
  | true => exact h rfl QB ⟨z, ht, J⟩
  | false =>
    have ht : some (false, s0) = some z := ht
    cases ht
    exact J env h0
theorem g_orS {c : TXT} {QB : Bool → Env → Prop} {env : Env} {z : Bool × σ} {m : Option (Bool × σ)} {s0 : σ} (R : σ → Env → Prop) (ht : (if b = true then some (true, s0) else m) = some z) (h0 : R s0 env) (J : ∀ env', R z.2 env' → QB z.1 env') (h : b = false → ∀ Q' : Bool → Env → Prop, Wp m (fun u => ∀ env', R u.2 env' → Q' u.1 env') → c env Q') : if b = true then QB true env else c env QB := by
  cases b with
  | true =>
    have ht : some (true, s0) = some z := ht
    cases ht
    exact J env h0
  | false => exact h rfl QB ⟨z, ht, J⟩
/-- a statement whose ways come together -/
theorem g_join {D0 : TEnds} {t v : TXS} {env : Env} {m : Option σ} {s : σ} (R : σ → Env → Prop) (hs : m = some s) (J : ∀ env', R s env' → v D0 env') (h : ∀ K : Env → Prop, Wp m (fun s => ∀ env', R s env' → K env') → t { D0 with nx := K } env) : sSeq t v D0 env := h (v D0) ⟨s, hs, J⟩
/-! ### loops -/
inductive Flow (ρ σ : Type) where
  | go (s : σ) | brk (s : σ) | ret (r : ρ)
def loopS (f : α → σ → Option σ) : List α → σ → Option σ
  | [], s => some s
  | x :: xs, s => (f x s).bind (loopS f xs)
def loopF (f : α → σ → Option (Flow ρ σ)) : List α → σ → Option (Flow ρ σ)
  | [], s => some (.go s)
  | x :: xs, s => (f x s).bind fun
    | .go s' => loopF f xs s'
    | .brk s' => some (.go s')
    | .ret r => some (.ret r)
theorem g_for {step : α → σ → Option σ} {e : α → D} {gi : TXG} {tb : TXS} {D0 : TEnds} {s' : σ} (R : σ → Env → Prop) : ∀ {xs : List α} {s : σ} {items : List D} {env : Env}, items = xs.map e → loopS step xs s = some s' → R s env → (∀ env', R s' env' → D0.nx env') →
    (∀ (a : α) (s : σ) (env : Env) (K : Env → Prop), R s env → Wp (step a s) (fun s1 => ∀ env', R s1 env' → K env') → gi (e a) env fun env1 => tb { nx := K, rt := D0.rt, bk := D0.nx, ct := K } env1) → forL gi tb D0 items env
  | [], s, _, env, rfl, hl, h0, hd, _ => by cases hl; exact hd env h0
  | x :: xs, s, _, env, rfl, hl, h0, hd, ht => by
    refine bindK (wpOf hl) fun s1 h1 h2 => ?_
    obtain ⟨s2, h2, rfl⟩ := h2
    exact ht x s env (forL gi tb D0 (xs.map e)) h0 ⟨s1, h1, fun env' hr => g_for R rfl h2 hr hd ht⟩
def FlowK (R : σ → Env → Prop) (K Kb : Env → Prop) (Kr : ρ → Prop) : Flow ρ σ → Prop
  | .go s => ∀ env, R s env → K env
  | .brk s => ∀ env, R s env → Kb env
  | .ret r => Kr r
theorem g_forF {step : α → σ → Option (Flow ρ σ)} {e : α → D} {gi : TXG} {tb : TXS} {D0 : TEnds} {fl : Flow ρ σ} (R : σ → Env → Prop) (Kr : ρ → Prop) (hd : FlowK R D0.nx D0.nx Kr fl) : ∀ {xs : List α} {s : σ} {items : List D} {env : Env}, items = xs.map e → loopF step xs s = some fl → R s env →
    (∀ (a : α) (s : σ) (env : Env) (K : Env → Prop), R s env → Wp (step a s) (FlowK R K D0.nx fun r => fl = .ret r) → gi (e a) env fun env1 => tb { nx := K, rt := D0.rt, bk := D0.nx, ct := K } env1) → forL gi tb D0 items env
  | [], s, _, env, rfl, hl, h0, _ => by cases hl; exact hd env h0
  | x :: xs, s, _, env, rfl, hl, h0, ht => by
    refine bindK (wpOf hl) fun s1 h1 h2 => ?_
    obtain ⟨s2, h2, rfl⟩ := h2
    refine ht x s env (forL gi tb D0 (xs.map e)) h0 ⟨s1, h1, ?_⟩
    cases s1 with
    | go s1 => exact fun env' hr => g_forF R Kr hd rfl h2 hr ht
    | brk s1 => cases h2; exact fun env' hr => hd env' hr
    | ret r => cases h2; rfl
/-! while -/
def whl (f : σ → Option (Flow ρ σ)) : Nat → σ → Option (Flow ρ σ)
  | 0, _ => none
  | n + 1, s => (f s).bind fun
    | .go s' => whl f n s'
    | .brk s' => some (.go s')
    | .ret r => some (.ret r)
def whileO (f : σ → Option (Flow ρ σ)) (s : σ) : Option (Flow ρ σ) := do
  match ← f s with
    | .go s' => whileO f s'
    | .brk s' => some (.go s')
    | .ret r => some (.ret r)
partial_fixpoint
theorem whileO_fuel {f : σ → Option (Flow ρ σ)} {s : σ} {fl : Flow ρ σ} (h : whileO f s = some fl) : ∃ n, whl f n s = some fl := by
  refine whileO.partial_correctness f (fun s fl => ∃ n, whl f n s = some fl) ?_ s fl h
  intro w ih s fl h
  refine bindK (wpOf h) fun a ha h2 => ?_
  obtain ⟨y, h2, rfl⟩ := h2
  cases a with
  | go s' =>
    obtain ⟨n, hn⟩ := ih _ _ h2
    exact ⟨n + 1, by rw [whl, ha]; exact hn⟩
  | brk s' => exact ⟨1, by rw [whl, ha]; exact h2⟩
  | ret r => exact ⟨1, by rw [whl, ha]; exact h2⟩
theorem g_while {step : σ → Option (Flow ρ σ)} {c : TXT} {tb : TXS} {D0 : TEnds} {fl : Flow ρ σ} {s : σ} {env : Env} (R : σ → Env → Prop) (Kr : ρ → Prop) (hd : FlowK R D0.nx D0.nx Kr fl) (hl : whileO step s = some fl) (h0 : R s env)
    (ht : ∀ (s : σ) (env : Env) (K : Env → Prop), R s env → Wp (step s) (FlowK R K D0.nx fun r => fl = .ret r) → c env fun b env1 => if b = true then tb { nx := K, rt := D0.rt, bk := D0.nx, ct := K } env1 else D0.nx env1) : sWhile c tb D0 env := by
  obtain ⟨n, hn⟩ := whileO_fuel hl
  refine ⟨fun m env => ∃ s, R s env ∧ whl step m s = some fl, ⟨n, s, h0, hn⟩, fun m env ⟨s, hr, hw⟩ => ?_⟩
  cases m with
  | zero => cases hw
  | succ m =>
    refine bindK (wpOf hw) fun a ha h2 => ?_
    obtain ⟨y, h2, rfl⟩ := h2
    refine ht s env (fun e => ∃ m', m' < m + 1 ∧ ∃ s, R s e ∧ whl step m' s = some y) hr ⟨a, ha, ?_⟩
    cases a with
    | go s' => exact fun env' hr => ⟨m, Nat.lt_succ_self m, s', hr, h2⟩
    | brk s' => cases h2; exact fun env' hr => hd env' hr
    | ret r => cases h2; rfl
/-! ### comprehensions -/
def cmapT (f : α → β) (xs : List α) : Option (List β) := if xs.length ≤ sizeLine then some (xs.map f) else none
def cfltT (p : α → Bool) (f : α → β) (xs : List α) : Option (List β) := if xs.length ≤ sizeLine then some ((xs.filter p).map f) else none
def mapP (f : α → Option β) : List α → Option (List β)
  | [] => some []
  | x :: xs => (f x).bind fun y => (mapP f xs).bind fun ys => some (y :: ys)
def cmapP (f : α → Option β) (xs : List α) : Option (List β) := if xs.length ≤ sizeLine then mapP f xs else none
def fmP (f : α → Option (Option β)) : List α → Option (List β)
  | [] => some []
  | x :: xs => (f x).bind fun y => (fmP f xs).bind fun ys => some (y.toList ++ ys)
def cfmP (f : α → Option (Option β)) (xs : List α) : Option (List β) := if xs.length ≤ sizeLine then fmP f xs else none
def fmS (f : α → σ → Option (Option β × σ)) : List α → σ → Option (List β × σ)
  | [], s => some ([], s)
  | x :: xs, s => (f x s).bind fun y => (fmS f xs y.2).bind fun ys => some (y.1.toList ++ ys.1, ys.2)
def cfmS (f : α → σ → Option (Option β × σ)) (xs : List α) (s : σ) : Option (List β × σ) := if xs.length ≤ sizeLine then fmS f xs s else none
def mapS (f : α → σ → Option (β × σ)) : List α → σ → Option (List β × σ)
  | [], s => some ([], s)
  | x :: xs, s => (f x s).bind fun y => (mapS f xs y.2).bind fun ys => some (y.1 :: ys.1, ys.2)
def cmapS (f : α → σ → Option (β × σ)) (xs : List α) (s : σ) : Option (List β × σ) := if xs.length ≤ sizeLine then mapS f xs s else none
section
variable {e : α → D} {e' : β → D} {gi : TXG} {tt : TXT} {te : TX} {vs : List Nat} {items : List D} {env env0 : Env} {Q : List D → Env → Prop} {xs : List α} {ys : List β}
theorem compS_go {step : α → σ → Option (Option β × σ)} {R : σ → Env → Prop} {s' : σ} (ht : ∀ (a : α) (s : σ) (env : Env) (K1 : D → Env → Prop) (K0 : Env → Prop), R s env → Wp (step a s) (fun q => match q.1 with
      | some b => ∀ env', R q.2 (wipeE env' vs) → K1 (e' b) env'
      | none => ∀ env', R q.2 (wipeE env' vs) → K0 env') → gi (e a) env fun env1 => tt env1 fun b env2 => if b = true then te env2 K1 else K0 env2) :
    ∀ {xs : List α} {s : σ} {env : Env} {acc : List D} {ys : List β}, fmS step xs s = some (ys, s') → R s env → (∀ env', R s' env' → Q (acc ++ ys.map e') env') → compL gi tt te vs (xs.map e) env acc Q
  | [], s, env, acc, ys, h, hr, hq => by
    cases h
    have := hq env hr
    rwa [List.map_nil, List.append_nil] at this
  | x :: xs, s, env, acc, ys, h, hr, hq => by
    refine bindK (wpOf h) fun y hy h => bindK h fun z hz h => ?_
    have h := wpSome h
    obtain ⟨z1, z2⟩ := z
    cases h
    refine ht x s env _ _ hr ⟨y, hy, ?_⟩
    obtain ⟨y1, y2⟩ := y
    cases y1 with
    | none => exact fun env' hr' => compS_go ht hz hr' hq
    | some b => exact fun env' hr' => compS_go ht hz hr' fun env2 hr2 => by simpa using hq env2 hr2
theorem g_compS {step : α → σ → Option (Option β × σ)} {s : σ} {q : List β × σ} (R : σ → Env → Prop) (hi : items = xs.map e) (hm : cfmS step xs s = some q) (h0 : R s (wipeE env vs)) (hq : ∀ env', R q.2 env' → Q (q.1.map e') env')
    (ht : ∀ (a : α) (s : σ) (env : Env) (K1 : D → Env → Prop) (K0 : Env → Prop), R s env → Wp (step a s) (fun q => match q.1 with
      | some b => ∀ env', R q.2 (wipeE env' vs) → K1 (e' b) env'
      | none => ∀ env', R q.2 (wipeE env' vs) → K0 env') → gi (e a) env fun env1 => tt env1 fun b env2 => if b = true then te env2 K1 else K0 env2) : items.length ≤ sizeLine ∧ compL gi tt te vs items (wipeE env vs) [] Q := by
  subst hi
  unfold cfmS at hm
  split at hm
  · rename_i hl
    refine ⟨by rw [List.length_map]; exact hl, compS_go ht hm h0 fun env' hr => ?_⟩
    rw [List.nil_append]
    exact hq env' hr
  · cases hm
theorem mapS_fm {step : α → σ → Option (β × σ)} : ∀ (xs : List α) (s : σ), fmS (fun a s => (step a s).bind fun r => some (some r.1, r.2)) xs s = mapS step xs s
  | [], s => rfl
  | x :: xs, s => by
    rw [fmS, mapS]
    cases h : step x s with
    | none => rfl
    | some r =>
      simp only [Option.bind_some]
      rw [mapS_fm xs r.2]; rfl
theorem g_compM {step : α → σ → Option (β × σ)} {s : σ} {q : List β × σ} (R : σ → Env → Prop) (hi : items = xs.map e) (hm : cmapS step xs s = some q) (h0 : R s (wipeE env vs)) (hq : ∀ env', R q.2 env' → Q (q.1.map e') env')
    (ht : ∀ (a : α) (s : σ) (env : Env) (K1 : D → Env → Prop), R s env → Wp (step a s) (fun q => ∀ env', R q.2 (wipeE env' vs) → K1 (e' q.1) env') → gi (e a) env fun env1 => te env1 K1) : items.length ≤ sizeLine ∧ compL gi tYesT te vs items (wipeE env vs) [] Q := by
  refine g_compS (step := fun a s => (step a s).bind fun r => some (some r.1, r.2)) (s := s) (q := q) R hi (by unfold cfmS; unfold cmapS at hm; rw [mapS_fm]; exact hm) h0 hq fun a s env K1 K0 hr hw => ?_
  refine ht a s env K1 hr ?_
  refine bindK hw fun r h H => ⟨r, h, ?_⟩
  exact wpSome H
theorem fm_S {f : α → Option (Option β)} : ∀ xs : List α, fmS (σ := Unit) (fun a _ => (f a).bind fun r => some (r, ())) xs () = (fmP f xs).bind fun ys => some (ys, ())
  | [] => rfl
  | x :: xs => by
    rw [fmS, fmP]
    cases h : f x with
    | none => rfl
    | some r =>
      simp only [Option.bind_some]
      rw [fm_S xs]
      cases fmP f xs <;> rfl
theorem g_compP {f : α → Option (Option β)} (hi : items = xs.map e) (hm : cfmP f xs = some ys) (h0 : wipeE env vs = env0) (hq : Q (ys.map e') env0)
    (ht : ∀ (a : α) (K1 : D → Env → Prop) (K0 : Env → Prop), Wp (f a) (fun q => match q with
      | some b => ∀ env', wipeE env' vs = env0 → K1 (e' b) env'
      | none => ∀ env', wipeE env' vs = env0 → K0 env') → gi (e a) env0 fun env1 => tt env1 fun b env2 => if b = true then te env2 K1 else K0 env2) : items.length ≤ sizeLine ∧ compL gi tt te vs items (wipeE env vs) [] Q := by
  refine g_compS (σ := Unit) (step := fun a _ => (f a).bind fun r => some (r, ())) (s := ()) (q := (ys, ())) (fun _ env => env = env0) hi ?_ h0 (fun env' h => h ▸ hq) fun a s env K1 K0 hr hw => ?_
  · unfold cfmS
    unfold cfmP at hm
    split at hm
    · rename_i hl
      rw [if_pos hl, fm_S, hm]; rfl
    · cases hm
  · subst hr
    refine ht a K1 K0 (bindK hw fun r h H => ⟨r, h, ?_⟩)
    have H := wpSome H
    cases r with
    | none => exact H
    | some b => exact H
theorem mp_fm {f : α → Option β} : ∀ xs : List α, fmP (fun a => (f a).bind fun r => some (some r)) xs = mapP f xs
  | [] => rfl
  | x :: xs => by
    rw [fmP, mapP]
    cases h : f x with
    | none => rfl
    | some r =>
      simp only [Option.bind_some]
      rw [mp_fm xs]; rfl
theorem g_compQ {f : α → Option β} (hi : items = xs.map e) (hm : cmapP f xs = some ys) (h0 : wipeE env vs = env0) (hq : Q (ys.map e') env0)
    (ht : ∀ (a : α) (K1 : D → Env → Prop), Wp (f a) (fun b => ∀ env', wipeE env' vs = env0 → K1 (e' b) env') → gi (e a) env0 fun env1 => te env1 K1) : items.length ≤ sizeLine ∧ compL gi tYesT te vs items (wipeE env vs) [] Q := by
  refine g_compP (f := fun a => (f a).bind fun r => some (some r)) hi (by unfold cfmP; unfold cmapP at hm; rw [mp_fm]; exact hm) h0 hq fun a K1 K0 hw => ht a K1 (bindK hw fun r h H => ⟨r, h, ?_⟩)
  exact wpSome H
theorem mapP_T {f : α → β} : ∀ xs : List α, mapP (fun a => some (f a)) xs = some (xs.map f)
  | [] => rfl
  | x :: xs => by rw [mapP, mapP_T xs]; rfl
theorem g_compT {f : α → β} (hi : items = xs.map e) (hm : cmapT f xs = some ys) (h0 : wipeE env vs = env0) (hq : Q (ys.map e') env0)
    (ht : ∀ (a : α) (K1 : D → Env → Prop), (∀ env', wipeE env' vs = env0 → K1 (e' (f a)) env') → gi (e a) env0 fun env1 => te env1 K1) : items.length ≤ sizeLine ∧ compL gi tYesT te vs items (wipeE env vs) [] Q := by
  refine g_compQ (f := fun a => some (f a)) hi ?_ h0 hq fun a K1 hw => ht a K1 (wpSome hw)
  unfold cmapP
  rw [mapP_T]
  exact hm
theorem fmP_T {p : α → Bool} {f : α → β} : ∀ xs : List α, fmP (fun a => some (if p a = true then some (f a) else none)) xs = some ((xs.filter p).map f)
  | [] => rfl
  | x :: xs => by
    rw [fmP, fmP_T xs, List.filter_cons]
    cases h : p x with
    | true => rfl
    | false => rfl
theorem g_compF {p : α → Bool} {f : α → β} (hi : items = xs.map e) (hm : cfltT p f xs = some ys) (h0 : wipeE env vs = env0) (hq : Q (ys.map e') env0)
    (ht : ∀ (a : α) (K1 : D → Env → Prop) (K0 : Env → Prop), (p a = true → ∀ env', wipeE env' vs = env0 → K1 (e' (f a)) env') → (p a = false → ∀ env', wipeE env' vs = env0 → K0 env') → gi (e a) env0 fun env1 => tt env1 fun b env2 => if b = true then te env2 K1 else K0 env2) : items.length ≤ sizeLine ∧ compL gi tt te vs items (wipeE env vs) [] Q := by
  refine g_compP (f := fun a => some (if p a = true then some (f a) else none)) hi ?_ h0 hq fun a K1 K0 hw => ?_
  · unfold cfmP
    rw [fmP_T]
    exact hm
  · have hw := wpSome hw
    refine ht a K1 K0 (fun h => ?_) fun h => ?_
    · rw [if_pos h] at hw; exact hw
    · rw [h, if_neg (by decide)] at hw; exact hw
end
end
/-! ### operators that may fail -/
section
variable {α β : Type} {e : α → D} {o : Bool}
def mulO (a b : Int) : Option Int := if (-(2 ^ 64) < a ∧ a < 2 ^ 64) ∨ (-(2 ^ 64) < b ∧ b < 2 ^ 64) then some (a * b) else none
def mulW (a b : Int) : Option Int := if a.natAbs.log2 + b.natAbs.log2 < 1000000 then some (a * b) else none
def fdivO (a b : Int) : Option Int := if 0 < b ∧ b < 1073741824 then some (a / b) else none
def modO (a b : Int) : Option Int := if 0 < b then some (a % b) else none
instance (i j : Int) : Decidable (CPowW i j) := by unfold CPowW; infer_instance
def powO (a b : Int) : Option Int := if CPowW a b then some (a ^ b.toNat) else none
theorem x_rMul {a b c : Int} {Q : D → Prop} (h : mulO a b = some c) (q : Q (.int c)) : rMulI (.int a) (.int b) Q := by
  unfold mulO at h
  split at h
  · rename_i hc; cases h; exact ⟨a, b, rfl, rfl, hc, q⟩
  · cases h
theorem x_rMulW {a b c : Int} {Q : D → Prop} (h : mulW a b = some c) (q : Q (.int c)) : rMulW (.int a) (.int b) Q := by
  unfold mulW at h
  split at h
  · rename_i hc; cases h; exact ⟨a, b, rfl, rfl, hc, q⟩
  · cases h
theorem x_rFdiv {a b c : Int} {Q : D → Prop} (h : fdivO a b = some c) (q : Q (.int c)) : rFdivI (.int a) (.int b) Q := by
  unfold fdivO at h
  split at h
  · rename_i hc; cases h; exact ⟨a, b, rfl, rfl, hc, q⟩
  · cases h
theorem x_rMod {a b c : Int} {Q : D → Prop} (h : modO a b = some c) (q : Q (.int c)) : rModI (.int a) (.int b) Q := by
  unfold modO at h
  split at h
  · rename_i hc; cases h; exact ⟨a, b, rfl, rfl, hc, q⟩
  · cases h
theorem x_rPow {a b c : Int} {Q : D → Prop} (h : powO a b = some c) (q : Q (.int c)) : rPowI (.int a) (.int b) Q := by
  unfold powO at h
  split at h
  · rename_i hc; cases h; exact ⟨a, b, rfl, rfl, hc, q⟩
  · cases h
/-! items -/
theorem atI_map {f : α → β} {xs : List α} {i : Int} : atI (xs.map f) i = (atI xs i).map f := by
  unfold atI
  rw [List.length_map]
  cases ixN xs.length i with
  | none => rfl
  | some j => simp
theorem atL {xs : List α} {i : Int} {a : α} (h : atI xs i = some a) : getIx (eL o e xs) (.int i) = some (e a) := by
  show atI (xs.map e) i = _
  rw [atI_map, h]; rfl
theorem atQ {xs : List α} {i : Int} {a : α} (h : atI xs i = some a) : getIx (eQ e xs) (.int i) = some (e a) := by
  show atI (xs.map e) i = _
  rw [atI_map, h]; rfl
theorem atT {xs : List α} {i : Int} {a : α} (h : atI xs i = some a) : getIx (eT e xs) (.int i) = some (e a) := by
  show atI (xs.map e) i = _
  rw [atI_map, h]; rfl
theorem ixE_map {f : α → β} {xs : List α} {i : Int} {j : Nat} (h : ixN xs.length i = some j) : ixN (xs.map f).length i = some j := by rw [List.length_map]; exact h
def pushO (xs : List α) (x : α) : Option (List α) := if xs.length < sizeLine then some (xs ++ [x]) else none
def catO (xs ys : List α) : Option (List α) := if xs.length + ys.length ≤ sizeLine then some (xs ++ ys) else none
def repO (xs : List α) (k : Int) : Option (List α) := if -(2 ^ 63) ≤ k ∧ k < 2 ^ 63 ∧ xs.length * k.toNat ≤ sizeLine then some (List.replicate k.toNat xs).flatten else none
def repB (xs : List α) (k : Bool) : List α := if k = true then xs else []
def setO (xs : List α) (i : Int) (x : α) : Option (List α) := (ixN xs.length i).bind fun j => some (xs.set j x)
def rngI (lo : Int) (n : Nat) : List Int := (List.range n).map fun i => lo + (i : Nat)
def rng1 (j : Int) : Option (List Int) := if -(2 ^ 62) ≤ j ∧ j < 2 ^ 62 then some (rngI 0 j.toNat) else none
def rng2 (i j : Int) : Option (List Int) := if -(2 ^ 62) ≤ i ∧ i < 2 ^ 62 ∧ -(2 ^ 62) ≤ j ∧ j < 2 ^ 62 then some (rngI i (j - i).toNat) else none
instance (i j : Int) : Decidable (RgOk i j) := by unfold RgOk; infer_instance
def lrg (i j : Int) : Option (List Int) := if RgOk i j then some (rngI i (j - i).toNat) else none
theorem rgD_I (lo : Int) (n : Nat) : rgD lo n = (rngI lo n).map D.int := rgD_map lo n
def enumI (k : Int) : List α → List (Int × α)
  | [] => []
  | x :: xs => (k, x) :: enumI (k + 1) xs
theorem enumL_e : ∀ (k : Int) (xs : List α), enumL k (xs.map e) = (enumI k xs).map (e2 D.int e)
  | _, [] => rfl
  | k, x :: xs => by rw [List.map_cons, enumL, enumL_e (k + 1) xs]; rfl
theorem cut_map (f : α → β) (xs : List α) (lo hi : Option Int) : cutL (xs.map f) lo hi = (cutL xs lo hi).map f := by
  unfold cutL
  rw [List.length_map, List.map_take, List.map_drop]
def topO (up : Bool) (xs : List Int) : Option Int := if up = true then xs.max? else xs.min?
theorem top_of {up : Bool} {ns : List Int} {m : Int} (h : m ∈ ns) (hm : ∀ y, y ∈ ns → if up = true then y ≤ m else m ≤ y) : topO up ns = some m := by
  unfold topO
  cases up with
  | true =>
    rw [if_pos rfl, List.max?_eq_some_iff]
    exact ⟨h, fun b hb => hm b hb⟩
  | false =>
    rw [if_neg (by decide), List.min?_eq_some_iff]
    exact ⟨h, fun b hb => hm b hb⟩
theorem x_top {up : Bool} {ns : List Int} {m : Int} {Q : Int → Prop} (h : topO up ns = some m) (q : Q m) : ns ≠ [] ∧ ∀ m, m ∈ ns → (∀ y, y ∈ ns → if up = true then y ≤ m else m ≤ y) → Q m := by
  refine ⟨fun z => ?_, fun m' h1 h2 => ?_⟩
  · subst z
    cases up <;> cases h
  · rw [top_of h1 h2] at h
    cases h
    exact q
/-! dicts -/
section
variable {κ : Type} [DecidableEq κ]
def dGet (kvs : List (κ × α)) (k : κ) : Option α := (kvs.find? fun p => decide (p.1 = k)).map (·.2)
def dHas (kvs : List (κ × α)) (k : κ) : Bool := (dGet kvs k).isSome
def dPut (kvs : List (κ × α)) (k : κ) (d : α) : List (κ × α) :=
  if (kvs.any fun kv => decide (kv.1 = k)) = true then kvs.map (fun kv => if kv.1 = k then (kv.1, d) else kv) else kvs ++ [(k, d)]
def dPutO (kvs : List (κ × α)) (k : κ) (d : α) : Option (List (κ × α)) := if (kvs.map (·.1)).Nodup ∧ kvs.length < sizeLine then some (dPut kvs k d) else none
variable {κ' : Type} [DecidableEq κ'] {g : κ → κ'}
theorem lookK_e (hg : ∀ a b, g a = g b → a = b) (kvs : List (κ × α)) (k : κ) : lookK (kvs.map fun p => (g p.1, e p.2)) (g k) = (dGet kvs k).map e := by
  unfold lookK dGet
  induction kvs with
  | nil => rfl
  | cons p r ih =>
    rw [List.map_cons, List.find?_cons, List.find?_cons]
    by_cases h : p.1 = k
    · rw [decide_eq_true (show g p.1 = g k by rw [h]), decide_eq_true h]; rfl
    · rw [decide_eq_false (show ¬ g p.1 = g k from fun z => h (hg _ _ z)), decide_eq_false h]; exact ih
theorem putD_e (hg : ∀ a b, g a = g b → a = b) (kvs : List (κ × α)) (k : κ) (v : α) : putD (kvs.map fun p => (g p.1, e p.2)) (g k) (e v) = (dPut kvs k v).map fun p => (g p.1, e p.2) := by
  have hd : ∀ a : κ, decide (g a = g k) = decide (a = k) := fun a => decide_eq_decide.mpr ⟨hg _ _, fun z => by rw [z]⟩
  unfold putD dPut
  rw [List.any_map]
  have h1 : ((fun kv : κ' × D => decide (kv.1 = g k)) ∘ fun p : κ × α => (g p.1, e p.2)) = fun kv => decide (kv.1 = k) := by
    funext p; exact hd p.1
  rw [h1]
  split
  · rw [List.map_map, List.map_map]
    refine List.map_congr_left fun p _ => ?_
    show (if g p.1 = g k then (g p.1, e v) else (g p.1, e p.2)) = _
    by_cases h : p.1 = k
    · rw [if_pos (by rw [h])]; simp [h]
    · rw [if_neg fun z => h (hg _ _ z)]; simp [h]
  · rw [List.map_append]; rfl
theorem keys_e (hg : ∀ a b, g a = g b → a = b) (kvs : List (κ × α)) (h : (kvs.map (·.1)).Nodup) : ((kvs.map fun p => (g p.1, e p.2)).map (·.1)).Nodup := by
  have : (kvs.map fun p => (g p.1, e p.2)).map (·.1) = (kvs.map (·.1)).map g := by rw [List.map_map, List.map_map]; rfl
  rw [this]
  exact List.Pairwise.map g (fun a b z y => z (hg a b y)) h
end
theorem inlI (a b : Int) (h : (Sum.inl a : Key) = Sum.inl b) : a = b := Sum.inl.inj h
theorem getK {kvs : List (Int × α)} {k : Int} {v : α} (h : dGet kvs k = some v) : dget (eK o e kvs) (.int k) = some (some (e v)) := by
  unfold eK dget
  show some (lookK _ (Sum.inl k)) = _
  rw [lookK_e (g := Sum.inl) inlI, h]; rfl
theorem hasK {kvs : List (Int × α)} {k : Int} : ∃ r, dget (eK o e kvs) (.int k) = some r ∧ r.isSome = dHas kvs k := by
  refine ⟨_, rfl, ?_⟩
  show (lookK (kvs.map fun p => (Sum.inl p.1, e p.2)) (Sum.inl k : Key)).isSome = _
  rw [lookK_e (g := Sum.inl) inlI]
  unfold dHas
  cases dGet kvs k <;> rfl
theorem putK {kvs kvs' : List (Int × α)} {k : Int} {v : α} (h : dPutO kvs k v = some kvs') : putX (eK true e kvs) (.int k) (e v) = some (eK true e kvs') := by
  unfold dPutO at h
  split at h
  · rename_i hc
    cases h
    show (if (((kvs.map fun p => ((Sum.inl p.1 : Key), e p.2))).map (·.1)).Nodup ∧ (kvs.map fun p => ((Sum.inl p.1 : Key), e p.2)).length < sizeLine then _ else none) = _
    rw [if_pos ⟨keys_e (g := Sum.inl) inlI kvs hc.1, by rw [List.length_map]; exact hc.2⟩]
    show some (D.dct true (putD _ (Sum.inl k) (e v))) = _
    rw [putD_e (g := Sum.inl) inlI]; rfl
  · cases h
end
/-! data compared -/
section
variable {α β : Type} [DecidableEq α] [DecidableEq β] {e : α → D} {ea : α → D} {eb : β → D} {k l : Nat}
theorem cmpI : Cmp D.int 0 := cmp_int0
theorem py_bl (b : Bool) : (D.bl b).py = .bool b := by rw [D.py]
theorem cmpB : Cmp D.bl 0 := by
  refine ⟨fun a => by rw [D.pyok] <;> intros <;> contradiction, fun a => by rw [py_bl]; simp only [PyData.canLay0], fun a => by rw [py_bl]; simp only [PyData.depth]; exact Nat.le_refl _, fun a b => ?_⟩
  rw [py_bl, py_bl]
  cases a <;> cases b <;> simp [PyData.eqv]
theorem cmpL (h : Cmp e k) (o : Bool) : Cmp (eL o e) (k + 1) := h.lst o
theorem cmpT (h : Cmp e k) : Cmp (eT e) (k + 1) := h.tup
theorem cmp2 (ha : Cmp ea k) (hb : Cmp eb l) : Cmp (e2 ea eb) (max k l + 1) := by
  refine ⟨fun a => ?_, fun a => ?_, fun a => ?_, fun a b => ?_⟩
  · show (D.tup _).pyok = true
    rw [D.pyok, pyokL_all]; simp [ha.ok, hb.ok]
  · show (D.tup _).py.canLay0 = true
    rw [py_tup]; simp [pyL, PyData.canLay0, PyData.canLayAll0, ha.lay, hb.lay]
  · show (D.tup _).py.depth ≤ _
    rw [py_tup]; simp [pyL, PyData.depth, PyData.depthAll]
    have := ha.dep a.1
    have := hb.dep a.2
    omega
  · show PyData.eqv (D.tup _).py (D.tup _).py = _
    rw [py_tup, py_tup]; simp [pyL, PyData.eqv, PyData.eqvAll, ha.eqv, hb.eqv]
    obtain ⟨a1, a2⟩ := a
    obtain ⟨b1, b2⟩ := b
    rw [← Bool.decide_and]
    exact decide_eq_decide.mpr (by simp)
theorem cmp3 {γ : Type} [DecidableEq γ] {ec : γ → D} {m : Nat} (ha : Cmp ea k) (hb : Cmp eb l) (hc : Cmp ec m) : Cmp (e3 ea eb ec) (max k (max l m) + 1) := by
  refine ⟨fun a => ?_, fun a => ?_, fun a => ?_, fun a b => ?_⟩
  · show (D.tup _).pyok = true
    rw [D.pyok, pyokL_all]; simp [ha.ok, hb.ok, hc.ok]
  · show (D.tup _).py.canLay0 = true
    rw [py_tup]; simp [pyL, PyData.canLay0, PyData.canLayAll0, ha.lay, hb.lay, hc.lay]
  · show (D.tup _).py.depth ≤ _
    rw [py_tup]; simp [pyL, PyData.depth, PyData.depthAll]
    have := ha.dep a.1
    have := hb.dep a.2.1
    have := hc.dep a.2.2
    omega
  · show PyData.eqv (D.tup _).py (D.tup _).py = _
    rw [py_tup, py_tup]; simp [pyL, PyData.eqv, PyData.eqvAll, ha.eqv, hb.eqv, hc.eqv]
    obtain ⟨a1, a2, a3⟩ := a
    obtain ⟨b1, b2, b3⟩ := b
    rw [← Bool.decide_and, ← Bool.decide_and]
    exact decide_eq_decide.mpr (by simp)
/-- None, or a thing that isn't it -/
theorem cmpO (h : Cmp e k) (hn : ∀ a, PyData.eqv .none (e a).py = false ∧ PyData.eqv (e a).py .none = false) : Cmp (eO e) k := by
  have pn : D.non.py = .none := by rw [D.py]
  refine ⟨fun a => ?_, fun a => ?_, fun a => ?_, fun a b => ?_⟩
  · cases a with
    | none => show D.non.pyok = true; rw [D.pyok] <;> intros <;> contradiction
    | some a => exact h.ok a
  · cases a with
    | none => show D.non.py.canLay0 = true; rw [pn]; simp only [PyData.canLay0]
    | some a => exact h.lay a
  · cases a with
    | none => show D.non.py.depth ≤ _; rw [pn]; simp only [PyData.depth]; omega
    | some a => exact h.dep a
  · cases a with
    | none =>
      cases b with
      | none => show PyData.eqv D.non.py D.non.py = _; rw [pn]; simp [PyData.eqv]
      | some b => show PyData.eqv D.non.py (e b).py = _; rw [pn, (hn b).1]; rfl
    | some a =>
      cases b with
      | none => show PyData.eqv (e a).py D.non.py = _; rw [pn, (hn a).2]; rfl
      | some b =>
        show PyData.eqv (e a).py (e b).py = _
        rw [h.eqv]
        exact decide_eq_decide.mpr (by simp)
theorem nnI (i : Int) : PyData.eqv .none (D.int i).py = false ∧ PyData.eqv (D.int i).py .none = false := by rw [py_int]; simp [PyData.eqv]
theorem nnL (o : Bool) {γ : Type} (f : γ → D) (xs : List γ) : PyData.eqv .none (eL o f xs).py = false ∧ PyData.eqv (eL o f xs).py .none = false := by unfold eL; rw [py_lst]; simp [PyData.eqv]
theorem nnT {γ : Type} (f : γ → D) (xs : List γ) : PyData.eqv .none (eT f xs).py = false ∧ PyData.eqv (eT f xs).py .none = false := by unfold eT; rw [py_tup]; simp [PyData.eqv]
end
end TT

/-! N1: readings whose values have a name of their own -/
namespace TT
open PySem PySem.Spec PyProof.Rows L2
section
variable {X : Cx} {e a b : Expr} {M Ma Mb R Ra Rb : List Nat} {t ta tb tc : TX} {pos : Pos} {rt rt' : D → D → (D → Prop) → Prop}
/-- the value, by another name -/
def oEq (t : TX) : TX := fun env Q => t env fun d env1 => ∃ r, d = r ∧ Q r env1
theorem x_eq (h : XX X e M R t) : XX X e M R (oEq t) := ⟨pe_imp h.pe fun σ H Q ⟨S, Qt, eH, s, q, k⟩ => ⟨S, _, eH, s, q, fun S1 v d Fv ⟨r, er, q1⟩ s1 st1 v1 => k S1 v d Fv (er ▸ q1) s1 st1 v1⟩⟩
/-- the names, by another name -/
def oEnv (t : TX) : TX := fun env Q => t env fun d env1 => ∃ e2, env1 = e2 ∧ Q d e2
theorem x_env (h : XX X e M R t) : XX X e M R (oEnv t) := ⟨pe_imp h.pe fun σ H Q ⟨S, Qt, eH, s, q, k⟩ => ⟨S, _, eH, s, q, fun S1 v d Fv ⟨r, er, q1⟩ s1 st1 v1 => k S1 v d Fv (er ▸ q1) s1 st1 v1⟩⟩
def sEnv (t : TXS) : TXS := fun D env => t { D with nx := fun e => ∃ e2, e = e2 ∧ D.nx e2 } env
theorem s_env {st : Stmt} {A : List Nat} {t : TXS} (h : XS X st A t) : XS X st A (sEnv t) := ⟨ps_imp h.ps fun D σ H ⟨S, Dt, eH, s, q, k1, k2, k3, k4⟩ => ⟨S, { Dt with nx := fun e => ∃ e2, e = e2 ∧ Dt.nx e2 }, eH, s, q, fun σ' S' ⟨r, er, q1⟩ => k1 σ' S' (er ▸ q1), k2, k3, k4⟩⟩
def iEq (t : TXI) : TXI := fun env Q => t env fun ds env1 => ∃ r, ds = r ∧ Q r env1
theorem xi_eq {tg : Expr} {t : TXI} (h : XI X tg e M t) : XI X tg e M (iEq t) := ⟨pi_imp h.pi fun σ H Q ⟨S, Qt, eH, s, q, k⟩ => ⟨S, _, eH, s, q, fun S1 ds J ⟨r, er, q1⟩ s1 st1 v1 => k S1 ds J (er ▸ q1) s1 st1 v1⟩⟩
/-- a name's thing, frozen -/
def vFz (i : Nat) : TX := fun env Q => ∃ d d', env[i]? = some (some d) ∧ d.frz = d' ∧ Q d' (env.set i (some d'))
theorem x_fz {i : Nat} (h : PE X e (tVar i)) : XX X e [i] [] (vFz i) := ⟨pe_imp (x_frz h).pe fun σ H Q ⟨S, Qt, eH, s, ⟨d, d', h1, h2, q⟩, k⟩ => ⟨S, Qt, eH, s, ⟨d, h1, by rw [h2]; exact q⟩, k⟩⟩
/-! ways that part -/
def cIf (b : Bool) (ta tb : TX) : TX := fun env Q => if b = true then ta env Q else tb env Q
def cAnd (b : Bool) (u : TXT) : TXT := fun env Q => if b = true then u env Q else Q false env
def cOr (b : Bool) (u : TXT) : TXT := fun env Q => if b = true then Q true env else u env Q
def cAndV (b : Bool) (u : TX) : TX := fun env Q => if b = true then u env Q else Q (.bl false) env
def cOrV (b : Bool) (u : TX) : TX := fun env Q => if b = true then Q (.bl true) env else u env Q
def cOrT (b : Bool) (x : D) (u : TX) : TX := fun env Q => if b = true then Q x env else u env Q
def cAndT (b : Bool) (x : D) (u : TX) : TX := fun env Q => if b = true then u env Q else Q x env
def oIf2 (c : TXT) (ta tb : TX) : TX := fun env Q => c env fun b env1 => cIf b ta tb env1 Q
def tAnd2 (t u : TXT) : TXT := fun env Q => t env fun b env1 => cAnd b u env1 Q
def tOr2 (t u : TXT) : TXT := fun env Q => t env fun b env1 => cOr b u env1 Q
def oAnd2 (ta tb : TX) : TX := fun env Q => ta env fun x env1 => ∃ c, x = .bl c ∧ cAndV c tb env1 Q
def oOr2 (ta tb : TX) : TX := fun env Q => ta env fun x env1 => ∃ c, x = .bl c ∧ cOrV c tb env1 Q
def oOrT2 (ta tb : TX) : TX := fun env Q => ta env fun x env1 => ∃ k, truD x = some k ∧ cOrT k x tb env1 Q
def oAndT2 (ta tb : TX) : TX := fun env Q => ta env fun x env1 => ∃ k, truD x = some k ∧ cAndT k x tb env1 Q
def oCh (rt' : D → D → (D → Prop) → Prop) (y : D) (tc : TX) : TX := fun env Q => tc env fun w env3 => rt' y w fun z' => Q z' env3
def oChain2 (rt rt' : D → D → (D → Prop) → Prop) (ta tb tc : TX) : TX := fun env Q => ta env fun x env1 => tb env1 fun y env2 => rt x y fun z => ∃ k, z = .bl k ∧ cAndV k (oCh rt' y tc) env2 Q
theorem x_if2 {c : Expr} {t : TXT} (hc : XT X c M t) (ha : XX X a Ma Ra ta) (hb : XX X b Mb Rb tb) : XX X (.IfExp c a b pos) (M ++ (Ma ++ Mb)) (Ra ++ Rb) (oIf2 t ta tb) := x_if hc ha hb
theorem x_if20 {c : Expr} {t : TXT} (hc : XT X c M t) (ha : XX X a Ma [] ta) (hb : XX X b Mb [] tb) : XX X (.IfExp c a b pos) (M ++ (Ma ++ Mb)) [] (oIf2 t ta tb) := x_if hc ha hb
theorem xw_and2 {t u : TXT} {rest : List Expr} (h : XT X a Ma t) (h2 : XW X (.BoolOp .And (b :: rest) pos) Mb u) : XW X (.BoolOp .And (a :: b :: rest) pos) (Ma ++ Mb) (tAnd2 t u) := xw_and h h2
theorem xw_or2 {t u : TXT} {rest : List Expr} (h : XT X a Ma t) (h2 : XW X (.BoolOp .Or (b :: rest) pos) Mb u) : XW X (.BoolOp .Or (a :: b :: rest) pos) (Ma ++ Mb) (tOr2 t u) := xw_or h h2
theorem x_and2 {rest : List Expr} (ha : XX X a Ma Ra ta) (hb : XX X (.BoolOp .And (b :: rest) pos) Mb Rb tb) : XX X (.BoolOp .And (a :: b :: rest) pos) (Ma ++ Mb) Rb (oAnd2 ta tb) := x_and ha hb
theorem x_or2 {rest : List Expr} (ha : XX X a Ma Ra ta) (hb : XX X (.BoolOp .Or (b :: rest) pos) Mb Rb tb) : XX X (.BoolOp .Or (a :: b :: rest) pos) (Ma ++ Mb) Rb (oOr2 ta tb) := x_or ha hb
theorem x_orT2 {rest : List Expr} (ha : XX X a Ma Ra ta) (hb : XX X (.BoolOp .Or (b :: rest) pos) Mb Rb tb) : XX X (.BoolOp .Or (a :: b :: rest) pos) (Ma ++ Mb) (Ra ++ Rb) (oOrT2 ta tb) := x_orT ha hb
theorem x_andT2 {rest : List Expr} (ha : XX X a Ma Ra ta) (hb : XX X (.BoolOp .And (b :: rest) pos) Mb Rb tb) : XX X (.BoolOp .And (a :: b :: rest) pos) (Ma ++ Mb) (Ra ++ Rb) (oAndT2 ta tb) := x_andT ha hb
theorem x_orT20 {rest : List Expr} (ha : XX X a Ma [] ta) (hb : XX X (.BoolOp .Or (b :: rest) pos) Mb [] tb) : XX X (.BoolOp .Or (a :: b :: rest) pos) (Ma ++ Mb) [] (oOrT2 ta tb) := x_orT ha hb
theorem x_andT20 {rest : List Expr} (ha : XX X a Ma [] ta) (hb : XX X (.BoolOp .And (b :: rest) pos) Mb [] tb) : XX X (.BoolOp .And (a :: b :: rest) pos) (Ma ++ Mb) [] (oAndT2 ta tb) := x_andT ha hb
end
section
variable {α β σ : Type} {b : Bool} {env : Env}
theorem k_if {ta tb : TX} {Q : D → Env → Prop} {e : α → D} {x y : α} (J : Q (e (if b = true then x else y)) env) (h1 : b = true → ∀ Q' : D → Env → Prop, Q' (e x) env → ta env Q') (h2 : b = false → ∀ Q' : D → Env → Prop, Q' (e y) env → tb env Q') : cIf b ta tb env Q := g_if J h1 h2
theorem k_ifP {ta tb : TX} {Q : D → Env → Prop} {e : α → D} {x y : Option α} {z : α} (hz : (if b = true then x else y) = some z) (J : Q (e z) env) (h1 : b = true → ∀ Q' : D → Env → Prop, Q' (e z) env → Wp x (fun u => u = z) → ta env Q') (h2 : b = false → ∀ Q' : D → Env → Prop, Q' (e z) env → Wp y (fun u => u = z) → tb env Q') : cIf b ta tb env Q := g_ifP hz J h1 h2
theorem k_ifS {ta tb : TX} {Q : D → Env → Prop} {e : α → D} {x y : Option (α × σ)} {z : α × σ} (R : σ → Env → Prop) (hz : (if b = true then x else y) = some z) (J : ∀ env', R z.2 env' → Q (e z.1) env') (h1 : b = true → ∀ Q' : D → Env → Prop, Wp x (fun u => ∀ env', R u.2 env' → Q' (e u.1) env') → ta env Q') (h2 : b = false → ∀ Q' : D → Env → Prop, Wp y (fun u => ∀ env', R u.2 env' → Q' (e u.1) env') → tb env Q') : cIf b ta tb env Q := g_ifS R hz J h1 h2
variable {c : TXT} {QB : Bool → Env → Prop} {b' t : Bool} {u : TX} {Q : D → Env → Prop}
theorem k_and (J : QB (b && b') env) (h : b = true → ∀ Q' : Bool → Env → Prop, Q' b' env → c env Q') : cAnd b c env QB := g_and J h
theorem k_or (J : QB (b || b') env) (h : b = false → ∀ Q' : Bool → Env → Prop, Q' b' env → c env Q') : cOr b c env QB := g_or J h
theorem k_andP {m : Option Bool} (ht : (if b = true then m else some false) = some t) (J : QB t env) (h : b = true → ∀ Q' : Bool → Env → Prop, Q' t env → Wp m (fun x => x = t) → c env Q') : cAnd b c env QB := g_andP ht J h
theorem k_orP {m : Option Bool} (ht : (if b = true then some true else m) = some t) (J : QB t env) (h : b = false → ∀ Q' : Bool → Env → Prop, Q' t env → Wp m (fun x => x = t) → c env Q') : cOr b c env QB := g_orP ht J h
theorem k_andS {z : Bool × σ} {m : Option (Bool × σ)} {s0 : σ} (R : σ → Env → Prop) (ht : (if b = true then m else some (false, s0)) = some z) (h0 : R s0 env) (J : ∀ env', R z.2 env' → QB z.1 env') (h : b = true → ∀ Q' : Bool → Env → Prop, Wp m (fun u => ∀ env', R u.2 env' → Q' u.1 env') → c env Q') : cAnd b c env QB := g_andS R ht h0 J h
theorem k_orS {z : Bool × σ} {m : Option (Bool × σ)} {s0 : σ} (R : σ → Env → Prop) (ht : (if b = true then some (true, s0) else m) = some z) (h0 : R s0 env) (J : ∀ env', R z.2 env' → QB z.1 env') (h : b = false → ∀ Q' : Bool → Env → Prop, Wp m (fun u => ∀ env', R u.2 env' → Q' u.1 env') → c env Q') : cOr b c env QB := g_orS R ht h0 J h
/-! as values -/
theorem k_andV (J : Q (.bl (b && b')) env) (h : b = true → ∀ Q' : D → Env → Prop, Q' (.bl b') env → u env Q') : cAndV b u env Q := by
  cases b with
  | true => exact h rfl Q J
  | false => exact J
theorem k_orV (J : Q (.bl (b || b')) env) (h : b = false → ∀ Q' : D → Env → Prop, Q' (.bl b') env → u env Q') : cOrV b u env Q := by
  cases b with
  | true => exact J
  | false => exact h rfl Q J
theorem k_andVP {m : Option Bool} (ht : (if b = true then m else some false) = some t) (J : Q (.bl t) env) (h : b = true → ∀ Q' : D → Env → Prop, Q' (.bl t) env → Wp m (fun x => x = t) → u env Q') : cAndV b u env Q := by
  cases b with
  | true => exact h rfl Q J (wpOf ht)
  | false =>
    have ht : some false = some t := ht
    cases ht
    exact J
theorem k_orVP {m : Option Bool} (ht : (if b = true then some true else m) = some t) (J : Q (.bl t) env) (h : b = false → ∀ Q' : D → Env → Prop, Q' (.bl t) env → Wp m (fun x => x = t) → u env Q') : cOrV b u env Q := by
  cases b with
  | true =>
    have ht : some true = some t := ht
    cases ht
    exact J
  | false => exact h rfl Q J (wpOf ht)
theorem k_andVS {z : Bool × σ} {m : Option (Bool × σ)} {s0 : σ} (R : σ → Env → Prop) (ht : (if b = true then m else some (false, s0)) = some z) (h0 : R s0 env) (J : ∀ env', R z.2 env' → Q (.bl z.1) env') (h : b = true → ∀ Q' : D → Env → Prop, Wp m (fun u => ∀ env', R u.2 env' → Q' (.bl u.1) env') → u env Q') : cAndV b u env Q := by
  cases b with
  | true => exact h rfl Q ⟨z, ht, J⟩
  | false =>
    have ht : some (false, s0) = some z := ht
    cases ht
    exact J env h0
theorem k_orVS {z : Bool × σ} {m : Option (Bool × σ)} {s0 : σ} (R : σ → Env → Prop) (ht : (if b = true then some (true, s0) else m) = some z) (h0 : R s0 env) (J : ∀ env', R z.2 env' → Q (.bl z.1) env') (h : b = false → ∀ Q' : D → Env → Prop, Wp m (fun u => ∀ env', R u.2 env' → Q' (.bl u.1) env') → u env Q') : cOrV b u env Q := by
  cases b with
  | true =>
    have ht : some (true, s0) = some z := ht
    cases ht
    exact J env h0
  | false => exact h rfl Q ⟨z, ht, J⟩
/-- x or y, by truth -/
theorem k_orT {d : D} {x y : α} (e : α → D) (hd : d = e x) (J : Q (e (if b = true then x else y)) env) (h : b = false → ∀ Q' : D → Env → Prop, Q' (e y) env → u env Q') : cOrT b d u env Q := by
  subst hd
  cases b with
  | true => exact J
  | false => exact h rfl Q J
theorem k_orTP {d : D} {x z : α} {m : Option α} (e : α → D) (hd : d = e x) (hz : (if b = true then some x else m) = some z) (J : Q (e z) env) (h : b = false → ∀ Q' : D → Env → Prop, Q' (e z) env → Wp m (fun u => u = z) → u env Q') : cOrT b d u env Q := by
  subst hd
  cases b with
  | true =>
    have hz : some x = some z := hz
    cases hz
    exact J
  | false => exact h rfl Q J (wpOf hz)
end
/-! what is answered -/
section
variable {α β γ : Type} {e e' : α → D} {o : Bool} {env : Env} {i : Nat}
theorem setEq {d d' : D} (h : d = d') : List.set env i (some d) = List.set env i (some d') := by rw [h]
theorem consE {a a' : Option D} {l l' : Env} (h : a = a') (hl : l = l') : a :: l = a' :: l' := by rw [h, hl]
theorem someE {d d' : D} (h : d = d') : some d = some d' := by rw [h]
theorem lenL (xs : List α) : lenD (eL o e xs) = some (xs.length : Int) := by unfold eL; simp
theorem lenQ (xs : List α) : lenD (eQ e xs) = some (xs.length : Int) := by unfold eQ; simp
theorem lenT (xs : List α) : lenD (eT e xs) = some (xs.length : Int) := by unfold eT; simp
theorem truL (xs : List α) : truD (eL o e xs) = some (!xs.isEmpty) := by
  show some (!(xs.map e).isEmpty) = _
  rw [List.isEmpty_map]
theorem truQ' (xs : List α) : truD (eQ e xs) = some (!xs.isEmpty) := by
  show some (!(xs.map e).isEmpty) = _
  rw [List.isEmpty_map]
theorem truT (xs : List α) : truD (eT e xs) = some (!xs.isEmpty) := by
  show some (!(xs.map e).isEmpty) = _
  rw [List.isEmpty_map]
theorem pushE {xs ys : List α} {a : α} (h : pushO xs a = some ys) : D.lst true (xs.map e ++ [e a]) = eL true e ys := by
  unfold pushO at h
  split at h
  · cases h
    unfold eL; rw [List.map_append]; rfl
  · cases h
theorem push_lt {xs ys : List α} {a : α} (h : pushO xs a = some ys) : (xs.map e).length < sizeLine := by
  unfold pushO at h
  split at h
  · rw [List.length_map]; assumption
  · cases h
theorem cutE (xs : List α) (lo hi : Option Int) : D.lst true (cutL (xs.map e) lo hi) = eL true e (cutL xs lo hi) := by rw [cut_map]; rfl
theorem cut_fz (h : Fz e e) (xs : List α) (lo hi : Option Int) : frzL (cutL (xs.map e) lo hi) = cutL (xs.map e) lo hi := by rw [cut_map, frzL_e h]
theorem revE (xs : List α) : D.lst true (xs.map e).reverse = eL true e xs.reverse := by rw [← List.map_reverse]; rfl
theorem mapE (xs : List α) : D.lst o (xs.map e) = eL o e xs := rfl
theorem catE {xs ys zs : List α} (h : catO xs ys = some zs) : D.lst true (xs.map e ++ ys.map e) = eL true e zs := by
  unfold catO at h
  split at h
  · cases h
    unfold eL; rw [List.map_append]
  · cases h
theorem cat_le {xs ys zs : List α} (h : catO xs ys = some zs) : (xs.map e).length + (ys.map e).length ≤ sizeLine := by
  unfold catO at h
  split at h
  · rw [List.length_map, List.length_map]; assumption
  · cases h
theorem x_cat {o o' : Bool} {xs ys zs : List α} {Q : D → Prop} (h : catO xs ys = some zs) (he : Fz e e) (q : Q (D.lst true (xs.map e ++ ys.map e))) : rCatT (eL o e xs) (eL o' e ys) Q :=
  ⟨o, _, o', _, rfl, rfl, frzL_e he _, frzL_e he _, cat_le h, q⟩
theorem x_rep {xs zs : List α} {k : Int} {Q : D → Prop} (h : repO xs k = some zs) (he : Fz e e) (q : Q (D.lst true (List.replicate k.toNat (xs.map e)).flatten)) : rRepT (eL true e xs) (.int k) Q := by
  unfold repO at h
  split at h
  · rename_i hc
    exact ⟨_, _, rfl, rfl, frzL_e he _, hc.1, hc.2.1, by rw [List.length_map]; exact hc.2.2, q⟩
  · cases h
theorem repE {xs zs : List α} {k : Int} (h : repO xs k = some zs) : D.lst true (List.replicate k.toNat (xs.map e)).flatten = eL true e zs := by
  unfold repO at h
  split at h
  · cases h
    unfold eL
    rw [List.map_flatten, List.map_replicate]
  · cases h
theorem repBE (xs : List α) (k : Bool) : D.lst true (if k = true then xs.map e else []) = eL true e (repB xs k) := by
  unfold repB eL
  cases k <;> rfl
theorem setOE {xs ys : List α} {n : Int} {a : α} (h : setO xs n a = some ys) : ∃ j, ixN (xs.map e).length n = some j ∧ D.lst true ((xs.map e).set j (e a)) = eL true e ys := by
  unfold setO at h
  cases q : ixN xs.length n with
  | none => rw [q] at h; cases h
  | some j =>
    rw [q] at h
    cases h
    refine ⟨j, by rw [List.length_map]; exact q, ?_⟩
    unfold eL; rw [List.map_set]
theorem rngE {j : Int} {xs : List Int} (h : rng1 j = some xs) : rgD 0 j.toNat = xs.map D.int := by
  unfold rng1 at h
  split at h
  · cases h; exact rgD_I _ _
  · cases h
theorem rng_ok {j : Int} {xs : List Int} (h : rng1 j = some xs) : -(2 ^ 62) ≤ j ∧ j < 2 ^ 62 := by
  unfold rng1 at h
  split at h
  · assumption
  · cases h
theorem rng2E {i j : Int} {xs : List Int} (h : rng2 i j = some xs) : rgD i (j - i).toNat = xs.map D.int := by
  unfold rng2 at h
  split at h
  · cases h; exact rgD_I _ _
  · cases h
theorem rng2_ok {i j : Int} {xs : List Int} (h : rng2 i j = some xs) : -(2 ^ 62) ≤ i ∧ i < 2 ^ 62 ∧ -(2 ^ 62) ≤ j ∧ j < 2 ^ 62 := by
  unfold rng2 at h
  split at h
  · assumption
  · cases h
theorem lrgE {i j : Int} {xs : List Int} (h : lrg i j = some xs) : D.lst true (rgD i (j - i).toNat) = eL true D.int xs := by
  unfold lrg at h
  split at h
  · cases h; rw [rgD_I]; rfl
  · cases h
theorem lrg_ok {i j : Int} {xs : List Int} (h : lrg i j = some xs) : RgOk i j := by
  unfold lrg at h
  split at h
  · assumption
  · cases h
theorem isNonO (hn : ∀ a, isNon (e a) = false) (x : Option α) : isNon (eO e x) = x.isNone := by
  cases x with
  | none => rfl
  | some a => exact hn a
theorem isSomeO (hn : ∀ a, isNon (e a) = false) (x : Option α) : (!isNon (eO e x)) = x.isSome := by
  cases x with
  | none => rfl
  | some a => show (!isNon (e a)) = _; rw [hn]; rfl
end
section
variable {α : Type} [DecidableEq α] {e : α → D} {k : Nat}
theorem Cmp.eqD (h : Cmp e k) (neg : Bool) (a b : α) : D.bl (if neg = true then !PyData.eqv (e a).py (e b).py else PyData.eqv (e a).py (e b).py) = .bl (if neg = true then !decide (a = b) else decide (a = b)) := by rw [h.eqv]
/-- one a list's data, owned or not -/
theorem eqL_py (o o' : Bool) (xs : List α) : (eL o e xs).py = (eL o' e xs).py := by unfold eL; rw [py_lst, py_lst]
theorem Cmp.eqv' (h : Cmp e k) {d d' : D} {a b : α} (h1 : d.py = (e a).py) (h2 : d'.py = (e b).py) (neg : Bool) : D.bl (if neg = true then !PyData.eqv d.py d'.py else PyData.eqv d.py d'.py) = .bl (if neg = true then !decide (a = b) else decide (a = b)) := by rw [h1, h2, h.eqv]
theorem Cmp.inD (h : Cmp e k) (neg : Bool) (a : α) (xs : List α) : D.bl (if neg = true then !(xs.map e).any fun z => PyData.eqv z.py (e a).py else (xs.map e).any fun z => PyData.eqv z.py (e a).py) = .bl (if neg = true then !decide (a ∈ xs) else decide (a ∈ xs)) := by rw [h.anyL]
end
end TT
namespace TT
open PySem PySem.Spec PyProof.Rows L2
section
variable {X : Cx} {a b c : Expr} {Ma Mb Mc Ra Rb Rc : List Nat} {ta tb tc : TX} {pos : Pos} {rt rt' : D → D → (D → Prop) → Prop} {op op' : CmpOp}
theorem x_chain2 (ho : OpT X (compareOp op) rt) (ho' : OpT X (compareOp op') rt') (ha : XX X a Ma Ra ta) (hb : XX X b Mb Rb tb) (hc : XX X c Mc Rc tc) (dj : Dj Ra Mb = true := by rfl) (dj2 : Dj Rb Mc = true := by rfl)
    (hm : lastMarks [op, op'] [b, c] = false := by with_unfolding_all rfl) : XX X (.Compare a [op, op'] [b, c] pos) (Ma ++ Mb ++ Mc) [] (oChain2 rt rt' ta tb tc) := x_chain ho ho' ha hb hc dj dj2 hm
theorem xt_chain2 (ho : OpT X (compareOp op) rt) (ho' : OpT X (compareOp op') rt') (ha : XX X a Ma Ra ta) (hb : XX X b Mb Rb tb) (hc : XX X c Mc Rc tc) (dj : Dj Ra Mb = true := by rfl) (dj2 : Dj Rb Mc = true := by rfl)
    (hm : lastMarks [op, op'] [b, c] = false := by with_unfolding_all rfl) : XT X (.Compare a [op, op'] [b, c] pos) (Ma ++ Mb ++ Mc) (tBl (oChain2 rt rt' ta tb tc)) := xt_chain ho ho' ha hb hc dj dj2 hm
end
end TT
namespace TT
open PySem PySem.Spec PyProof.Rows L2
/-- a name's thing frozen in place: nothing runs for it -/
theorem SR.frzAt {K : PySem.W.Frag} {σ : L2.St} {S : W} {i : Nat} {d : D} (s : SR K σ S) (e1 : S.env[i]? = some (some d)) :
    SR K σ ⟨frzZ S.Z S.H (S.F i), S.H, S.env.set i (some d.frz), dropF S.F i⟩ ∧ Stp [i] S ⟨frzZ S.Z S.H (S.F i), S.H, S.env.set i (some d.frz), dropF S.F i⟩ := by
  obtain ⟨v, h1, r⟩ := s.sl i d e1
  have x := ext_frz (s.tr i)
  have rf : ∀ G, Rep K (frzZ S.Z S.H (S.F i)) S.H v d.frz G := fun G => r.frzz (s.tr i)
  constructor
  · refine s.go x (frzZ_zh s.zh) (fun j => ?_) (fun j k a g1 g2 => s.ap j k a g1.2 g2.2) (by rw [List.length_set]; exact s.ln)
    by_cases hj : j = i
    · subst hj
      refine .inr ⟨fun d' e => ?_, fun a h => absurd rfl h.1⟩
      have hl : j < S.env.length := (List.getElem?_eq_some_iff.mp e1).1
      rw [List.getElem?_set_self hl] at e
      cases e
      exact ⟨v, h1, rf _⟩
    · exact .inl ⟨by rw [List.getElem?_set_ne (Ne.symm hj)], rfl, dropF_ne hj, fun a h z => hj (s.ap j i a h z)⟩
  · refine ⟨x.mono fun a h => ⟨i, by simp, h⟩, fun j hj => ?_, fun j a hj h => absurd h.1 (by simpa using hj)⟩
    have hj' : j ≠ i := by simpa using hj
    exact ⟨by rw [List.getElem?_set_ne (Ne.symm hj')], dropF_ne hj'⟩
def sFz (i : Nat) (t : TXS) : TXS := fun D env => t { D with nx := fun e => ∃ d d', e[i]? = some (some d) ∧ d.frz = d' ∧ D.nx (e.set i (some d')) } env
theorem s_fz {X : Cx} {st : Stmt} {A : List Nat} {t : TXS} {i : Nat} (h : XS X st A t) : XS X st A (sFz i t) := ⟨ps_imp h.ps fun D σ H ⟨S, Dt, eH, s, q, k1, k2, k3, k4⟩ => by
  refine ⟨S, { Dt with nx := fun e => ∃ d d', e[i]? = some (some d) ∧ d.frz = d' ∧ Dt.nx (e.set i (some d')) }, eH, s, q, fun σ' S' ⟨d, d', h1, h2, q1⟩ s1 st1 => ?_, k2, k3, k4⟩
  subst h2
  obtain ⟨s2, st2⟩ := s1.frzAt h1
  exact k1 σ' ⟨frzZ S'.Z S'.H (S'.F i), S'.H, S'.env.set i (some d.frz), dropF S'.F i⟩ q1 s2 ((st1.trans (st2.s (A := A))).mono fun j hj => (List.mem_append.mp hj).elim id id)⟩
end TT

/-! N2: answers, as they are printed -/
namespace TT
open PySem PySem.Spec PyProof.Rows L2
section
variable {α β γ σ ρ : Type} {R : σ → Env → Prop} {K Kb : Env → Prop} {Kr : ρ → Prop} {env : Env} {s : σ} {r : ρ}
theorem nxK (H : Wp (some s) (fun s1 => ∀ env', R s1 env' → K env')) (h : R s env) : K env := wpSome H env h
theorem goK (H : Wp (some (Flow.go s)) (FlowK R K Kb Kr)) (h : R s env) : K env := (wpSome H : ∀ env, R s env → K env) env h
theorem brkK (H : Wp (some (Flow.brk s)) (FlowK R K Kb Kr)) (h : R s env) : Kb env := (wpSome H : ∀ env, R s env → Kb env) env h
theorem retK (H : Wp (some (Flow.ret r)) (FlowK R K Kb Kr)) : Kr r := wpSome (K := FlowK R K Kb Kr) H
theorem valK {Q' : D → Env → Prop} {e : α → D} {v z : α} (H : Wp (some v) (fun x => x = z)) (J : Q' (e z) env) : Q' (e v) env := by
  have h : v = z := wpSome (K := fun x => x = z) H
  rw [h]; exact J
theorem valB {Q' : Bool → Env → Prop} {v z : Bool} (H : Wp (some v) (fun x => x = z)) (J : Q' z env) : Q' v env := by
  have h : v = z := wpSome (K := fun x => x = z) H
  rw [h]; exact J
theorem valS {Q' : D → Env → Prop} {e : α → D} {v : α} (H : Wp (some (v, s)) (fun u => ∀ env', R u.2 env' → Q' (e u.1) env')) (h : R s env) : Q' (e v) env := wpSome H env h
theorem valT {Q' : Bool → Env → Prop} {v : Bool} (H : Wp (some (v, s)) (fun u => ∀ env', R u.2 env' → Q' u.1 env')) (h : R s env) : Q' v env := wpSome H env h
theorem iteYes {b : Bool} {A B : Prop} (h : b = true) (k : A) : if b = true then A else B := by rw [if_pos h]; exact k
theorem iteNo {b : Bool} {A B : Prop} (h : b = false) (k : B) : if b = true then A else B := by rw [h, if_neg (by decide)]; exact k
/-! loops again, as they are printed -/
theorem loopF_brk {step : α → σ → Option (Flow ρ σ)} : ∀ {xs : List α} {s s' : σ}, loopF step xs s ≠ some (.brk s')
  | [], _, _ => fun h => by cases h
  | x :: xs, s, s' => fun h => by
    rw [loopF] at h
    cases q : step x s with
    | none => rw [q] at h; cases h
    | some f =>
      rw [q] at h
      cases f with
      | go s1 => exact loopF_brk h
      | brk s1 => cases h
      | ret r => cases h
theorem p_forF {step : α → σ → Option (Flow ρ σ)} {e : α → D} {gi : TXG} {tb : TXS} {D0 : TEnds} {fl : Flow ρ σ} {xs : List α} {s : σ} {items : List D} {env : Env} (R : σ → Env → Prop) (hi : items = xs.map e) (hl : loopF step xs s = some fl) (h0 : R s env)
    (hd : ∀ s, fl = .go s → ∀ env', R s env' → D0.nx env') (ht : ∀ (a : α) (s : σ) (env : Env) (K : Env → Prop), R s env → Wp (step a s) (FlowK R K D0.nx fun r => fl = .ret r) → gi (e a) env fun env1 => tb { nx := K, rt := D0.rt, bk := D0.nx, ct := K } env1) : forL gi tb D0 items env := by
  refine g_forF (fl := fl) R (fun _ => True) ?_ hi hl h0 ht
  cases fl with
  | go s => exact hd s rfl
  | brk s' => exact absurd hl loopF_brk
  | ret r => trivial
theorem whl_brk {step : σ → Option (Flow ρ σ)} : ∀ {n : Nat} {s s' : σ}, whl step n s ≠ some (.brk s')
  | 0, _, _ => fun h => by cases h
  | n + 1, s, s' => fun h => by
    rw [whl] at h
    cases q : step s with
    | none => rw [q] at h; cases h
    | some f =>
      rw [q] at h
      cases f with
      | go s1 => exact whl_brk h
      | brk s1 => cases h
      | ret r => cases h
theorem p_while {step : σ → Option (Flow ρ σ)} {c : TXT} {tb : TXS} {D0 : TEnds} {fl : Flow ρ σ} {s : σ} {env : Env} (R : σ → Env → Prop) (hl : whileO step s = some fl) (h0 : R s env) (hd : ∀ s, fl = .go s → ∀ env', R s env' → D0.nx env')
    (ht : ∀ (s : σ) (env : Env) (K : Env → Prop), R s env → Wp (step s) (FlowK R K D0.nx fun r => fl = .ret r) → c env fun b env1 => if b = true then tb { nx := K, rt := D0.rt, bk := D0.nx, ct := K } env1 else D0.nx env1) : sWhile c tb D0 env := by
  refine g_while (fl := fl) R (fun _ => True) ?_ hl h0 ht
  cases fl with
  | go s => exact hd s rfl
  | brk s' =>
    obtain ⟨n, hn⟩ := whileO_fuel hl
    exact absurd hn whl_brk
  | ret r => trivial
/-! values that a condition makes, with names changed: by a function -/
theorem k_andE {b : Bool} {c : TXT} {QB : Bool → Env → Prop} {z : Bool × σ} {m : Option (Bool × σ)} {s0 : σ} (en : σ → Env) (ht : (if b = true then m else some (false, s0)) = some z) (h0 : env = en s0) (J : QB z.1 (en z.2)) (h : b = true → ∀ Q' : Bool → Env → Prop, Wp m (fun u => ∀ env', env' = en u.2 → Q' u.1 env') → c env Q') : cAnd b c env QB :=
  k_andS (fun s e => e = en s) ht h0 (fun _ hE => hE ▸ J) h
theorem k_orE {b : Bool} {c : TXT} {QB : Bool → Env → Prop} {z : Bool × σ} {m : Option (Bool × σ)} {s0 : σ} (en : σ → Env) (ht : (if b = true then some (true, s0) else m) = some z) (h0 : env = en s0) (J : QB z.1 (en z.2)) (h : b = false → ∀ Q' : Bool → Env → Prop, Wp m (fun u => ∀ env', env' = en u.2 → Q' u.1 env') → c env Q') : cOr b c env QB :=
  k_orS (fun s e => e = en s) ht h0 (fun _ hE => hE ▸ J) h
theorem k_andVE {b : Bool} {u : TX} {Q : D → Env → Prop} {z : Bool × σ} {m : Option (Bool × σ)} {s0 : σ} (en : σ → Env) (ht : (if b = true then m else some (false, s0)) = some z) (h0 : env = en s0) (J : Q (.bl z.1) (en z.2)) (h : b = true → ∀ Q' : D → Env → Prop, Wp m (fun u => ∀ env', env' = en u.2 → Q' (.bl u.1) env') → u env Q') : cAndV b u env Q :=
  k_andVS (fun s e => e = en s) ht h0 (fun _ hE => hE ▸ J) h
theorem k_orVE {b : Bool} {u : TX} {Q : D → Env → Prop} {z : Bool × σ} {m : Option (Bool × σ)} {s0 : σ} (en : σ → Env) (ht : (if b = true then some (true, s0) else m) = some z) (h0 : env = en s0) (J : Q (.bl z.1) (en z.2)) (h : b = false → ∀ Q' : D → Env → Prop, Wp m (fun u => ∀ env', env' = en u.2 → Q' (.bl u.1) env') → u env Q') : cOrV b u env Q :=
  k_orVS (fun s e => e = en s) ht h0 (fun _ hE => hE ▸ J) h
theorem k_ifE {b : Bool} {ta tb : TX} {Q : D → Env → Prop} {e : α → D} {x y : Option (α × σ)} {z : α × σ} (en : σ → Env) (hz : (if b = true then x else y) = some z) (J : Q (e z.1) (en z.2)) (h1 : b = true → ∀ Q' : D → Env → Prop, Wp x (fun u => ∀ env', env' = en u.2 → Q' (e u.1) env') → ta env Q') (h2 : b = false → ∀ Q' : D → Env → Prop, Wp y (fun u => ∀ env', env' = en u.2 → Q' (e u.1) env') → tb env Q') : cIf b ta tb env Q :=
  k_ifS (fun s e => e = en s) hz (fun _ hE => hE ▸ J) h1 h2
theorem vtS {en : σ → Env} {Q' : D → Env → Prop} {e : α → D} {v : α} (H : Wp (some (v, s)) (fun u => ∀ env', env' = en u.2 → Q' (e u.1) env')) (h : env = en s) : Q' (e v) env := wpSome H env h
theorem vtT {en : σ → Env} {Q' : Bool → Env → Prop} {v : Bool} (H : Wp (some (v, s)) (fun u => ∀ env', env' = en u.2 → Q' u.1 env')) (h : env = en s) : Q' v env := wpSome H env h
end
/-! sequences of any kind -/
structure SeqE {α : Type} (q : List α → D) (e : α → D) : Prop where
  len : ∀ xs, lenD (q xs) = some (xs.length : Int)
  at_ : ∀ {xs : List α} {i : Int} {a : α}, atI xs i = some a → getIx (q xs) (.int i) = some (e a)
  fz : Fz q q
section
variable {α β γ δ : Type} {e e' : α → D} {f f' : β → D}
theorem seL (h : Fz e e) : SeqE (eL false e) e := ⟨fun _ => lenL _, fun h => atL h, fzL h⟩
theorem seT (h : Fz e e) : SeqE (eT e) e := ⟨fun _ => lenT _, fun h => atT h, fzT h⟩
theorem seQ (h : Fz e e) : SeqE (eQ e) e := ⟨fun _ => lenQ _, fun h => atQ h, fzQ h⟩
theorem pyL_mp (xs : List α) : pyL (xs.map e) = xs.map fun a => (e a).py := by
  induction xs with
  | nil => rw [List.map_nil, pyL]; rfl
  | cons x xs ih => rw [List.map_cons, pyL, ih]; rfl
theorem pyLL {o o' : Bool} (h : ∀ a, (e a).py = (e' a).py) (xs : List α) : (eL o e xs).py = (eL o' e' xs).py := by unfold eL; rw [py_lst, py_lst, pyL_mp, pyL_mp]; exact congrArg _ (List.map_congr_left fun a _ => h a)
theorem py_kst (xs : List D) : (D.kst xs).py = .list (pyL xs) := by rw [D.py]
theorem pyQL {o' : Bool} (h : ∀ a, (e a).py = (e' a).py) (xs : List α) : (eQ e xs).py = (eL o' e' xs).py := by unfold eL eQ; rw [py_lst, py_kst, pyL_mp, pyL_mp]; exact congrArg _ (List.map_congr_left fun a _ => h a)
theorem pyT (h : ∀ a, (e a).py = (e' a).py) (xs : List α) : (eT e xs).py = (eT e' xs).py := by unfold eT; rw [py_tup, py_tup, pyL_mp, pyL_mp]; exact congrArg _ (List.map_congr_left fun a _ => h a)
theorem py2 (h : ∀ a, (e a).py = (e' a).py) (h2 : ∀ a, (f a).py = (f' a).py) (p : α × β) : (e2 e f p).py = (e2 e' f' p).py := by unfold e2; rw [py_tup, py_tup]; simp [pyL, h, h2]
theorem ix2_0 (p : α × β) : getIx (e2 e f p) (.int 0) = some (e p.1) := rfl
theorem ix2_1 (p : α × β) : getIx (e2 e f p) (.int 1) = some (f p.2) := rfl
theorem ix3_0 {g : γ → D} (p : α × β × γ) : getIx (e3 e f g p) (.int 0) = some (e p.1) := rfl
theorem ix3_1 {g : γ → D} (p : α × β × γ) : getIx (e3 e f g p) (.int 1) = some (f p.2.1) := rfl
theorem ix3_2 {g : γ → D} (p : α × β × γ) : getIx (e3 e f g p) (.int 2) = some (g p.2.2) := rfl
theorem hasK' {o : Bool} (kvs : List (Int × α)) (k : Int) : dget (eK o e kvs) (.int k) = some ((dGet kvs k).map e) := by
  show some (lookK (kvs.map fun p => (Sum.inl p.1, e p.2)) (Sum.inl k : Key)) = _
  rw [lookK_e (g := Sum.inl) inlI]
theorem hasS (kvs : List (Int × α)) (k : Int) : D.bl ((dGet kvs k).map e).isSome = .bl (dHas kvs k) := by
  unfold dHas
  cases dGet kvs k <;> rfl
theorem hasN (kvs : List (Int × α)) (k : Int) : D.bl (!((dGet kvs k).map e).isSome) = .bl (!dHas kvs k) := by
  unfold dHas
  cases dGet kvs k <;> rfl
end
section
variable {α : Type} [DecidableEq α] {e : α → D} {k : Nat}
theorem Cmp.eqF (h : Cmp e k) {d d' : D} {a b : α} (h1 : d.py = (e a).py) (h2 : d'.py = (e b).py) : D.bl (PyData.eqv d.py d'.py) = .bl (decide (a = b)) := by rw [h1, h2, h.eqv]
theorem Cmp.eqN (h : Cmp e k) {d d' : D} {a b : α} (h1 : d.py = (e a).py) (h2 : d'.py = (e b).py) : D.bl (!PyData.eqv d.py d'.py) = .bl (!decide (a = b)) := by rw [h1, h2, h.eqv]
theorem Cmp.inF (h : Cmp e k) (a : α) (xs : List α) : D.bl ((xs.map e).any fun z => PyData.eqv z.py (e a).py) = .bl (decide (a ∈ xs)) := by rw [h.anyL]
theorem Cmp.inN (h : Cmp e k) (a : α) (xs : List α) : D.bl (!(xs.map e).any fun z => PyData.eqv z.py (e a).py) = .bl (!decide (a ∈ xs)) := by rw [h.anyL]
theorem cmpN : Cmp eN 0 := by
  have pn : D.non.py = .none := by rw [D.py]
  refine ⟨fun a => ?_, fun a => ?_, fun a => ?_, fun a b => ?_⟩
  · show D.non.pyok = true; rw [D.pyok] <;> intros <;> contradiction
  · show D.non.py.canLay0 = true; rw [pn]; simp only [PyData.canLay0]
  · show D.non.py.depth ≤ _; rw [pn]; simp only [PyData.depth]; omega
  · show PyData.eqv D.non.py D.non.py = _; rw [pn]; simp [PyData.eqv]
end
theorem min_raw (a b : Int) : D.int (if b < a then b else a) = .int (min a b) := by
  congr 1
  by_cases h : b < a
  · rw [if_pos h, Int.min_eq_right (by omega)]
  · rw [if_neg h, Int.min_eq_left (by omega)]
theorem max_raw (a b : Int) : D.int (if b > a then b else a) = .int (max a b) := by
  congr 1
  by_cases h : b > a
  · rw [if_pos h, Int.max_eq_right (by omega)]
  · rw [if_neg h, Int.max_eq_left (by omega)]
def b2i (b : Bool) : Int := if b = true then 1 else 0
theorem rep_ok {α : Type} {e : α → D} {xs zs : List α} {k : Int} (h : repO xs k = some zs) : -(2 ^ 63) ≤ k ∧ k < 2 ^ 63 ∧ (xs.map e).length * k.toNat ≤ sizeLine := by
  unfold repO at h
  split at h
  · rename_i hc; rw [List.length_map]; exact hc
  · cases h
theorem frzL_m {α : Type} {e : α → D} (h : Fz e e) (xs : List α) : frzL (xs.map e) = xs.map e := frzL_e h xs
theorem mul_c {a b c : Int} (h : mulO a b = some c) : CMul a b ∧ c = a * b := by
  unfold mulO at h
  split at h
  · rename_i hc; cases h; exact ⟨hc, rfl⟩
  · cases h
theorem mulW_c {a b c : Int} (h : mulW a b = some c) : CMulW a b ∧ c = a * b := by
  unfold mulW at h
  split at h
  · rename_i hc; cases h; exact ⟨hc, rfl⟩
  · cases h
theorem fdiv_c {a b c : Int} (h : fdivO a b = some c) : CDiv a b ∧ c = a / b := by
  unfold fdivO at h
  split at h
  · rename_i hc; cases h; exact ⟨hc, rfl⟩
  · cases h
theorem mod_c {a b c : Int} (h : modO a b = some c) : 0 < b ∧ c = a % b := by
  unfold modO at h
  split at h
  · rename_i hc; cases h; exact ⟨hc, rfl⟩
  · cases h
theorem pow_c {a b c : Int} (h : powO a b = some c) : CPowW a b ∧ c = a ^ b.toNat := by
  unfold powO at h
  split at h
  · rename_i hc; cases h; exact ⟨hc, rfl⟩
  · cases h
end TT
namespace TT
open PySem PySem.Spec PyProof.Rows L2
section
variable {α β : Type}
/-- None, or a thing -/
def optE (x : Option α) (n : β) (f : α → β) : β := match x with
  | none => n
  | some a => f a
@[simp] theorem optE_none (n : β) (f : α → β) : optE none n f = n := rfl
@[simp] theorem optE_some (a : α) (n : β) (f : α → β) : optE (some a) n f = f a := rfl
theorem k_isN {x : Option α} {m1 : Option β} {m2 : α → Option β} {z : β} {e : β → D} {ta tb : TX} {b : Bool} {env : Env} {Q : D → Env → Prop} (hb : b = x.isNone) (hz : optE x m1 m2 = some z) (J : Q (e z) env) (h1 : ∀ Q' : D → Env → Prop, Q' (e z) env → Wp m1 (fun u => u = z) → ta env Q') (h2 : ∀ a, x = some a → ∀ Q' : D → Env → Prop, Q' (e z) env → Wp (m2 a) (fun u => u = z) → tb env Q') : cIf b ta tb env Q := by
  subst hb
  cases x with
  | none => exact h1 Q J (wpOf hz)
  | some a => exact h2 a rfl Q J (wpOf hz)
theorem k_isS {x : Option α} {m1 : Option β} {m2 : α → Option β} {z : β} {e : β → D} {ta tb : TX} {b : Bool} {env : Env} {Q : D → Env → Prop} (hb : b = x.isSome) (hz : optE x m1 m2 = some z) (J : Q (e z) env) (h1 : ∀ Q' : D → Env → Prop, Q' (e z) env → Wp m1 (fun u => u = z) → tb env Q') (h2 : ∀ a, x = some a → ∀ Q' : D → Env → Prop, Q' (e z) env → Wp (m2 a) (fun u => u = z) → ta env Q') : cIf b ta tb env Q := by
  subst hb
  cases x with
  | none => exact h1 Q J (wpOf hz)
  | some a => exact h2 a rfl Q J (wpOf hz)
theorem top_none {up : Bool} : topO up [] = none := by cases up <;> rfl
theorem topDfI {up : Bool} {ns : List Int} {z : Int} {Q : D → Prop} (q : Q (.int ((topO up ns).getD z))) : ∀ m, (ns = [] ∧ m = D.int z ∨ ∃ i, m = .int i ∧ i ∈ ns ∧ ∀ y, y ∈ ns → if up = true then y ≤ i else i ≤ y) → Q m := by
  rintro m (⟨rfl, rfl⟩ | ⟨i, rfl, h1, h2⟩)
  · rw [top_none] at q; exact q
  · rw [top_of h1 h2] at q; exact q
theorem topDfN {up : Bool} {ns : List Int} {Q : D → Prop} (q : Q (eO D.int (topO up ns))) : ∀ m, (ns = [] ∧ m = D.non ∨ ∃ i, m = .int i ∧ i ∈ ns ∧ ∀ y, y ∈ ns → if up = true then y ≤ i else i ≤ y) → Q m := by
  rintro m (⟨rfl, rfl⟩ | ⟨i, rfl, h1, h2⟩)
  · rw [top_none] at q; exact q
  · rw [top_of h1 h2] at q; exact q
def sumLO (xss : List (List α)) : Option (List α) := if xss.flatten.length ≤ sizeLine then some xss.flatten else none
variable {e : α → D}
theorem flat_map (xss : List (List α)) : (xss.map (List.map e)).flatten = xss.flatten.map e := by rw [List.map_flatten]
theorem sumL_it {o : Bool} (xss : List (List α)) : eL o (eL false e) xss = .lst o ((xss.map (List.map e)).map fun xs => D.lst false xs) := by unfold eL; rw [List.map_map]; rfl
theorem sumL_fz (h : Fz e e) (xss : List (List α)) : ∀ xs ∈ xss.map (List.map e), frzL xs = xs := by
  intro xs hx
  obtain ⟨ys, _, rfl⟩ := List.mem_map.mp hx
  exact frzL_e h ys
theorem sumL_le {xss : List (List α)} {zs : List α} (h : sumLO xss = some zs) : (xss.map (List.map e)).flatten.length ≤ sizeLine := by
  unfold sumLO at h
  split at h
  · rw [flat_map, List.length_map]; assumption
  · cases h
theorem sumL_e {xss : List (List α)} {zs : List α} (h : sumLO xss = some zs) : D.lst true (xss.map (List.map e)).flatten = eL true e zs := by
  unfold sumLO at h
  split at h
  · cases h; rw [flat_map]; rfl
  · cases h
def popO (xs : List α) (i : Int) : Option (α × List α) := if -(2 ^ 63) ≤ i ∧ i < 2 ^ 63 then (ixN xs.length i).bind fun j => xs[j]?.bind fun y => some (y, xs.eraseIdx j) else none
theorem pop_lo {xs ys : List α} {i : Int} {y : α} (h : popO xs i = some (y, ys)) : -(2 ^ 63) ≤ i := by
  unfold popO at h
  split at h
  · rename_i hc; exact hc.1
  · cases h
theorem pop_hi {xs ys : List α} {i : Int} {y : α} (h : popO xs i = some (y, ys)) : i < 2 ^ 63 := by
  unfold popO at h
  split at h
  · rename_i hc; exact hc.2
  · cases h
theorem map_eraseIdx (f : α → β) : ∀ (xs : List α) (j : Nat), (xs.map f).eraseIdx j = (xs.eraseIdx j).map f
  | [], _ => by simp
  | x :: xs, 0 => by simp
  | x :: xs, j + 1 => by simp [map_eraseIdx f xs j]
theorem popE {xs ys : List α} {i : Int} {y : α} (h : popO xs i = some (y, ys)) : ∃ j, ixN (xs.map e).length i = some j ∧ (xs.map e)[j]? = some (e y) ∧ D.lst true ((xs.map e).eraseIdx j) = eL true e ys := by
  unfold popO at h
  split at h
  · cases q : ixN xs.length i with
    | none => rw [q] at h; cases h
    | some j =>
      rw [q] at h
      cases q2 : xs[j]? with
      | none => simp [q2] at h
      | some z =>
        simp [q2] at h
        obtain ⟨rfl, rfl⟩ := h
        refine ⟨j, by rw [List.length_map]; exact q, by simp [q2], ?_⟩
        rw [map_eraseIdx]; rfl
  · cases h
theorem enum_fz {e' : α → D} (h : Fz e e') (xs : List α) : enumL 0 (frzL (xs.map e)) = (enumI 0 xs).map (e2 D.int e') := by rw [frzL_e h, enumL_e]
theorem cmpD_py [DecidableEq α] {k : Nat} {d : D} {a : α} (h : Cmp e k) (hp : d.py = (e a).py) (ho : d.pyok = true) (hk : k ≤ 64 := by decide) : cmpD d = true := by
  have := h.cmpD hk a
  unfold TT.cmpD at this ⊢
  rw [ho, hp]
  rw [Bool.and_eq_true] at this
  rw [this.2]; rfl
theorem okL {o : Bool} (h : ∀ a, (e a).pyok = true) (xs : List α) : (eL o e xs).pyok = true := by
  unfold eL
  rw [D.pyok, pyokL_all, List.all_map, List.all_eq_true]
  exact fun a _ => h a
theorem okQ (h : ∀ a, (e a).pyok = true) (xs : List α) : (eQ e xs).pyok = true := by
  unfold eQ
  rw [D.pyok, pyokL_all, List.all_map, List.all_eq_true]
  exact fun a _ => h a
theorem okT (h : ∀ a, (e a).pyok = true) (xs : List α) : (eT e xs).pyok = true := by
  unfold eT
  rw [D.pyok, pyokL_all, List.all_map, List.all_eq_true]
  exact fun a _ => h a
theorem ok2 {f : β → D} (h : ∀ a, (e a).pyok = true) (h2 : ∀ a, (f a).pyok = true) (p : α × β) : (e2 e f p).pyok = true := by
  unfold e2
  rw [D.pyok, pyokL_all]; simp [h, h2]
theorem py3 {γ : Type} {e' : α → D} {f f' : β → D} {g g' : γ → D} (h : ∀ a, (e a).py = (e' a).py) (h2 : ∀ a, (f a).py = (f' a).py) (h3 : ∀ a, (g a).py = (g' a).py) (p : α × β × γ) : (e3 e f g p).py = (e3 e' f' g' p).py := by unfold e3; rw [py_tup, py_tup]; simp [pyL, h, h2, h3]
def hGet (kvs : List (Int × α)) (k : Int) : Option α := if (kvs.map (·.1)).Nodup then dGet kvs k else none
def setI (xs : List α) (i : Int) (y : α) : List α := match ixN xs.length i with
  | some j => xs.set j y
  | none => xs
end
end TT
namespace TT
open PySem PySem.Spec PyProof.Rows L2
def guardO (p : Prop) [Decidable p] : Option Unit := if p then some () else none
theorem guard_of {p : Prop} [Decidable p] {u : Unit} (h : guardO p = some u) : p := by
  unfold guardO at h
  split at h
  · assumption
  · cases h
@[simp] theorem guard_pos {p : Prop} [Decidable p] (h : p) : guardO p = some () := by unfold guardO; rw [if_pos h]
theorem wp_guard {α : Type} {p : Prop} [Decidable p] {f : Unit → Option α} {K : α → Prop} (h : p) (k : Wp (f ()) K) : Wp ((guardO p).bind f) K := by rw [guard_pos h]; exact k
instance (i j : Int) : Decidable (CMul i j) := by unfold CMul; infer_instance
instance (i j : Int) : Decidable (CMulW i j) := by unfold CMulW; infer_instance
instance (i j : Int) : Decidable (CDiv i j) := by unfold CDiv; infer_instance
theorem of_gNm {i : Nat} {d : D} {env : Env} {Q : Env → Prop} (h : Q (env.set i (some d))) : gNm i d env Q := h
theorem g_joinI {σ : Type} {D0 : TEnds} {c : TXT} {tA tB v : TXS} {env : Env} {m : Option σ} {s : σ} (R : σ → Env → Prop) (hs : m = some s) (J : ∀ env', R s env' → v D0 env') (h : ∀ K : Env → Prop, Wp m (fun s => ∀ env', R s env' → K env') → sIf c tA tB { D0 with nx := K } env) : sSeq (sIf c tA tB) v D0 env := h (v D0) ⟨s, hs, J⟩
theorem nxI {f b c : Env → Prop} {g : D → Env → Prop} {env : Env} (h : f env) : (TEnds.mk f g b c).nx env := h
theorem p_whileS {ρ σ : Type} {step : σ → Option (Flow ρ σ)} {c : TXT} {tb v : TXS} {D0 : TEnds} {fl : Flow ρ σ} {s : σ} {env : Env} (R : σ → Env → Prop) (hl : whileO step s = some fl) (h0 : R s env) (hd : ∀ s, fl = .go s → ∀ env', R s env' → v D0 env')
    (ht : ∀ (s : σ) (env : Env) (K : Env → Prop), R s env → Wp (step s) (FlowK R K (v D0) fun r => fl = .ret r) → c env fun b env1 => if b = true then tb { nx := K, rt := D0.rt, bk := v D0, ct := K } env1 else v D0 env1) : sSeq (sWhile c tb) v D0 env :=
  p_while (D0 := { D0 with nx := v D0 }) R hl h0 hd ht
end TT

/-! N3: zip of two and of three, lists and tuples -/
namespace TT
open PySem PySem.Spec PyProof.Rows L2
/-- a list (true) or a tuple (false) -/
def SqB (K : PySem.W.Frag) (H : Hp) (a : Addr) (xs : List V) : Bool → Prop
  | true => SqL K H a xs
  | false => SqT K H a xs
def AtB (h : Heap) (a : Addr) (its : Array Value) : Bool → Prop
  | true => h.IsList a its
  | false => h.IsTuple a its
def IB (h : Heap) (it a : Addr) (i : Nat) : Bool → Prop
  | true => h.IsListIter it a i
  | false => h.IsTupleIter it a i
def begB (a : Addr) : Bool → Obj
  | true => { cls := .type "list_iterator", data := .fields #[.ref a, .int 0 0] }
  | false => { cls := .type "tuple_iterator", data := .fields #[.ref a, .int 0 0] }
theorem begB_of (a : Addr) (its : Array Value) : ∀ l : Bool, Begins (.ref a) (begB a l) (fun h => AtB h a its l)
  | true => begins_list a its
  | false => begins_tuple a its
theorem begB_it {h : Heap} {it a : Addr} : ∀ {l : Bool}, h.get? it = some (begB a l) → IB h it a 0 l
  | true, e => ⟨_, e, rfl, rfl⟩
  | false, e => ⟨_, e, rfl, rfl⟩
theorem IB.obj {h : Heap} {it a : Addr} {i : Nat} : ∀ {l : Bool}, IB h it a i l → ∃ u, h.get? it = some u ∧ ∀ v, u.data ≠ .cell v
  | true, ⟨u, e, _, d⟩ => ⟨u, e, fun v z => by rw [d] at z; cases z⟩
  | false, ⟨u, e, _, d⟩ => ⟨u, e, fun v z => by rw [d] at z; cases z⟩
theorem IB.keep {h h' : Heap} {it a : Addr} {i : Nat} (k : ∀ o, h.get? it = some o → h'.get? it = some o) : ∀ {l : Bool}, IB h it a i l → IB h' it a i l
  | true, ⟨u, e, c, d⟩ => ⟨u, k u e, c, d⟩
  | false, ⟨u, e, c, d⟩ => ⟨u, k u e, c, d⟩
theorem drawsB {prog : Program} {w : World} {A : Around} (hh : A.handled = none) (it a : Addr) (ne : a ≠ it) (its : List Value) : ∀ l : Bool, Draws prog w A it [it, a] its.length (fun i v => its[i]? = some v) (fun i h => IB h it a i l ∧ AtB h a its.toArray l)
  | true => by
    have h := Draws.list (prog := prog) (w := w) hh it a ne its.toArray
    simp only [List.size_toArray, List.getElem?_toArray] at h
    exact h
  | false => by
    have h := Draws.tuple (prog := prog) (w := w) hh it a ne its.toArray
    simp only [List.size_toArray, List.getElem?_toArray] at h
    exact h
theorem seqB {X : Cx} {pins : List (Addr × Obj)} {σ : L2.St} {H : Hp} {s : Shared} {a : Addr} {xs : List V} (I : L2.Inv X pins σ H s) : ∀ {l : Bool}, SqB X.K H a xs l → ∃ its, Vals xs its ∧ AtB s.heap a its.toArray l ∧ a < s.heap.objs.size
  | true, q => by
    obtain ⟨its, rv, p, _⟩ := I.list q
    exact ⟨its, rv, p.isList, p.lt⟩
  | false, q => by
    obtain ⟨its, rv, p, _⟩ := I.tuple q
    obtain ⟨u, hu, _⟩ := id p
    exact ⟨its, rv, p, Heap.lt_size hu⟩
/-! two -/
def It2 (K : PySem.W.Frag) (a b : Addr) (xs ys : List V) (la lb : Bool) : It :=
  ⟨fun i H => SqB K H a xs la ∧ SqB K H b ys lb ∧ i < xs.length ∧ i < ys.length, fun i H v H' => ∃ T x y, v = .ref T ∧ H T = none ∧ H' = upd H T (.tup [x, y]) ∧ xs[i]? = some x ∧ ys[i]? = some y,
   fun i H => SqB K H a xs la ∧ SqB K H b ys lb ∧ (xs.length ≤ i ∨ ys.length ≤ i)⟩
def It3 (K : PySem.W.Frag) (a b c : Addr) (xs ys zs : List V) (la lb lc : Bool) : It :=
  ⟨fun i H => SqB K H a xs la ∧ SqB K H b ys lb ∧ SqB K H c zs lc ∧ i < xs.length ∧ i < ys.length ∧ i < zs.length, fun i H v H' => ∃ T x y z, v = .ref T ∧ H T = none ∧ H' = upd H T (.tup [x, y, z]) ∧ xs[i]? = some x ∧ ys[i]? = some y ∧ zs[i]? = some z,
   fun i H => SqB K H a xs la ∧ SqB K H b ys lb ∧ SqB K H c zs lc ∧ (xs.length ≤ i ∨ ys.length ≤ i ∨ zs.length ≤ i)⟩
section
variable {P : Program} {w : World} {K : PySem.W.Frag} {elts : List Expr} {kk : Nat} {tpos : Pos} {a b c z TI TO i1 i2 i3 : Addr} {xs ys zs : List V} {la lb lc : Bool}
theorem turn2 (S : ZipSep2 z TI TO i1 i2 [i1, a] [i2, b]) (na : a ≠ i1) (nb : b ≠ i2) :
    Turn P w K (.Tuple elts kk tpos) (It2 K a b xs ys la lb) [z, TI, TO, i1, i2] z (fun i h => i ≤ xs.length ∧ i ≤ ys.length ∧ IsZip h z TI TO .none ∧ IsTupOf2 h TI (.ref i1) (.ref i2) ∧ (∃ p q, IsTupOf2 h TO p q) ∧ IB h i1 a i la ∧ IB h i2 b i lb) where
  mem := List.mem_cons_self ..
  obj := fun i h ⟨_, _, hz, hI, ⟨p, q, hO⟩, h1, h2⟩ d hd => by
    simp only [List.mem_cons, List.not_mem_nil, or_false] at hd
    rcases hd with rfl | rfl | rfl | rfl | rfl
    · exact ⟨_, hz, fun v e => by cases e⟩
    · exact ⟨_, hI, fun v e => by cases e⟩
    · exact ⟨_, hO, fun v e => by cases e⟩
    · exact h1.obj
    · exact h2.obj
  keep := fun i h h' ⟨l1, l2, hz, hI, ⟨p, q, hO⟩, h1, h2⟩ k =>
    ⟨l1, l2, k _ (by simp) _ hz, k _ (by simp) _ hI, ⟨p, q, k _ (by simp) _ hO⟩, h1.keep fun o e => k _ (by simp) o e, h2.keep fun o e => k _ (by simp) o e⟩
  item := by
    rintro X rfl rfl rfl cm i pins s σ H E I hf ⟨l1, l2, hz, hI, ⟨p, q, hO⟩, h1, h2⟩ ⟨qa, qb, g1, g2⟩
    obtain ⟨us, ra, pa, _⟩ := seqB I qa
    obtain ⟨vs, rb, pb, _⟩ := seqB I qb
    have e1 := ra.length
    have e2 := rb.length
    have zl : z < s.heap.objs.size := Heap.lt_size hz
    have hh : X.A.in1.handled = none := I.ok.hd cm
    refine wpAny_pyNext_zipD2_item S (drawsB hh i1 a na us la) (drawsB hh i2 b nb vs lb) hz hI hO ⟨h1, pa⟩ ⟨h2, pb⟩ (by omega) (by omega) fun u v h' tk hu hv hz' hO' s1 s2 hT hsz kp => ⟨_, rfl, ?_⟩
    refine wpAny_letOwnedTupleGo_zip (s := { s with heap := h', toks := tk }) hz' fun h2' hz2 sb => ?_
    obtain ⟨x, hx⟩ : ∃ x, xs[i]? = some x := ⟨xs[i], List.getElem?_eq_getElem g1⟩
    obtain ⟨y, hy⟩ : ∃ y, ys[i]? = some y := ⟨ys[i], List.getElem?_eq_getElem g2⟩
    obtain ⟨u', hu', rx⟩ := ra.get hx
    obtain ⟨v', hv', ry⟩ := rb.get hy
    have hu : us[i]? = some u := hu
    have hv : vs[i]? = some v := hv
    rw [hu] at hu'
    rw [hv] at hv'
    cases hu'
    cases hv'
    have hT2 : h2'.get? s.heap.objs.size = some { cls := .type "tuple", data := .seq #[u, v] } := (sb.2 _ (Nat.ne_of_gt zl)).trans hT
    have okT : ObjOk X.prog X.w (upd H s.heap.objs.size (.tup [x, y])) h2' s.heap.objs.size (.tup [x, y]) := ⟨Nat.le_of_lt szl.2.2.1, [u, v], .cons rx (.cons ry .nil), ⟨_, hT2, rfl, _, rfl⟩⟩
    have keeps : ∀ d o, d ∉ [z, TI, TO, i1, i2] → s.heap.get? d = some o → h2'.get? d = some o := fun d o nd e => by
      simp only [List.mem_cons, List.not_mem_nil, or_false, not_or] at nd
      exact (sb.2 d nd.1).trans (kp d o nd.1 nd.2.2.1 nd.2.2.2.1 nd.2.2.2.2 e)
    have J := I.turnedNew (t' := tk) (ch := [z, TI, TO, i1, i2]) keeps hf (Nat.le_refl _) okT
    refine ⟨.ref s.heap.objs.size, _, J, rfl, ⟨_, x, y, rfl, I.hok.fresh (Nat.le_refl _), rfl, hx, hy⟩, ⟨g1, g2, hz2, ?_, ⟨u, v, (sb.2 _ S.TOz).trans hO'⟩, s1.1.keep fun o e => (sb.2 _ (S.zi1).symm).trans e, s2.1.keep fun o e => (sb.2 _ (S.zi2).symm).trans e⟩, fun d hd => ?_⟩
    · exact (sb.2 _ S.TIz).trans (kp _ _ S.TIz S.TITO S.TIi1 S.TIi2 hI)
    · have hn : d ≠ s.heap.objs.size := fun e => by
        have hd' := hd
        simp only [List.mem_cons, List.not_mem_nil, or_false] at hd'
        subst e
        obtain ⟨o1', z1, _⟩ := h1.obj
        obtain ⟨o2', z2, _⟩ := h2.obj
        rcases hd' with r | r | r | r | r
        · exact Nat.lt_irrefl _ (r ▸ zl)
        · exact Nat.lt_irrefl _ (r ▸ Heap.lt_size hI)
        · exact Nat.lt_irrefl _ (r ▸ Heap.lt_size hO)
        · exact Nat.lt_irrefl _ (r ▸ Heap.lt_size z1)
        · exact Nat.lt_irrefl _ (r ▸ Heap.lt_size z2)
      rw [upd_ne hn]
      exact (hf d hd).1
  done := by
    rintro X rfl rfl rfl cm i pins s σ H E I hf ⟨l1, l2, hz, hI, ⟨p, q, hO⟩, h1, h2⟩ ⟨qa, qb, g⟩
    obtain ⟨us, ra, pa, _⟩ := seqB I qa
    obtain ⟨vs, rb, pb, _⟩ := seqB I qb
    have e1 := ra.length
    have e2 := rb.length
    have hh : X.A.in1.handled = none := I.ok.hd cm
    refine wpAny_pyNext_zipD2_end S (drawsB hh i1 a na us la) (drawsB hh i2 b nb vs lb) hz hI hO ⟨h1, pa⟩ ⟨h2, pb⟩ (by omega) (by omega) (by omega) fun h' tk kp => ⟨rfl, I.turnedL (t' := tk) (ch := [z, TI, TO, i1, i2]) (fun d o nd e => ?_) hf⟩
    simp only [List.mem_cons, List.not_mem_nil, or_false, not_or] at nd
    exact kp d o nd.1 nd.2.2.1 nd.2.2.2.1 nd.2.2.2.2 e
  self := fun A i s Q E st q => wpAny_pyIter_zip st.2.2.1 q
theorem turn3 (S : ZipSep3 z TI TO i1 i2 i3 [i1, a] [i2, b] [i3, c]) (na : a ≠ i1) (nb : b ≠ i2) (nc : c ≠ i3) :
    Turn P w K (.Tuple elts kk tpos) (It3 K a b c xs ys zs la lb lc) [z, TI, TO, i1, i2, i3] z (fun i h => i ≤ xs.length ∧ i ≤ ys.length ∧ i ≤ zs.length ∧ IsZip h z TI TO .none ∧ IsTupOf3 h TI (.ref i1) (.ref i2) (.ref i3) ∧ (∃ p q r, IsTupOf3 h TO p q r) ∧ IB h i1 a i la ∧ IB h i2 b i lb ∧ IB h i3 c i lc) where
  mem := List.mem_cons_self ..
  obj := fun i h ⟨_, _, _, hz, hI, ⟨p, q, r, hO⟩, h1, h2, h3⟩ d hd => by
    simp only [List.mem_cons, List.not_mem_nil, or_false] at hd
    rcases hd with rfl | rfl | rfl | rfl | rfl | rfl
    · exact ⟨_, hz, fun v e => by cases e⟩
    · exact ⟨_, hI, fun v e => by cases e⟩
    · exact ⟨_, hO, fun v e => by cases e⟩
    · exact h1.obj
    · exact h2.obj
    · exact h3.obj
  keep := fun i h h' ⟨l1, l2, l3, hz, hI, ⟨p, q, r, hO⟩, h1, h2, h3⟩ k =>
    ⟨l1, l2, l3, k _ (by simp) _ hz, k _ (by simp) _ hI, ⟨p, q, r, k _ (by simp) _ hO⟩, h1.keep fun o e => k _ (by simp) o e, h2.keep fun o e => k _ (by simp) o e, h3.keep fun o e => k _ (by simp) o e⟩
  item := by
    rintro X rfl rfl rfl cm i pins s σ H E I hf ⟨l1, l2, l3, hz, hI, ⟨p, q, r, hO⟩, h1, h2, h3⟩ ⟨qa, qb, qc, g1, g2, g3⟩
    obtain ⟨us, ra, pa, _⟩ := seqB I qa
    obtain ⟨vs, rb, pb, _⟩ := seqB I qb
    obtain ⟨ws, rc, pc, _⟩ := seqB I qc
    have e1 := ra.length
    have e2 := rb.length
    have e3 := rc.length
    have zl : z < s.heap.objs.size := Heap.lt_size hz
    have hh : X.A.in1.handled = none := I.ok.hd cm
    refine wpAny_pyNext_zipD3_item S (drawsB hh i1 a na us la) (drawsB hh i2 b nb vs lb) (drawsB hh i3 c nc ws lc) hz hI hO ⟨h1, pa⟩ ⟨h2, pb⟩ ⟨h3, pc⟩ (by omega) (by omega) (by omega) fun u v t h' tk hu hv ht hz' hO' s1 s2 s3 hT hsz kp => ⟨_, rfl, ?_⟩
    refine wpAny_letOwnedTupleGo_zip (s := { s with heap := h', toks := tk }) hz' fun h2' hz2 sb => ?_
    obtain ⟨x, hx⟩ : ∃ x, xs[i]? = some x := ⟨xs[i], List.getElem?_eq_getElem g1⟩
    obtain ⟨y, hy⟩ : ∃ y, ys[i]? = some y := ⟨ys[i], List.getElem?_eq_getElem g2⟩
    obtain ⟨y3, hy3⟩ : ∃ y, zs[i]? = some y := ⟨zs[i], List.getElem?_eq_getElem g3⟩
    obtain ⟨u', hu', rx⟩ := ra.get hx
    obtain ⟨v', hv', ry⟩ := rb.get hy
    obtain ⟨t', ht', rz⟩ := rc.get hy3
    have hu : us[i]? = some u := hu
    have hv : vs[i]? = some v := hv
    have ht : ws[i]? = some t := ht
    rw [hu] at hu'
    rw [hv] at hv'
    rw [ht] at ht'
    cases hu'
    cases hv'
    cases ht'
    have hT2 : h2'.get? s.heap.objs.size = some { cls := .type "tuple", data := .seq #[u, v, t] } := (sb.2 _ (Nat.ne_of_gt zl)).trans hT
    have okT : ObjOk X.prog X.w (upd H s.heap.objs.size (.tup [x, y, y3])) h2' s.heap.objs.size (.tup [x, y, y3]) := ⟨Nat.le_of_lt szl.2.2.2.1, [u, v, t], .cons rx (.cons ry (.cons rz .nil)), ⟨_, hT2, rfl, _, rfl⟩⟩
    have keeps : ∀ d o, d ∉ [z, TI, TO, i1, i2, i3] → s.heap.get? d = some o → h2'.get? d = some o := fun d o nd e => by
      simp only [List.mem_cons, List.not_mem_nil, or_false, not_or] at nd
      exact (sb.2 d nd.1).trans (kp d o nd.1 nd.2.2.1 nd.2.2.2.1 nd.2.2.2.2.1 nd.2.2.2.2.2 e)
    have J := I.turnedNew (t' := tk) (ch := [z, TI, TO, i1, i2, i3]) keeps hf (Nat.le_refl _) okT
    refine ⟨.ref s.heap.objs.size, _, J, rfl, ⟨_, x, y, y3, rfl, I.hok.fresh (Nat.le_refl _), rfl, hx, hy, hy3⟩, ⟨g1, g2, g3, hz2, ?_, ⟨u, v, t, (sb.2 _ S.TOz).trans hO'⟩, s1.1.keep fun o e => (sb.2 _ (S.zi1).symm).trans e, s2.1.keep fun o e => (sb.2 _ (S.zi2).symm).trans e, s3.1.keep fun o e => (sb.2 _ (S.zi3).symm).trans e⟩, fun d hd => ?_⟩
    · exact (sb.2 _ S.TIz).trans (kp _ _ S.TIz S.TITO S.TIi1 S.TIi2 S.TIi3 hI)
    · have hn : d ≠ s.heap.objs.size := fun e => by
        have hd' := hd
        simp only [List.mem_cons, List.not_mem_nil, or_false] at hd'
        subst e
        obtain ⟨o1', z1, _⟩ := h1.obj
        obtain ⟨o2', z2, _⟩ := h2.obj
        obtain ⟨o3', z3, _⟩ := h3.obj
        rcases hd' with r | r | r | r | r | r
        · exact Nat.lt_irrefl _ (r ▸ zl)
        · exact Nat.lt_irrefl _ (r ▸ Heap.lt_size hI)
        · exact Nat.lt_irrefl _ (r ▸ Heap.lt_size hO)
        · exact Nat.lt_irrefl _ (r ▸ Heap.lt_size z1)
        · exact Nat.lt_irrefl _ (r ▸ Heap.lt_size z2)
        · exact Nat.lt_irrefl _ (r ▸ Heap.lt_size z3)
      rw [upd_ne hn]
      exact (hf d hd).1
  done := by
    rintro X rfl rfl rfl cm i pins s σ H E I hf ⟨l1, l2, l3, hz, hI, ⟨p, q, r, hO⟩, h1, h2, h3⟩ ⟨qa, qb, qc, g⟩
    obtain ⟨us, ra, pa, _⟩ := seqB I qa
    obtain ⟨vs, rb, pb, _⟩ := seqB I qb
    obtain ⟨ws, rc, pc, _⟩ := seqB I qc
    have e1 := ra.length
    have e2 := rb.length
    have e3 := rc.length
    have hh : X.A.in1.handled = none := I.ok.hd cm
    refine wpAny_pyNext_zipD3_end S (drawsB hh i1 a na us la) (drawsB hh i2 b nb vs lb) (drawsB hh i3 c nc ws lc) hz hI hO ⟨h1, pa⟩ ⟨h2, pb⟩ ⟨h3, pc⟩ (by omega) (by omega) (by omega) (by omega) fun h' tk kp => ⟨rfl, I.turnedL (t' := tk) (ch := [z, TI, TO, i1, i2, i3]) (fun d o nd e => ?_) hf⟩
    simp only [List.mem_cons, List.not_mem_nil, or_false, not_or] at nd
    exact kp d o nd.1 nd.2.2.1 nd.2.2.2.1 nd.2.2.2.2.1 nd.2.2.2.2.2 e
  self := fun A i s Q E st q => wpAny_pyIter_zip st.2.2.2.1 q
end
/-! zip as a thing walked -/
theorem zsep2 {n a b : Nat} (ha : a < n) (hb : b < n) : ZipSep2 (n + 4) (n + 2) (n + 3) n (n + 1) [n, a] [n + 1, b] := by
  constructor <;> first | (intro h; first | (have h : (_ : Nat) = _ := h; omega) | (simp only [List.mem_cons, List.not_mem_nil, or_false] at h; rcases h with h | h <;> (have h : (_ : Nat) = _ := h; omega))) | (simp; done)
theorem zsep3 {n a b c : Nat} (ha : a < n) (hb : b < n) (hc : c < n) : ZipSep3 (n + 5) (n + 3) (n + 4) n (n + 1) (n + 2) [n, a] [n + 1, b] [n + 2, c] := by
  constructor <;> first | (intro h; first | (have h : (_ : Nat) = _ := h; omega) | (simp only [List.mem_cons, List.not_mem_nil, or_false] at h; rcases h with h | h <;> (have h : (_ : Nat) = _ := h; omega))) | (simp; done)
def iZip2 (K : PySem.W.Frag) (ta : TA) : TI := fun σ H R => ta σ H fun vs H1 => ∃ a b xs ys la lb, vs = [.ref a, .ref b] ∧ SqB K H1 a xs la ∧ SqB K H1 b ys lb ∧ R (It2 K a b xs ys la lb) H1
def iZip3 (K : PySem.W.Frag) (ta : TA) : TI := fun σ H R => ta σ H fun vs H1 => ∃ a b c xs ys zs la lb lc, vs = [.ref a, .ref b, .ref c] ∧ SqB K H1 a xs la ∧ SqB K H1 b ys lb ∧ SqB K H1 c zs lc ∧ R (It3 K a b c xs ys zs la lb lc) H1
section
variable {X : Cx} {ta : TA} {p pos tpos : Pos} {elts : List Expr} {kk : Nat} {e1 e2 e3 : Expr}
theorem pi_zip2 (hg : Gl X "zip") (hm : X.mg "zip" = none) (ha : PA X [e1, e2] ta) (hs : starEach [e1, e2] X.env = (false, eval e1 X.env) :: starEach [e2] X.env := by rfl) (hpl : (backTo pos (starEach [e2] X.env)).any (·.1) = false := by rfl) :
    PI X (.Tuple elts kk tpos) (.Call (.Name "zip" p) [e1, e2] [] pos) (iZip2 X.K ta) := ⟨fun pins s σ H R I h => by
  refine Call_ (ld_blt I hg hm PyProof.Rows.boot_zip (PyProof.Rows.callWith_type1 (thn (ha.run pos pins s σ H _ I h) fun us s1 ⟨vs, H1, J, r1, a, b, xs, ys, la, lb, ev, qa, qb, q⟩ => ?_) hs hpl))
  subst ev
  obtain ⟨u, v, rfl, ru, rv⟩ := vals2 r1
  cases ru
  cases rv
  obtain ⟨us, _, pa, al⟩ := seqB J qa
  obtain ⟨vs, _, pb, bl⟩ := seqB J qb
  refine zip_begins2 (begB_of a us.toArray la) (begB_of b vs.toArray lb) pa pb fun h' hz hI hO g1 g2 hsz k => wpAny_pyIter_zip hz ?_
  refine ⟨_, [s1.heap.objs.size + 4, s1.heap.objs.size + 2, s1.heap.objs.size + 3, s1.heap.objs.size, s1.heap.objs.size + 1], _, _, H1, rfl, J.kept (t' := s1.toks) k, turn2 (z := s1.heap.objs.size + 4) (TI := s1.heap.objs.size + 2) (TO := s1.heap.objs.size + 3) (i1 := s1.heap.objs.size) (i2 := s1.heap.objs.size + 1) (zsep2 al bl) (Nat.ne_of_lt al) (Nat.ne_of_lt (Nat.lt_succ_of_lt bl)), ⟨Nat.zero_le _, Nat.zero_le _, hz, hI, ⟨_, _, hO⟩, begB_it g1, begB_it g2⟩, fun d hd => ?_, q⟩
  · have : s1.heap.objs.size ≤ d := by
      simp only [List.mem_cons, List.not_mem_nil, or_false] at hd
      rcases hd with g | g | g | g | g <;> (have g : (_ : Nat) = _ := g; omega)
    exact J.fpOk this (J.hok.fresh this)⟩
theorem vals3 {vs : List V} {us : List Value} {a b c : V} (h : Vals [a, b, c] us) : ∃ u v w, us = [u, v, w] ∧ RelV a u ∧ RelV b v ∧ RelV c w := by
  cases h with
  | cons r1 h =>
    cases h with
    | cons r2 h =>
      cases h with
      | cons r3 h =>
        cases h
        exact ⟨_, _, _, rfl, r1, r2, r3⟩
theorem pi_zip3 (hg : Gl X "zip") (hm : X.mg "zip" = none) (ha : PA X [e1, e2, e3] ta) (hs : starEach [e1, e2, e3] X.env = (false, eval e1 X.env) :: starEach [e2, e3] X.env := by rfl) (hpl : (backTo pos (starEach [e2, e3] X.env)).any (·.1) = false := by rfl) :
    PI X (.Tuple elts kk tpos) (.Call (.Name "zip" p) [e1, e2, e3] [] pos) (iZip3 X.K ta) := ⟨fun pins s σ H R I h => by
  refine Call_ (ld_blt I hg hm PyProof.Rows.boot_zip (PyProof.Rows.callWith_type1 (thn (ha.run pos pins s σ H _ I h) fun us s1 ⟨vs, H1, J, r1, a, b, c, xs, ys, zs, la, lb, lc, ev, qa, qb, qc, q⟩ => ?_) hs hpl))
  subst ev
  obtain ⟨u, v, w, rfl, ru, rv, rw'⟩ := vals3 (vs := []) r1
  cases ru
  cases rv
  cases rw'
  obtain ⟨us, _, pa, al⟩ := seqB J qa
  obtain ⟨vs, _, pb, bl⟩ := seqB J qb
  obtain ⟨ws, _, pc, cl⟩ := seqB J qc
  refine zip_begins3 (begB_of a us.toArray la) (begB_of b vs.toArray lb) (begB_of c ws.toArray lc) pa pb pc fun h' hz hI hO g1 g2 g3 hsz k => wpAny_pyIter_zip hz ?_
  refine ⟨_, [s1.heap.objs.size + 5, s1.heap.objs.size + 3, s1.heap.objs.size + 4, s1.heap.objs.size, s1.heap.objs.size + 1, s1.heap.objs.size + 2], _, _, H1, rfl, J.kept (t' := s1.toks) k, turn3 (z := s1.heap.objs.size + 5) (TI := s1.heap.objs.size + 3) (TO := s1.heap.objs.size + 4) (i1 := s1.heap.objs.size) (i2 := s1.heap.objs.size + 1) (i3 := s1.heap.objs.size + 2) (zsep3 al bl cl) (Nat.ne_of_lt al) (Nat.ne_of_lt (Nat.lt_succ_of_lt bl)) (Nat.ne_of_lt (Nat.lt_succ_of_lt (Nat.lt_succ_of_lt cl))), ⟨Nat.zero_le _, Nat.zero_le _, Nat.zero_le _, hz, hI, ⟨_, _, _, hO⟩, begB_it g1, begB_it g2, begB_it g3⟩, fun d hd => ?_, q⟩
  · have : s1.heap.objs.size ≤ d := by
      simp only [List.mem_cons, List.not_mem_nil, or_false] at hd
      rcases hd with g | g | g | g | g | g <;> (have g : (_ : Nat) = _ := g; omega)
    exact J.fpOk this (J.hok.fresh this)⟩
end
/-! .. on trees -/
def sqItems : D → Option (List D)
  | .lst false xs => some xs
  | .tup xs => some xs
  | .kst xs => some xs
  | _ => none
def zipL3 : List D → List D → List D → List D
  | a :: r, b :: s, c :: t => .tup [a, b, c] :: zipL3 r s t
  | _, _, _ => []
def iZ2 (u : TXA) : TXI := fun env Q => u env fun ds env1 => ∃ d e xs ys, ds = [d, e] ∧ sqItems d = some xs ∧ sqItems e = some ys ∧ frzL xs = xs ∧ frzL ys = ys ∧ Q (zipL xs ys) env1
def iZ3 (u : TXA) : TXI := fun env Q => u env fun ds env1 => ∃ d e f xs ys zs, ds = [d, e, f] ∧ sqItems d = some xs ∧ sqItems e = some ys ∧ sqItems f = some zs ∧ frzL xs = xs ∧ frzL ys = ys ∧ frzL zs = zs ∧ Q (zipL3 xs ys zs) env1
/-- it stands frozen, whatever comes -/
theorem sq_frozen {K : PySem.W.Frag} {Z H : Hp} {v : V} {d : D} {F : AS} {xs : List D} (r : Rep K Z H v d F) (h : sqItems d = some xs) (zh : ∀ a o, Z a = some o → H a = some o) : ∃ a vs l, v = .ref a ∧ RepL K Z H vs xs F ∧ ∀ H', (∀ a o, Z a = some o → H' a = some o) → SqB K H' a vs l := by
  cases d with
  | lst o ys =>
    cases o with
    | true => cases h
    | false =>
      cases h
      cases r with
      | lstF r1 r2 => exact ⟨_, _, true, rfl, r2.mono fun _ z => z.elim, fun H' hz => .inl (Rd.sub hz r1)⟩
  | tup ys =>
    cases h
    cases r with
    | tup r1 r2 => exact ⟨_, _, false, rfl, r2, fun H' hz => .inl (.inl (hz _ _ r1))⟩
  | kst ys =>
    cases h
    cases r with
    | kst r1 r2 => exact ⟨_, _, true, rfl, r2.mono fun _ z => z.elim, fun H' hz => SqL.sub hz r1⟩
  | _ => cases h
theorem zipL3_length : ∀ xs ys zs : List D, (zipL3 xs ys zs).length = min xs.length (min ys.length zs.length)
  | [], _, _ => by simp [zipL3]
  | _ :: _, [], _ => by simp [zipL3]
  | _ :: _, _ :: _, [] => by simp [zipL3]
  | a :: r, b :: s, c :: t => by simp only [zipL3, List.length_cons, zipL3_length r s t]; omega
theorem zipL3_at : ∀ {xs ys zs : List D} {i : Nat} {d : D}, (zipL3 xs ys zs)[i]? = some d → ∃ x y z, xs[i]? = some x ∧ ys[i]? = some y ∧ zs[i]? = some z ∧ d = .tup [x, y, z]
  | [], _, _, i, _, h => by simp [zipL3] at h
  | _ :: _, [], _, i, _, h => by simp [zipL3] at h
  | _ :: _, _ :: _, [], i, _, h => by simp [zipL3] at h
  | a :: r, b :: s, c :: t, 0, d, h => ⟨a, b, c, rfl, rfl, rfl, by simpa [zipL3] using h.symm⟩
  | a :: r, b :: s, c :: t, i + 1, d, h => by
    obtain ⟨x, y, z, h1, h2, h3, h4⟩ := zipL3_at (xs := r) (ys := s) (zs := t) (i := i) (by simpa [zipL3] using h)
    exact ⟨x, y, z, by simpa using h1, by simpa using h2, by simpa using h3, h4⟩
section
variable {X : Cx} {e1 e2 e3 : Expr} {elts : List Expr} {kk0 : Nat} {p pos tpos : Pos} {M R : List Nat} {u : TXA}
theorem xi_zip2 (hg : Gl X "zip") (hm : X.mg "zip" = none) (h : XA X [e1, e2] M R u) (hs : starEach [e1, e2] X.env = (false, eval e1 X.env) :: starEach [e2] X.env := by rfl) (hpl : (backTo pos (starEach [e2] X.env)).any (·.1) = false := by rfl) :
    XI X (.Tuple elts kk0 tpos) (.Call (.Name "zip" p) [e1, e2] [] pos) M (iZ2 u) := ⟨pi_imp (pi_zip2 hg hm h.pa hs hpl) fun σ H Q ⟨S, Qt, eH, s, q, k⟩ => by
  subst eH
  refine ⟨S, _, rfl, s, q, fun S1 vs ds Fv ⟨d, e, xs, ys, ed, hx, hy, fx, fy, q1⟩ s1 st1 v1 => ?_⟩
  subst ed
  obtain ⟨v, w, rfl, rv, rw'⟩ := RepA.two v1.rep
  obtain ⟨a, us, la, rfl, ra, qa⟩ := sq_frozen rv hx s1.zh
  obtain ⟨b, ws, lb, rfl, rb, qb⟩ := sq_frozen rw' hy s1.zh
  have ra := RepL.imm' (H' := S1.H) (G := nF) ra fx
  have rb := RepL.imm' (H' := S1.H) (G := nF) rb fy
  refine ⟨a, b, us, ws, la, lb, rfl, qa _ s1.zh, qb _ s1.zh, k S1 (zipL xs ys) _ q1 s1 st1 ⟨fun i Z H g1 g2 hi => ?_, fun i Z H g1 g2 hi => ?_, fun i Z H x H' g1 g2 ⟨T, y, z, ex, hT, eH', hy', hz'⟩ d hd => ?_⟩⟩
  · rw [zipL_length] at hi
    exact ⟨qa _ fun c o z => g2 c o (g1 c o z), qb _ fun c o z => g2 c o (g1 c o z), by rw [ra.length]; omega, by rw [rb.length]; omega⟩
  · rw [zipL_length] at hi
    refine ⟨qa _ fun c o z => g2 c o (g1 c o z), qb _ fun c o z => g2 c o (g1 c o z), ?_⟩
    rw [ra.length, rb.length]; omega
  · subst ex eH'
    obtain ⟨dx, dy, h1, h2, rfl⟩ := zipL_at hd
    obtain ⟨y1, hy1, r1⟩ := ra.get h1
    obtain ⟨z1, hz1, r2⟩ := rb.get h2
    rw [hy'] at hy1
    rw [hz'] at hz1
    cases hy1
    cases hz1
    obtain ⟨x2, zh2⟩ := ext_newZ (o := .tup [y, z]) g2 hT
    have p1 : Rep X.K (upd Z T (.tup [y, z])) (upd H T (.tup [y, z])) y dx nF := (r1.keep (H' := H) g1 fun _ _ z => z.elim).ext x2 fun _ z => z.elim
    have p2 : Rep X.K (upd Z T (.tup [y, z])) (upd H T (.tup [y, z])) z dy nF := (r2.keep (H' := H) g1 fun _ _ z => z.elim).ext x2 fun _ z => z.elim
    exact ⟨_, x2, zh2, .tup upd_same (.cons (G := nF) (E := nF) p1 (.cons (G := nF) (E := nF) p2 .nil (fun _ z => z.elim) fun _ z => z.elim) (fun _ z => z.elim) fun _ z => z.elim)⟩⟩
theorem RepA.three {K : PySem.W.Frag} {Z H : Hp} {F : AS} {vs : List V} {d e f : D} (h : RepA K Z H F vs [d, e, f]) : ∃ v w x, vs = [v, w, x] ∧ Rep K Z H v d F ∧ Rep K Z H w e F ∧ Rep K Z H x f F := by
  cases h with
  | cons r1 h =>
    obtain ⟨w, x, rfl, r2, r3⟩ := RepA.two h
    exact ⟨_, w, x, rfl, r1, r2, r3⟩
theorem xi_zip3 (hg : Gl X "zip") (hm : X.mg "zip" = none) (h : XA X [e1, e2, e3] M R u) (hs : starEach [e1, e2, e3] X.env = (false, eval e1 X.env) :: starEach [e2, e3] X.env := by rfl) (hpl : (backTo pos (starEach [e2, e3] X.env)).any (·.1) = false := by rfl) :
    XI X (.Tuple elts kk0 tpos) (.Call (.Name "zip" p) [e1, e2, e3] [] pos) M (iZ3 u) := ⟨pi_imp (pi_zip3 hg hm h.pa hs hpl) fun σ H Q ⟨S, Qt, eH, s, q, k⟩ => by
  subst eH
  refine ⟨S, _, rfl, s, q, fun S1 vs ds Fv ⟨d, e, f, xs, ys, zs, ed, hx, hy, hz, fx, fy, fz, q1⟩ s1 st1 v1 => ?_⟩
  subst ed
  obtain ⟨v, w, t, rfl, rv, rw', rt⟩ := RepA.three v1.rep
  obtain ⟨a, us, la, rfl, ra, qa⟩ := sq_frozen rv hx s1.zh
  obtain ⟨b, ws, lb, rfl, rb, qb⟩ := sq_frozen rw' hy s1.zh
  obtain ⟨c, ts, lc, rfl, rc, qc⟩ := sq_frozen rt hz s1.zh
  have ra := RepL.imm' (H' := S1.H) (G := nF) ra fx
  have rb := RepL.imm' (H' := S1.H) (G := nF) rb fy
  have rc := RepL.imm' (H' := S1.H) (G := nF) rc fz
  refine ⟨a, b, c, us, ws, ts, la, lb, lc, rfl, qa _ s1.zh, qb _ s1.zh, qc _ s1.zh, k S1 (zipL3 xs ys zs) _ q1 s1 st1 ⟨fun i Z H g1 g2 hi => ?_, fun i Z H g1 g2 hi => ?_, fun i Z H x H' g1 g2 ⟨T, y, z, z3, ex, hT, eH', hy', hz', hz3⟩ d hd => ?_⟩⟩
  · rw [zipL3_length] at hi
    exact ⟨qa _ fun c o z => g2 c o (g1 c o z), qb _ fun c o z => g2 c o (g1 c o z), qc _ fun c o z => g2 c o (g1 c o z), by rw [ra.length]; omega, by rw [rb.length]; omega, by rw [rc.length]; omega⟩
  · rw [zipL3_length] at hi
    refine ⟨qa _ fun c o z => g2 c o (g1 c o z), qb _ fun c o z => g2 c o (g1 c o z), qc _ fun c o z => g2 c o (g1 c o z), ?_⟩
    rw [ra.length, rb.length, rc.length]; omega
  · subst ex eH'
    obtain ⟨dx, dy, dz, h1, h2, h3, rfl⟩ := zipL3_at hd
    obtain ⟨y1, hy1, r1⟩ := ra.get h1
    obtain ⟨z1, hz1, r2⟩ := rb.get h2
    obtain ⟨w1, hw1, r3⟩ := rc.get h3
    rw [hy'] at hy1
    rw [hz'] at hz1
    rw [hz3] at hw1
    cases hy1
    cases hz1
    cases hw1
    obtain ⟨x2, zh2⟩ := ext_newZ (o := .tup [y, z, z3]) g2 hT
    have p1 : Rep X.K (upd Z T (.tup [y, z, z3])) (upd H T (.tup [y, z, z3])) y dx nF := (r1.keep (H' := H) g1 fun _ _ z => z.elim).ext x2 fun _ z => z.elim
    have p2 : Rep X.K (upd Z T (.tup [y, z, z3])) (upd H T (.tup [y, z, z3])) z dy nF := (r2.keep (H' := H) g1 fun _ _ z => z.elim).ext x2 fun _ z => z.elim
    have p3 : Rep X.K (upd Z T (.tup [y, z, z3])) (upd H T (.tup [y, z, z3])) z3 dz nF := (r3.keep (H' := H) g1 fun _ _ z => z.elim).ext x2 fun _ z => z.elim
    exact ⟨_, x2, zh2, .tup upd_same (.cons (G := nF) (E := nF) p1 (.cons (G := nF) (E := nF) p2 (.cons (G := nF) (E := nF) p3 .nil (fun _ z => z.elim) fun _ z => z.elim) (fun _ z => z.elim) fun _ z => z.elim) (fun _ z => z.elim) fun _ z => z.elim)⟩⟩
end
/-! typed -/
section
variable {α β γ : Type} {ea : α → D} {eb : β → D} {ec : γ → D}
theorem zipL_e : ∀ (xs : List α) (ys : List β), zipL (xs.map ea) (ys.map eb) = (List.zip xs ys).map (e2 ea eb)
  | [], _ => by simp [zipL]
  | _ :: _, [] => by simp [zipL]
  | x :: xs, y :: ys => by
    rw [List.map_cons, List.map_cons, zipL, zipL_e xs ys]; rfl
def zip3 : List α → List β → List γ → List (α × β × γ)
  | a :: r, b :: s, c :: t => (a, b, c) :: zip3 r s t
  | _, _, _ => []
theorem zipL3_e : ∀ (xs : List α) (ys : List β) (zs : List γ), zipL3 (xs.map ea) (ys.map eb) (zs.map ec) = (zip3 xs ys zs).map (e3 ea eb ec)
  | [], _, _ => by simp [zipL3, zip3]
  | _ :: _, [], _ => by simp [zipL3, zip3]
  | _ :: _, _ :: _, [] => by simp [zipL3, zip3]
  | x :: xs, y :: ys, z :: zs => by
    rw [List.map_cons, List.map_cons, List.map_cons, zipL3, zipL3_e xs ys zs]; rfl
end
end TT

/-! N4: defs that ask for no guard: their calls, the law's end -/
namespace TT
open PySem PySem.Spec PyProof.Rows L2
section
variable {P : Program} {w : World} {K : PySem.W.Frag} {mg mb : Str → Option Value} {k : Nat} {f a : Addr} {fd : FuncData} {x : Str} {sp : Sp} {t : Shared} {script : List Value} {ns : List Int} {H : Hp}
/-- where only the script is tracked, and is no object of the module's own, the module stands in what is left -/
theorem left_ns (one : ∀ b, H b ≠ none → b = a) (isL : t.heap.get? a = some { cls := .type "list", data := .seq script.toArray }) {L : Addr} {m : Str → Option Value} (h : t.heap.Ns L m) : (hidT t.heap H).Ns L m := by
  obtain ⟨o, es, ep, g, d, r⟩ := h
  refine ⟨o, es, ep, hidT_get g ?_, d, r⟩
  by_cases q : H L = none
  · exact q
  · have eq := one L q
    rw [eq, isL] at g
    cases g
    cases d
theorem left_in (one : ∀ b, H b ≠ none → b = a) (own : H a ≠ none → K.lookup a = none) (kin : K.In t.heap) : K.In (hidT t.heap H) := fun b o e => by
  refine hidT_get (kin b o e) ?_
  by_cases q : H b = none
  · exact q
  · have eq := one b q
    subst eq
    rw [own q] at e
    cases e
theorem go_from (one : ∀ b, H b ≠ none → b = a) (own : H a ≠ none → K.lookup a = none) (kin : K.In t.heap) (top : t.heap.Ns mainGlobals mg) (blt : t.heap.Ns builtinsNs mb) (boot : ∀ y : Str, y ≠ "__name__" → mb y = bootBuiltins y) (lim : t.heap.NoLimit) (gens : t.gens = #[])
    (isL : t.heap.get? a = some { cls := .type "list", data := .seq script.toArray }) (room : Room k callerA) (F : ∀ base : Heap, FnG P w K mg base k f fd [x] sp) (bnd : ∀ (s : Shared) (u : Value), BindsTo s fd ⟨[u], []⟩ [(x, u)])
    (ok : HOk P w H t.heap) (only : Only H) (promise : sp [.ref a] H (fun v _ => v = .bl true) fun _ _ _ => False) :
    codeAny (model P w) callerA (.call (.ref f) ⟨[.ref a], []⟩) (fun r s' => r = .ok (.ret (.bool true)) ∧ OldK t.heap s'.heap ∧ s'.os = t.os ∧ AllBare s'.gens) t := by
  obtain ⟨mc, n1, n2⟩ := lim
  have md : Mod K mg (hidT t.heap H) := ⟨left_in one own kin, left_ns one isL top, ⟨mb, left_ns one isL blt, boot⟩, mc, left_ns one isL n1, n2⟩
  have noF : ∀ b : Addr, b ∉ frs ([] : List PySem.Env) := fun b hb => by cases hb
  have env0 : Env0 P w K mg (hidT t.heap H) callerA [] t H := ⟨rfl, md, fun _ _ e => of_hidT e, Nat.le_of_eq (hidT_size _ _), trivial, fun b hb => absurd hb (noF b), ok, .of_eq gens⟩
  refine codeAny_mono ((F _).go callerA [] t H ⟨[.ref a], []⟩ [.ref a] [.ref a] _ _ rfl room env0 (bnd t (.ref a)) (.cons rfl .nil) promise) fun r s' h => ?_
  rcases r with e | fl
  · exact h.elim
  · obtain ⟨u, rfl⟩ : ∃ u, fl = .ret u := by
      cases fl with
      | ret u => exact ⟨u, rfl⟩
      | _ => exact False.elim h
    obtain ⟨v, H2, os, bare, un, ok2, rv, hv⟩ := h
    have hv : v = .bl true := hv
    subst hv
    have eu : u = .bool true := rv
    refine ⟨by rw [eu], OldK.of_keep fun b o g => ?_, os, bare⟩
    rcases only b with z | ⟨ob, xs, z⟩
    · exact un.keep b o g z (noF b) (by simp)
    · have g2 := (ok b _ z).1
      rw [g] at g2
      cases g2
      exact (ok2 b _ (un.frzs b _ _ z)).1
theorem law_callG (kin : K.In t.heap) (top : t.heap.Ns mainGlobals mg) (blt : t.heap.Ns builtinsNs mb) (boot : ∀ y : Str, y ≠ "__name__" → mb y = bootBuiltins y) (lim : t.heap.NoLimit) (gens : t.gens = #[])
    (isL : t.heap.get? a = some { cls := .type "list", data := .seq script.toArray }) (isI : IntsAre script ns) (few : ns.length ≤ sizeLine) (room : Room k callerA) (F : ∀ base : Heap, FnG P w K mg base k f fd [x] sp) (bnd : ∀ (s : Shared) (u : Value), BindsTo s fd ⟨[u], []⟩ [(x, u)])
    (promise : ∀ H : Hp, Only H → SqL K H a (ns.map V.int) → sp [.ref a] H (fun v _ => v = .bl true) fun _ _ _ => False) :
    codeAny (model P w) callerA (.call (.ref f) ⟨[.ref a], []⟩) (fun r s' => r = .ok (.ret (.bool true)) ∧ OldK t.heap s'.heap ∧ s'.os = t.os ∧ AllBare s'.gens) t := by
  have rel := vals_ints isI
  by_cases q : K.lookup a = none
  · have e1 : ∀ b, (fun b => if b = a then some (HO.frz { cls := .type "list", data := .seq script.toArray } (.lst (ns.map V.int))) else none) b ≠ none → b = a := fun b h => by
      by_cases e : b = a
      · exact e
      · exact absurd (if_neg e) h
    refine go_from (H := fun b => if b = a then some (.frz { cls := .type "list", data := .seq script.toArray } (.lst (ns.map V.int))) else none) e1 (fun _ => q) kin top blt boot lim gens isL room F bnd (fun b u h => ?_) (fun b => ?_) (promise _ (fun b => ?_) (.inl (.inr ⟨_, if_pos rfl⟩)))
    · have e := e1 b (by rw [h]; simp)
      subst e
      have h := (if_pos rfl).symm.trans h
      cases h
      exact ⟨isL, by rw [List.length_map]; exact few, script, _, rel, isL⟩
    all_goals
      by_cases e : b = a
      · exact .inr ⟨_, _, if_pos e⟩
      · exact .inl (if_neg e)
  · obtain ⟨o, ho⟩ := Option.ne_none_iff_exists'.mp q
    have e := kin a o ho
    rw [isL] at e
    cases e
    exact go_from (H := fun _ => none) (fun _ z => absurd rfl z) (fun z => absurd rfl z) kin top blt boot lim gens isL room F bnd (fun _ u z => by cases z) (fun _ => .inl rfl) (promise _ (fun _ => .inl rfl) (.inr ⟨_, script.toArray, _, ho, rfl, rfl, rfl, by rw [List.size_toArray, isI.length]; exact few, by simpa using rel⟩))
end
theorem walk_ofG {l : PySem.W.OpenLaw} {n k : Nat} {q : Program} {loose : List Str} {XP : (Str → Option Value) → Heap → Prop} {YP : World → Heap → Prop} {d : DefRec} {x : Str} (hn : l.most = some n) (hn2 : n ≤ sizeLine) (hdf : d.params.defaults = []) (room : Room k callerA)
    (F : ∀ (w : World) (mg : Str → Option Value) (fa : Addr) (h : Heap), YP w h → h.Ns mainGlobals mg → mg d.name = some (.ref fa) → ∃ (K : PySem.W.Frag) (fd : FuncData) (sp : Sp), K.In h ∧ (∀ (s : Shared) (u : Value), BindsTo s fd ⟨[u], []⟩ [(x, u)]) ∧
        (∀ (H : Hp) (a : Addr) (ns : List Int), ns.length ≤ n → Only H → SqL K H a (ns.map V.int) → sp [.ref a] H (fun v _ => v = .bl true) fun _ _ _ => False) ∧ ∀ base : Heap, FnG l.prog w K mg base k fa fd [x] sp) : PySem.W.WalkO q loose XP YP l.row.toRowW d [] (fun f vs => PySem.call f vs) :=
  Att.attach_call hn hdf fun w s0 s1 mg mb fa o pm cd doc a vs ns G Y ho hd hcd hmg hobj isI hlen hg => by
    obtain ⟨K, fd, sp, kin, bnd, pr, hF⟩ := F w mg fa _ Y G.T.g hmg
    exact law_callG kin G.T.g G.T.b G.T.builtins G.T.nolimit hg hobj isI (Nat.le_trans hlen hn2) room hF bnd fun H => pr H a ns hlen
/-! calls of such defs -/
section
variable {X : Cx} {k n : Nat} {f : Addr} {fd : FuncData} {ps ks : List Str} {sp : Sp} {E : L2.XK} {x : Str} {p pos : Pos} {e : Expr} {es : List Expr} {kws : List Keyword} {t tk : TA}
theorem back_of {pins : List (Addr × Obj)} {σ : L2.St} {H : Hp} {s s' : Shared} {Q : VK} {r : Result} (I : L2.Inv X pins σ H s) (h : CR CX0 X.stack X.prog X.w H s Q E r s') : ∃ u, r = .ok (.ret u) ∧ EP X pins σ Q u s' := by
  match r, h with
  | .ok (.ret u), h => exact ⟨u, rfl, I.after h⟩
theorem run_G {pins : List (Addr × Obj)} {σ : L2.St} {H : Hp} {s : Shared} {Q : VK} {us bs : List Value} {vs : List V} {kw : List (Str × Value)} (hG : X.A.guards = some []) (F : FnG X.prog X.w X.K X.mg X.base k f fd ps sp) (hr : Room k X.A) (I : L2.Inv X pins σ H s) (b : BindsTo s fd ⟨us, kw⟩ (ps.zip bs)) (r : Vals vs bs) (h : sp vs H Q E) :
    wpAny (model X.prog X.w) X.A (PySem.call (.ref f) us kw) (EP X pins σ Q) X.xe s := by
  refine wpAny_call (codeAny_mono (F.go X.A X.stack s H _ bs vs Q E hG hr I.env0 b r h) fun r s' hq => ?_)
  obtain ⟨u, rfl, q⟩ := back_of I hq
  exact q
theorem pe_callG (hG : X.A.guards = some []) (F : FnG X.prog X.w X.K X.mg X.base k f fd ps sp) (hr : Room k X.A) (hg : Gl X x) (hm : X.mg x = some (.ref f)) (hk : PySem.W.keepIn X.K (.ref f) = true) (hb : Binds X.K fd ps []) (ha : PA X (e :: es) t)
    (hdb : (x == ("__debug__" : Str)) = false := by decide) (he : starEach (e :: es) X.env = (false, eval e X.env) :: starEach es X.env := by rfl) (hpl : (backTo pos (starEach es X.env)).any (·.1) = false := by rfl) : PE X (.Call (.Name x p) (e :: es) [] pos) (tCall sp [] E t) := ⟨fun pins s σ H Q I h => by
  refine wpAny_Call_Name_kw (ld_glob I hg hm (PySem.W.callWith_K (h₀ := X.base) I.ok.mod.kin hk (thn (ha.run pos pins s σ H _ I h) fun us s1 ⟨vs, H1, I1, r, q⟩ => ⟨I1.kIn, ?_⟩) he hpl) hdb)
  have q : sp (vs ++ []) H1 Q E := q
  rw [List.append_nil] at q
  have hl : (us ++ []).length = ps.length := by rw [List.append_nil, ← r.length]; exact F.ln _ _ _ _ q
  have b := hb s1 us I1.kIn hl
  rw [List.append_nil] at b
  exact run_G hG F hr I1 b r q⟩
theorem pe_callNG {g : List Value → List Value → List Value} {gV : List V → List V → List V} (hG : X.A.guards = some []) (F : FnG X.prog X.w X.K X.mg X.base k f fd ps sp) (hr : Room k X.A) (hg : Gl X x) (hm : X.mg x = some (.ref f)) (hk : PySem.W.keepIn X.K (.ref f) = true) (hb : KBn X.K fd ps n ks g gV)
    (ha : PA X (e :: es) t) (hkw : PK X kws tk) (hall : (backToKw pos (keywordEach kws X.env)).all (·.1.isSome) = true := by rfl) (hks : (backToKw pos (keywordEach kws X.env)).filterMap (·.1) = ks := by rfl) (hdb : (x == ("__debug__" : Str)) = false := by decide) (he : starEach (e :: es) X.env = (false, eval e X.env) :: starEach es X.env := by rfl)
    (hpl : ((backTo pos (starEach (e :: es) X.env)).any (·.1) || (backToKw pos (keywordEach kws X.env)).any (·.1.isNone)) = false := by rfl) : PE X (.Call (.Name x p) (e :: es) kws pos) (tCallN n ks.length sp gV E t tk) := ⟨fun pins s σ H Q I h => by
  refine wpAny_Call_Name_kw (ld_glob I hg hm ?_ hdb)
  refine PySem.W.callWith_KW (h₀ := X.base) I.ok.mod.kin hk hall (thn (ha.run pos pins s σ H _ I h) fun us s1 ⟨vs, H1, I1, r, q⟩ => thn (hkw.run pos pins s1 σ H1 _ I1 q) fun ws s2 ⟨zs, H2, I2, rz, l1, l2, q2⟩ => ⟨I2.kIn, ?_⟩) hpl he
  rw [hks]
  exact run_G hG F hr I2 (hb.to s2 us ws I2.kIn (r.length.symm.trans l1) (rz.length.symm.trans l2)) (hb.rel r rz) q2⟩
end
def FnAtG (P : Program) (w : World) (K : PySem.W.Frag) (mg : Str → Option Value) (base : Heap) (x : Str) (k : Nat) (ps : List Str) (sp : TX) : Prop :=
  ∃ f fd, FnG P w K mg base k f fd ps (liftSp K ps.length sp) ∧ mg x = some (.ref f) ∧ PySem.W.keepIn K (.ref f) = true ∧ Binds K fd ps []
def FnAtKG (P : Program) (w : World) (K : PySem.W.Frag) (mg : Str → Option Value) (base : Heap) (x : Str) (k : Nat) (ps : List Str) (n : Nat) (ks : List Str) (sp : TX) : Prop :=
  ∃ f fd, FnG P w K mg base k f fd ps (liftSp K ps.length sp) ∧ mg x = some (.ref f) ∧ PySem.W.keepIn K (.ref f) = true ∧ KBn K fd ps n ks (fun us ws => us ++ ws) (fun vs zs => vs ++ zs)
section
variable {X : Cx} {ps ks : List Str} {kk : Nat} {sp : TX} {u u2 : TXC} {e : Expr} {es : List Expr} {M R I M2 R2' I2 : List Nat} {x : Str} {p pos : Pos} {kws : List Keyword}
theorem x_fnG (hG : X.A.guards = some []) (bor : Bool) (F : FnAtG X.prog X.w X.K X.mg X.base x kk ps sp) (hr : Room kk X.A) (hg : Gl X x) (ha : XC X (e :: es) M R I u) (nd : I.Nodup := by decide) (dj : Dj R I = true := by rfl) (hbor : bor = true ∨ R = [] := by first | exact .inl rfl | exact .inr rfl)
    (hdbg : (x == ("__debug__" : Str)) = false := by decide) (he : starEach (e :: es) X.env = (false, eval e X.env) :: starEach es X.env := by rfl) (hpln : (backTo pos (starEach es X.env)).any (·.1) = false := by rfl) : XX X (.Call (.Name x p) (e :: es) [] pos) (M ++ I) [] (oFn sp ps.length bor u) := by
  obtain ⟨f, fd, h1, h2, h3, h4⟩ := F
  refine ⟨pe_imp (pe_callG hG h1 hr hg h2 h3 h4 (E := E0) ha.pa hdbg he hpln) fun σ H Q ⟨S, Qt, eH, s, q, k⟩ => ?_⟩
  subst eH
  refine ⟨S, _, rfl, s, q, fun S1 vs as Fv ⟨hn, q1⟩ s1 st1 v1 => ?_⟩
  show liftSp X.K ps.length sp (vs ++ []) S1.H Q E0
  rw [List.append_nil]
  exact call_core s1 st1 v1 nd dj hbor hn q1 k
theorem x_fnKG (hG : X.A.guards = some []) (bor : Bool) {n : Nat} (F : FnAtKG X.prog X.w X.K X.mg X.base x kk ps n ks sp) (hr : Room kk X.A) (hg : Gl X x) (hps : ps.length = n + ks.length := by rfl)
    (ha : XC X (e :: es) M R I u) (hkw : XK X kws M2 R2' I2 u2) (hn : (e :: es).length = n := by rfl) (hn2 : kws.length = ks.length := by rfl) (d0 : Dj R M2 = true := by rfl) (nd : (I ++ I2).Nodup := by decide) (dj : Dj (R ++ R2') (I ++ I2) = true := by rfl) (hbor : bor = true ∨ R ++ R2' = [] := by first | exact .inl rfl | exact .inr rfl)
    (hall : (backToKw pos (keywordEach kws X.env)).all (·.1.isSome) = true := by rfl) (hks : (backToKw pos (keywordEach kws X.env)).filterMap (·.1) = ks := by rfl)
    (hdbg : (x == ("__debug__" : Str)) = false := by decide) (he : starEach (e :: es) X.env = (false, eval e X.env) :: starEach es X.env := by rfl)
    (hpln : ((backTo pos (starEach (e :: es) X.env)).any (·.1) || (backToKw pos (keywordEach kws X.env)).any (·.1.isNone)) = false := by rfl) :
    XX X (.Call (.Name x p) (e :: es) kws pos) (M ++ M2 ++ (I ++ I2)) [] (oFnK sp n ks.length bor u u2) := by
  obtain ⟨f, fd, h1, h2, h3, h4⟩ := F
  refine ⟨pe_imp (pe_callNG hG h1 hr hg h2 h3 h4 (E := E0) ha.pa hkw.pk hall hks hdbg he hpln) fun σ H Q ⟨S, Qt, eH, s, q, k⟩ => ?_⟩
  subst eH
  refine ⟨S, _, rfl, s, q, fun S1 vs as Fv ⟨l1, q1⟩ s1 st1 v1 => ⟨S1, _, rfl, s1, q1, fun S2 zs bs Fz ⟨l2, q2⟩ s2 st2 v2 => ?_⟩⟩
  have v := both_args s1 st1 v1 st2 v2 d0
  exact ⟨(Paired.length v1.rep).trans l1, (Paired.length v2.rep).trans l2, call_core s2 (st1.trans st2) v nd dj hbor (by rw [List.length_append, l1, l2, hps]) q2 k⟩
end
end TT

/-! N5: repr of data -/
namespace TT
open PySem PySem.Spec PyProof.Rows L2
section
variable {X : Cx}
mutual
theorem noDict_of {K : PySem.W.Frag} {H : Hp} : ∀ {v : V} {d : PyData}, Dp K H v d → d.hasDict = false
  | _, _, .non => by simp only [PyData.hasDict]
  | _, _, .bl _ => by simp only [PyData.hasDict]
  | _, _, .int _ => by simp only [PyData.hasDict]
  | _, _, .str _ => by simp only [PyData.hasDict]
  | _, _, .lst _ h => by simp only [PyData.hasDict]; exact noDicts_of h
  | _, _, .tup _ h => by simp only [PyData.hasDict]; exact noDicts_of h
theorem noDicts_of {K : PySem.W.Frag} {H : Hp} : ∀ {vs : List V} {ds : List PyData}, DpAll K H vs ds → PyData.hasDictAll ds = false
  | _, _, .nil => by simp only [PyData.hasDictAll]
  | _, _, .cons h t => by simp only [PyData.hasDictAll]; rw [noDict_of h, noDicts_of t]; rfl
end
def shownO (d : D) : Option Str := if d.py.showable = true ∧ d.py.shown.length ≤ sizeLine then some d.py.shown else none
def rReprX (K : PySem.W.Frag) : List V → Hp → VK → Prop := fun xs H Q => ∃ v d, xs = [v] ∧ Dp K H v d ∧ d.showable = true ∧ d.depth ≤ 64 ∧ d.shown.length ≤ sizeLine ∧ Q (.str d.shown) H
theorem call_reprX (hG : X.A.guards = some []) (hu : X.A.units + 65 < cLine) : CallR X (.builtin "repr") (rReprX X.K) := by
  intro pins s σ H xs us Q I r h
  obtain ⟨v, d, rfl, dp, h1, h3, h4, q⟩ := h
  obtain ⟨u, rfl, e⟩ := vals1 r
  have h2 := noDict_of dp
  obtain ⟨as, rd⟩ := Dp.reads I d _ _ dp e
  cases dp with
  | non =>
    cases e
    exact PySem.P.repr_of_none ⟨.str _, H, I.tok _, ⟨_, rfl⟩, by simpa only [PyData.shown] using q⟩
  | bl b =>
    cases e
    exact PySem.P.repr_of_bool ⟨.str _, H, I.tok _, ⟨_, rfl⟩, by simpa only [PyData.shown] using q⟩
  | int i =>
    obtain ⟨t, rfl⟩ := e
    simp only [PyData.showable, decide_eq_true_eq] at h1
    exact PySem.P.repr_of_int h1 ⟨.str _, H, I.tok _, ⟨_, rfl⟩, by simpa only [PyData.shown] using q⟩
  | str x =>
    obtain ⟨t, rfl⟩ := e
    simp only [PyData.shown] at h4
    exact PySem.P.repr_of_str ⟨.str _, H, I.tok _, ⟨_, rfl⟩, by simpa only [PyData.shown] using q⟩ h4
  | lst a b =>
    cases e
    exact PySem.repr_of_reads' rd h1 (PyData.noDict_hsm h2) hG (by omega) (fun _ _ e => e) (fun h' u tk k => ⟨.str _, H, I.un (Un.kept k) (I.hok.kept k), ⟨u, rfl⟩, q⟩) h4
  | tup a b =>
    cases e
    exact PySem.repr_of_reads' rd h1 (PyData.noDict_hsm h2) hG (by omega) (fun _ _ e => e) (fun h' u tk k => ⟨.str _, H, I.un (Un.kept k) (I.hok.kept k), ⟨u, rfl⟩, q⟩) h4
def gReprX : List D → (D → Prop) → Prop := r1 fun d Q => cmpD d = true ∧ ∃ s, shownO d = some s ∧ Q (.str s)
theorem c_reprX (hG : X.A.guards = some []) (hu : X.A.units + 65 < cLine) : CallT X (.builtin "repr") gReprX := by
  refine ⟨_, call_reprX hG hu, fun σ S vs ds F Qd P s ra ⟨d, e, h0, z, hz, q⟩ k => ?_⟩
  subst e
  obtain ⟨v, rfl, r⟩ := paired1 ra
  unfold cmpD SeqAt.shaped at h0
  simp only [Bool.and_eq_true, decide_eq_true_eq] at h0
  unfold shownO at hz
  split at hz
  · rename_i hc
    cases hz
    exact ⟨v, d.py, rfl, r.dp s.zh h0.1, hc.1, h0.2.2, hc.2, k _ _ _ _ nF q (.imm s (.str _))⟩
  · cases hz
end
theorem py_str (x : Str) : (D.str x).py = .str x := by rw [D.py]
/-! == of texts -/
def rS2 (g : Str → Str → D) : D → D → (D → Prop) → Prop := fun x y Q => ∃ i j, x = .str i ∧ y = .str j ∧ Q (g i j)
abbrev rEqS : D → D → (D → Prop) → Prop := rS2 fun i j => .bl (decide (i = j))
theorem dec_str {i j : Str} : decide (V.str i = V.str j) = decide (i = j) := decide_eq_decide.mpr (by simp)
theorem o_eqS {X : Cx} : OpT X (compareOp .Eq) rEqS := ⟨_, op_eq, fun σ S x d Fx y e Fy Qd P s rx ry ⟨i, j, e1, e2, q⟩ k => by
  subst e1 e2
  rw [rx.str_inv, ry.str_inv]
  refine ⟨rfl, ?_⟩
  rw [dec_str]
  exact k _ _ _ _ _ q (.imm s (.bl _))⟩
abbrev rNeS : D → D → (D → Prop) → Prop := rS2 fun i j => .bl (!decide (i = j))
theorem o_neS {X : Cx} : OpT X (compareOp .NotEq) rNeS := ⟨_, op_ne, fun σ S x d Fx y e Fy Qd P s rx ry ⟨i, j, e1, e2, q⟩ k => by
  subst e1 e2
  rw [rx.str_inv, ry.str_inv]
  refine ⟨rfl, ?_⟩
  rw [dec_str]
  exact k _ _ _ _ _ q (.imm s (.bl _))⟩
end TT

/-! N6: calls that leave keyword-only parameters to their defaults -/
namespace TT
open PySem PySem.Spec PyProof.Rows L2
/-- constants: values and their trees -/
def Cst (K : PySem.W.Frag) (dvs : List V) (ds : List D) : Prop := ∀ Z H, RepA K Z H nF dvs ds
theorem cst_nil {K : PySem.W.Frag} : Cst K [] [] := fun _ _ => .nil
theorem cst_bl {K : PySem.W.Frag} {b : Bool} {dvs : List V} {ds : List D} (h : Cst K dvs ds) : Cst K (.bl b :: dvs) (.bl b :: ds) := fun Z H => .cons (.bl b) (h Z H)
theorem cst_int {K : PySem.W.Frag} {b : Int} {dvs : List V} {ds : List D} (h : Cst K dvs ds) : Cst K (.int b :: dvs) (.int b :: ds) := fun Z H => .cons (.int b) (h Z H)
theorem cst_non {K : PySem.W.Frag} {dvs : List V} {ds : List D} (h : Cst K dvs ds) : Cst K (.non :: dvs) (.non :: ds) := fun Z H => .cons .non (h Z H)
def oFnD (sp : TX) (n : Nat) (ds : List D) (bor : Bool) (u : TXC) : TX := fun env Q => u env fun as env1 => as.length = n ∧ sp (given env1 (as ++ argsD ds)) fun r fe => (bor = true → r.nf = true ∧ nfE fe = true) ∧ Q r (taken env1 (as ++ argsD ds) fe)
theorem ios_D : ∀ ds : List D, ios (argsD ds) = []
  | [] => rfl
  | _ :: r => ios_D r
theorem argsR {K : PySem.W.Frag} {S : W} {σ : L2.St} {F : AS} : ∀ {vs : List V} {ds : List D}, RepA K S.Z S.H nF vs ds → Paired (ArgR K S σ F) vs (argsD ds)
  | _, _, .nil => .nil
  | _, _, .cons (a := v) (b := d) r t => .cons (show Rep K S.Z S.H v d F from Rep.mono r fun _ z => z.elim) (argsR t)
theorem paired_appX {α β : Type} {R : α → β → Prop} : ∀ {xs xs' : List α} {ys ys' : List β}, Paired R xs ys → Paired R xs' ys' → Paired R (xs ++ xs') (ys ++ ys')
  | _, _, _, _, .nil, h => h
  | _, _, _, _, .cons r t, h => .cons r (paired_appX t h)
theorem vpc_D {K : PySem.W.Frag} {M R I : List Nat} {σ : L2.St} {S S1 : W} {vs dvs : List V} {as : List Arg} {ds : List D} {Fv : AS} (h : VPC K M R I σ S S1 vs as Fv) (c : Cst K dvs ds) : VPC K M R I σ S S1 (vs ++ dvs) (as ++ argsD ds) Fv :=
  ⟨by rw [ios_append, ios_D, List.append_nil]; exact h.io, paired_appX h.rep (argsR (c _ _)), h.tv, h.ow⟩
def FnAtD (P : Program) (w : World) (K : PySem.W.Frag) (mg : Str → Option Value) (base : Heap) (x : Str) (k : Nat) (ps : List Str) (dvs : List V) (sp : TX) : Prop :=
  ∃ f fd ds, FnOk P w K mg base CX0 k f fd ps (liftSp K ps.length sp) ∧ mg x = some (.ref f) ∧ PySem.W.keepIn K (.ref f) = true ∧ Binds K fd ps ds ∧ Vals dvs ds
def FnAtDG (P : Program) (w : World) (K : PySem.W.Frag) (mg : Str → Option Value) (base : Heap) (x : Str) (k : Nat) (ps : List Str) (dvs : List V) (sp : TX) : Prop :=
  ∃ f fd ds, FnG P w K mg base k f fd ps (liftSp K ps.length sp) ∧ mg x = some (.ref f) ∧ PySem.W.keepIn K (.ref f) = true ∧ Binds K fd ps ds ∧ Vals dvs ds
section
variable {X : Cx} {ps : List Str} {kk n : Nat} {sp : TX} {u : TXC} {e : Expr} {es : List Expr} {M R I : List Nat} {x : Str} {p pos : Pos} {dvs : List V} {ds : List D}
theorem x_fnD (bor : Bool) (F : FnAtD X.prog X.w X.K X.mg X.base x kk ps dvs sp) (c : Cst X.K dvs ds) (hr : Room kk X.A) (hg : Gl X x) (hps : ps.length = n + (argsD ds).length := by rfl)
    (ha : XC X (e :: es) M R I u) (nd : I.Nodup := by decide) (dj : Dj R I = true := by rfl) (hbor : bor = true ∨ R = [] := by first | exact .inl rfl | exact .inr rfl)
    (hdbg : (x == ("__debug__" : Str)) = false := by decide) (he : starEach (e :: es) X.env = (false, eval e X.env) :: starEach es X.env := by rfl) (hpln : (backTo pos (starEach es X.env)).any (·.1) = false := by rfl) :
    XX X (.Call (.Name x p) (e :: es) [] pos) (M ++ I) [] (oFnD sp n ds bor u) := by
  obtain ⟨f, fd, us, h1, h2, h3, h4, h5⟩ := F
  refine ⟨pe_imp (pe_call h1 hr hg h2 h3 h4 h5 (E := E0) pass0 ha.pa hdbg he hpln) fun σ H Q ⟨S, Qt, eH, s, q, k⟩ => ?_⟩
  subst eH
  refine ⟨S, _, rfl, s, q, fun S1 vs as Fv ⟨hn, q1⟩ s1 st1 v1 => ?_⟩
  exact call_core s1 st1 (vpc_D v1 c) nd dj hbor (by rw [List.length_append, hn, hps]) q1 k
theorem pe_callDG {k : Nat} {f : Addr} {fd : FuncData} {sp : Sp} {E : L2.XK} {t : TA} {us0 : List Value} (hG : X.A.guards = some []) (F : FnG X.prog X.w X.K X.mg X.base k f fd ps sp) (hr : Room k X.A) (hg : Gl X x) (hm : X.mg x = some (.ref f)) (hk : PySem.W.keepIn X.K (.ref f) = true) (hb : Binds X.K fd ps us0) (hd : Vals dvs us0) (ha : PA X (e :: es) t)
    (hdb : (x == ("__debug__" : Str)) = false := by decide) (he : starEach (e :: es) X.env = (false, eval e X.env) :: starEach es X.env := by rfl) (hpl : (backTo pos (starEach es X.env)).any (·.1) = false := by rfl) : PE X (.Call (.Name x p) (e :: es) [] pos) (tCall sp dvs E t) := ⟨fun pins s σ H Q I h => by
  refine wpAny_Call_Name_kw (ld_glob I hg hm (PySem.W.callWith_K (h₀ := X.base) I.ok.mod.kin hk (thn (ha.run pos pins s σ H _ I h) fun us s1 ⟨vs, H1, I1, r, q⟩ => ⟨I1.kIn, ?_⟩) he hpl) hdb)
  have r2 := r.append hd
  exact run_G hG F hr I1 (hb s1 us I1.kIn (by rw [← r2.length]; exact F.ln _ _ _ _ q)) r2 q⟩
theorem x_fnDG (hG : X.A.guards = some []) (bor : Bool) (F : FnAtDG X.prog X.w X.K X.mg X.base x kk ps dvs sp) (c : Cst X.K dvs ds) (hr : Room kk X.A) (hg : Gl X x) (hps : ps.length = n + (argsD ds).length := by rfl)
    (ha : XC X (e :: es) M R I u) (nd : I.Nodup := by decide) (dj : Dj R I = true := by rfl) (hbor : bor = true ∨ R = [] := by first | exact .inl rfl | exact .inr rfl)
    (hdbg : (x == ("__debug__" : Str)) = false := by decide) (he : starEach (e :: es) X.env = (false, eval e X.env) :: starEach es X.env := by rfl) (hpln : (backTo pos (starEach es X.env)).any (·.1) = false := by rfl) :
    XX X (.Call (.Name x p) (e :: es) [] pos) (M ++ I) [] (oFnD sp n ds bor u) := by
  obtain ⟨f, fd, us, h1, h2, h3, h4, h5⟩ := F
  refine ⟨pe_imp (pe_callDG hG h1 hr hg h2 h3 h4 h5 (E := E0) ha.pa hdbg he hpln) fun σ H Q ⟨S, Qt, eH, s, q, k⟩ => ?_⟩
  subst eH
  refine ⟨S, _, rfl, s, q, fun S1 vs as Fv ⟨hn, q1⟩ s1 st1 v1 => ?_⟩
  exact call_core s1 st1 (vpc_D v1 c) nd dj hbor (by rw [List.length_append, hn, hps]) q1 k
end
end TT

/-! N7: tuples cut and joined -/
namespace TT
open PySem PySem.Spec PyProof.Rows L2
theorem Rep.tup_is {K : PySem.W.Frag} {Z H : Hp} {v : V} {xs : List D} {F : AS} (r : Rep K Z H v (.tup xs) F) : ∃ a vs, v = .ref a ∧ Z a = some (.tup vs) ∧ RepL K Z H vs xs F := by
  cases r with
  | tup h1 h2 => exact ⟨_, _, rfl, h1, h2⟩
section
variable {X : Cx}
def rCatTT : D → D → (D → Prop) → Prop := fun x y Q => ∃ xs ys, x = .tup xs ∧ y = .tup ys ∧ frzL xs = xs ∧ frzL ys = ys ∧ xs.length + ys.length ≤ sizeLine ∧ Q (.tup (xs ++ ys))
theorem repL_app {K : PySem.W.Frag} {Z H : Hp} : ∀ {vs ws : List V} {xs ys : List D}, RepL K Z H vs xs nF → RepL K Z H ws ys nF → RepL K Z H (vs ++ ws) (xs ++ ys) nF
  | _, _, _, _, .nil, h => h
  | _, _, _, _, .cons (G := G) (E := E) r t f g, h => .cons (G := nF) (E := nF) (r.mono fun b z => f b z) (repL_app (t.mono fun b z => (g b z).1) h) (fun _ z => z.elim) fun _ z => z.elim
theorem o_catTT : OpT X (binaryOp .Add) rCatTT := ⟨_, op_catA, fun σ S x d Fx y e Fy Qd P s rx ry ⟨xs, ys, e1, e2, fx, fy, hz, q⟩ k => by
  subst e1 e2
  obtain ⟨a, vs, rfl, h1, r1⟩ := rx.tup_is
  obtain ⟨b, ws, rfl, h2, r2⟩ := ry.tup_is
  have r1 := RepL.imm' (H' := S.H) (G := nF) r1 fx
  have r2 := RepL.imm' (H' := S.H) (G := nF) r2 fy
  refine ⟨a, b, vs, ws, rfl, rfl, .inl (.inl (s.zh _ _ h1)), .inl (.inl (s.zh _ _ h2)), by rw [r1.length, r2.length]; exact hz, fun z => ?_, fun _ z => ?_, fun _ _ p hp => ?_⟩
  · subst z
    cases r1
    exact k _ _ _ _ nF q (.imm s (.tup h2 r2))
  · subst z
    cases r2
    rw [List.append_nil] at q
    exact k _ _ _ _ nF q (.imm s (.tup h1 r1))
  · exact k _ _ _ _ nF q (Fr.tup s hp (repL_app r1 r2))⟩
def oSlT (t : TX) (tl th : TXO) : TX := fun env Q => t env fun d env1 => tl env1 fun lo env2 => th env2 fun hi env3 => ∃ xs, d = .tup xs ∧ frzL xs = xs ∧ Q (.tup (cutL xs lo hi)) env3
variable {a : Expr} {Ma Ra Ml Mh : List Nat} {ta : TX} {tl th : TXO} {lo hi : Option Expr} {p2 pos : Pos}
theorem frz_at {xs : List D} (h : frzL xs = xs) {d : D} (hd : d ∈ xs) : d.frz = d := by
  rw [frzL_map] at h
  obtain ⟨i, hi, rfl⟩ := List.getElem_of_mem hd
  have := congrArg (fun l => l[i]?) h
  simpa [hi] using this
theorem frzL_of {xs : List D} (h : ∀ d ∈ xs, d.frz = d) : frzL xs = xs := by
  rw [frzL_map]
  exact (List.map_congr_left h).trans (List.map_id' xs)
theorem cut_sub {α : Type} {xs : List α} {lo hi : Option Int} {x : α} (h : x ∈ cutL xs lo hi) : x ∈ xs := by
  unfold cutL at h
  exact List.mem_of_mem_drop (List.mem_of_mem_take h)
theorem cut_all {α : Type} {xs : List α} {lo hi : Option Int} (h : HT.sIx xs.length 0 lo = 0 ∧ HT.sIx xs.length xs.length hi = xs.length) : cutL xs lo hi = xs := by
  unfold cutL
  rw [h.1, h.2]
  simp
theorem x_sliceT (ha : XX X a Ma Ra ta) (hl : XO X lo Ml tl) (hh : XO X hi Mh th) (d1 : Dj Ra Ml = true := by rfl) (d2 : Dj Ra Mh = true := by rfl) :
    XX X (.Subscript a (.Slice lo hi none p2) pos) (Ma ++ Ml ++ Mh) [] (oSlT ta tl th) := ⟨pe_imp (pe_slice sl_tupA ha.pe hl.po hh.po) fun σ H Q ⟨S, Qt, eH, s, q, k⟩ => by
  subst eH
  refine ⟨S, _, rfl, s, q, fun S1 x d Fx q1 s1 st1 v1 => ⟨S1, _, rfl, s1, q1, fun S2 l q2 s2 st2 => ⟨S2, _, rfl, s2, q2, fun S3 h ⟨xs, ed, f, q3⟩ s3 st3 => ?_⟩⟩⟩
  subst ed
  have v3 := ((v1.later s1 st1 st2 d1).later s2 (st1.trans st2) st3 d2).rep
  have st := (st1.trans st2).trans st3
  obtain ⟨b, vs, rfl, h1, r1⟩ := v3.tup_is
  have r1 := RepL.imm' (H' := S3.H) (G := nF) r1 f
  refine ⟨b, vs, rfl, .inl (.inl (s3.zh _ _ h1)), fun w => ?_, fun _ p hp => ?_⟩
  · rw [r1.length] at w
    rw [cut_all w] at q3
    exact k S3 _ _ nF q3 s3 st (.imm (.tup h1 r1))
  · have f2 := Fr.tup (q := p) s3 hp (r1.cut l h)
    exact k ⟨_, _, S3.env, S3.F⟩ _ _ _ q3 (f2.sr s3) (st.then0 f2.stp) ((f2.vp s3).then0 st)⟩
end
/-! typed -/
section
variable {α : Type} {e : α → D}
theorem cutT_e (xs : List α) (lo hi : Option Int) : D.tup (cutL (xs.map e) lo hi) = eT e (cutL xs lo hi) := by rw [cut_map]; rfl
theorem catT_e {xs ys zs : List α} (h : catO xs ys = some zs) : D.tup (xs.map e ++ ys.map e) = eT e zs := by
  unfold catO at h
  split at h
  · cases h
    unfold eT; rw [List.map_append]
  · cases h
end
end TT

/-! N8: a list told out to names; things that may be None -/
namespace TT
open PySem PySem.Spec PyProof.Rows L2
def gTlL (n : Nat) (g : TXGs) : TXG := fun d env Q => ∃ o xs, d = .lst o xs ∧ xs.length = n ∧ g xs env Q
theorem ga_lst {X : Cx} {tgs : List Expr} {A : List Nat} {gsi : TXGs} {tpos : Pos} {k n : Nat} (hc : X.calm = true) (h : GAs X tgs A gsi) (hn : (assignEach tgs X.env).length = n := by rfl) (hst : (assignEach tgs X.env).findIdx? (·.1) = none := by rfl) : GA X (.Tuple tgs k tpos) A (gTlL n gsi) := by
  obtain ⟨g, hg, hh⟩ := h
  refine ⟨_, pg_lst hc hg hn hst, fun v d Fv σ S Q Qt s r tv ow ⟨o, xs, e, hl, q⟩ k => ?_⟩
  subst e
  obtain ⟨a, vs, rfl, h1, h2⟩ := r.lst_inv s.zh
  exact ⟨a, vs, rfl, .inl h1, by rw [h2.length]; exact hl, hh vs xs Fv σ S Q Qt s h2 tv ow q k⟩
section
variable {α : Type} {e : α → D} {o : Bool}
def unp2 : List α → Option (α × α)
  | [a, b] => some (a, b)
  | _ => none
def unp3 : List α → Option (α × α × α)
  | [a, b, c] => some (a, b, c)
  | _ => none
def unp4 : List α → Option (α × α × α × α)
  | [a, b, c, d] => some (a, b, c, d)
  | _ => none
theorem unp2_d {xs : List α} {a b : α} (h : unp2 xs = some (a, b)) : eL o e xs = .lst o [e a, e b] := by
  unfold unp2 at h
  split at h
  · cases h; rfl
  · cases h
theorem unp3_d {xs : List α} {a b c : α} (h : unp3 xs = some (a, b, c)) : eL o e xs = .lst o [e a, e b, e c] := by
  unfold unp3 at h
  split at h
  · cases h; rfl
  · cases h
theorem unp4_d {xs : List α} {a b c d : α} (h : unp4 xs = some (a, b, c, d)) : eL o e xs = .lst o [e a, e b, e c, e d] := by
  unfold unp4 at h
  split at h
  · cases h; rfl
  · cases h
theorem catN_le {xs : List α} {ys : List Unit} {zs : List (Option α)} (h : catO (xs.map some) (ys.map fun _ => none) = some zs) : (xs.map e).length + (ys.map eN).length ≤ sizeLine := by
  have := cat_le (e := eO e) h
  simpa using this
theorem catN_e {xs : List α} {ys : List Unit} {zs : List (Option α)} (h : catO (xs.map some) (ys.map fun _ => none) = some zs) : D.lst true (xs.map e ++ ys.map eN) = eL true (eO e) zs := by
  rw [← catE h, List.map_map, List.map_map]; rfl
end
theorem envI {f : Env → Prop} {env env' : Env} (h : env = env') (k : f env') : f env := by rw [h]; exact k
end TT

/-! N9: things within a list or a dict, changed in place -/
namespace TT
open PySem PySem.Spec PyProof.Rows L2
section
variable {α : Type} {e : α → D} {o : Bool} {d : D}
theorem hitem {xs : List α} {i : Int} {v : α} (h : atI xs i = some v) : ∃ j, ixN (xs.map e).length i = some j ∧ (xs.map e)[j]? = some (e v) ∧ ixN xs.length i = some j := by
  unfold atI at h
  cases hj : ixN xs.length i with
  | none => rw [hj] at h; cases h
  | some j =>
    rw [hj] at h
    exact ⟨j, by rw [List.length_map]; exact hj, by rw [List.getElem?_map, show xs[j]? = some v from h]; rfl, rfl⟩
theorem uI {xs : List α} {i : Int} {j : Nat} {w : α} {P Q : Prop} (hj : P ∧ Q ∧ ixN xs.length i = some j) (q : d = e w) : D.lst o ((xs.map e).set j d) = eL o e (setI xs i w) := by
  unfold eL setI
  rw [hj.2.2, q, List.map_set]
theorem hget_n {kvs : List (Int × α)} {k : Int} {v : α} (h : hGet kvs k = some v) : ((kvs.map fun p => ((Sum.inl p.1 : Key), e p.2)).map (·.1)).Nodup := by
  unfold hGet at h
  split at h
  · rename_i hn
    exact keys_e (g := Sum.inl) inlI kvs hn
  · cases h
theorem hget_l {kvs : List (Int × α)} {k : Int} {v : α} (h : hGet kvs k = some v) : lookK (kvs.map fun p => ((Sum.inl p.1 : Key), e p.2)) (Sum.inl k) = some (e v) := by
  unfold hGet at h
  split at h
  · rw [lookK_e (g := Sum.inl) inlI, h]; rfl
  · cases h
theorem uK {kvs : List (Int × α)} {k : Int} {w : α} (q : d = e w) : D.dct o (putD (kvs.map fun p => ((Sum.inl p.1 : Key), e p.2)) (Sum.inl k) d) = eK o e (dPut kvs k w) := by
  unfold eK
  rw [q, putD_e (g := Sum.inl) inlI]
theorem Cmp.in2F [DecidableEq α] {k : Nat} {f : α → D} (h : Cmp e k) (hp : ∀ a, (f a).py = (e a).py) (a : α) (xs : List α) {i : Decidable (a ∈ xs)} : D.bl ((xs.map e).any fun z => PyData.eqv z.py (f a).py) = .bl (@decide (a ∈ xs) i) := by
  rw [hp, h.inF]
  congr
theorem Cmp.in2N [DecidableEq α] {k : Nat} {f : α → D} (h : Cmp e k) (hp : ∀ a, (f a).py = (e a).py) (a : α) (xs : List α) {i : Decidable (a ∈ xs)} : D.bl (!(xs.map e).any fun z => PyData.eqv z.py (f a).py) = .bl (!@decide (a ∈ xs) i) := by
  rw [hp, h.inN]
  congr
end
section
variable {X : Cx} {a b : Expr} {M R : List Nat} {th : TXH} {tk : TX} {i : Nat} {pos : Pos}
theorem xp_item (ha : XP X a i M th) (hb : XX X b [] R tk) (hs : PlainIx b := by exact fun _ _ => rfl) : XP X (.Subscript a b pos) i M (hItem th tk) := ⟨pe_imp (pe_ix ix_seq ha.pe hb.pe hs) fun σ H Q ⟨S, Qt, eH, s, q, k⟩ => by
  subst eH
  refine ⟨S, _, rfl, s, q, fun S1 v0 v d G up q1 s1 st1 h0 hole => ⟨S1, _, rfl, s1, q1, fun S2 kv kd Fk ⟨eenv, xs, n, j, d1, ed, ek, en, el, q2⟩ s2 st2 v2 => ?_⟩⟩
  subst ed ek
  have hole2 := hole.stp s1 st2 (by simp)
  obtain ⟨a, vs, w, G1, rfl, ha, hl, hw, hole3⟩ := hole2.item el
  refine .inl ⟨a, vs, n, w, rfl, v2.rep.int_inv, .inl (.inl ha), ?_, k S2 v0 w d1 G1 _ q2 s2 (st1.then0 st2) h0 hole3⟩
  unfold atI
  rw [hl, en]
  exact hw⟩
end
theorem cdivS {i j : Int} (h0 : 0 < j) (h1 : j < 1073741824) : CDivW i j := ⟨h0, (Nat.log2_lt (by omega)).mpr (Nat.lt_of_lt_of_le (show j.natAbs < 2 ^ 30 by omega) (Nat.pow_le_pow_right (by decide) (by decide)))⟩
theorem cdivG {i j : Int} (h0 : 0 < j) (h1 : j ≤ 1000000000000000000000000000000000000000000000000000000000000) : CDivW i j := ⟨h0, (Nat.log2_lt (by omega)).mpr (Nat.lt_of_lt_of_le (show j.natAbs < 2 ^ 200 by omega) (Nat.pow_le_pow_right (by decide) (by decide)))⟩
instance (i j : Int) : Decidable (CDivW i j) := by unfold CDivW; infer_instance
end TT

/-! N10: sorted of ints -/
namespace TT
open PySem PySem.Spec PyProof.Rows L2
def sortI (ns : List Int) : List Int := ns.mergeSort fun a b => decide (a ≤ b)
theorem sortI_of {ns ns' : List Int} (h : ns'.Perm ns) (s : ns'.Pairwise (· ≤ ·)) : ns' = sortI ns := by
  refine List.Perm.eq_of_pairwise (le := fun a b : Int => a ≤ b) (fun a b _ _ h1 h2 => Int.le_antisymm h1 h2) s ?_ (h.trans (List.mergeSort_perm _ _).symm)
  have := List.pairwise_mergeSort (le := fun a b : Int => decide (a ≤ b)) (fun a b c h1 h2 => by simp at *; omega) (fun a b => by simp; omega) ns
  exact this.imp fun h => of_decide_eq_true h
def gSortI : List D → (D → Prop) → Prop := r1 fun d Q => ∃ (o : Bool) (ns : List Int), d = .lst o (ns.map D.int) ∧ Q (.lst true ((sortI ns).map D.int))
theorem c_sortI {X : Cx} : CallT X (.builtin "sorted") gSortI := by
  refine ⟨_, cr_sortedI, fun σ S vs ds F Qd P s ra ⟨d, e, o, ns, hn, q⟩ k => ?_⟩
  subst e hn
  obtain ⟨v, rfl, r⟩ := paired1 ra
  obtain ⟨a, vs, rfl, h1, h2⟩ := r.lst_inv s.zh
  refine ⟨a, ns, rfl, by rw [← h2.ints]; exact .inl h1, fun ns' p hp hs hf => ?_⟩
  rw [sortI_of hp hs]
  exact k _ _ _ _ _ q (.lst s hf (.of_ints _))
end TT

/-! N11: isinstance -/
namespace TT
open PySem PySem.Spec PyProof.Rows L2
def tyD : D → Option String
  | .non => some "NoneType"
  | .bl _ => some "bool"
  | .int _ => some "int"
  | .str _ => some "str"
  | .tup _ => some "tuple"
  | .lst _ _ => some "list"
  | .kst _ => some "list"
  | .dct _ _ => some "dict"
  | _ => none
theorem Rep.tyX {K : PySem.W.Frag} {Z H : Hp} {v : V} {d : D} {F : AS} {t : String} (zh : ∀ a o, Z a = some o → H a = some o) (r : Rep K Z H v d F) (h : tyD d = some t) : TyX K H v (.type t) := by
  cases d with
  | non => cases h; rw [r.non_inv]; exact .base .non
  | bl b => cases h; rw [r.bl_inv]; exact .base (.bl b)
  | int i => cases h; rw [r.int_inv]; exact .base (.int i)
  | str x => cases h; rw [r.str_inv]; exact .base (.str x)
  | tup xs =>
    cases h
    obtain ⟨a, vs, rfl, h1, _⟩ := r.tup_inv zh
    exact .base (.tup h1)
  | lst o xs =>
    cases h
    obtain ⟨a, vs, rfl, h1, _⟩ := r.lst_inv zh
    rcases h1 with h1 | ⟨ob, h1⟩
    · exact .base (.lst h1)
    · exact .base (.frz h1)
  | kst xs =>
    cases h
    obtain ⟨a, vs, rfl, h1, _⟩ := r.kst_inv zh
    rcases h1 with (h1 | ⟨ob, h1⟩) | ⟨ob, its, n, h1, h2, _⟩
    · exact .base (.lst h1)
    · exact .base (.frz h1)
    · exact .kList h1 h2
  | dct o kvs =>
    cases h
    obtain ⟨a, m, rfl, h1, _⟩ := r.dct_inv zh
    rcases h1 with h1 | ⟨ob, h1⟩
    · exact .base (.dK h1)
    · exact .fDict h1
  | byt b => cases h
  | ty n => cases h
  | dtt o kvs => cases h
  | ins o C fs => cases h
/-- isinstance(x, c), c a type of the language -/
def gIsi : List D → (D → Prop) → Prop := fun ds Q => ∃ (d : D) (c t : String) (b : Bool), ds = [d, .ty c] ∧ tyD d = some t ∧ kitB t c = some b ∧ Q (.bl b)
theorem Rep.ty_inv {K : PySem.W.Frag} {Z H : Hp} {v : V} {n : String} {F : AS} (r : Rep K Z H v (.ty n) F) : v = .ty n := by cases r; rfl
theorem c_isi {X : Cx} : CallT X (.builtin "isinstance") gIsi := by
  refine ⟨_, call_isi, fun σ S vs ds F Qd P s ra ⟨d, c, t, b, e, ht, hb, q⟩ k => ?_⟩
  subst e
  obtain ⟨v, w, rfl, r, r2⟩ := paired2 ra
  have e := r2.ty_inv
  subst e
  exact ⟨v, _, _, _, b, rfl, .ty c, r.tyX s.zh ht, kit_ty hb, k _ _ _ _ nF q (.imm s (.bl _))⟩
theorem x_tyN {X : Cx} {x : Str} {n : String} {pos : Pos} (hg : Gl X x) (hm : X.mg x = none) (hv : bootBuiltins x = some (.type n)) (hn : x ≠ "__name__" := by decide) (hd : (x == ("__debug__" : Str)) = false := by decide) : XX X (.Name x pos) [] [] (cD (.ty n)) := x_const (pe_bltn hg hm hv (show RelV (.ty n) (.type n) from rfl) hn hd) fun _ _ => .ty n
end TT

/-! B3: the tape that the laws draw from -/
namespace TT
open PySem L2
theorem k_cs : ¬ (Str.ofString "cells" = Str.ofString "spot") := by decide
theorem k_cl : ¬ (Str.ofString "cells" = Str.ofString "left") := by decide
theorem k_sl : ¬ (Str.ofString "spot" = Str.ofString "left") := by decide
theorem k_ls : ¬ (Str.ofString "left" = Str.ofString "spot") := by decide
def tapeD (o : Bool) (cs : List Int) (s l : Int) : D := .dct o [(.inr "cells", .lst o (cs.map D.int)), (.inr "spot", .int s), (.inr "left", .int l)]
@[simp] theorem tape_cells (o cs s l) : dget (tapeD o cs s l) (.str "cells") = some (some (.lst o (cs.map D.int))) := by
  simp [dget, tapeD, keyD, lookK, k_cs, k_cl, k_sl]
@[simp] theorem tape_spot (o cs s l) : dget (tapeD o cs s l) (.str "spot") = some (some (.int s)) := by
  simp [dget, tapeD, keyD, lookK, k_cs, k_cl, k_sl]
@[simp] theorem tape_left (o cs s l) : dget (tapeD o cs s l) (.str "left") = some (some (.int l)) := by
  simp [dget, tapeD, keyD, lookK, k_cs, k_cl, k_sl]
@[simp] theorem tape_puts (cs s l s') : putX (tapeD true cs s l) (.str "spot") (.int s') = some (tapeD true cs s' l) := by
  simp [putX, tapeD, keyD, putD, sizeLine_eq, k_cs, k_cl, k_sl, k_ls]
@[simp] theorem tape_putl (cs s l l') : putX (tapeD true cs s l) (.str "left") (.int l') = some (tapeD true cs s l') := by
  simp [putX, tapeD, keyD, putD, sizeLine_eq, k_cs, k_cl, k_sl, k_ls]
/-- a tape of which at most b cells are read -/
def TapeOk (b : Int) (d : D) : Prop := ∃ cs s l, d = tapeD true cs s l ∧ cs ≠ [] ∧ cs.length ≤ 63 ∧ 0 ≤ s ∧ s ≤ b ∧ 0 ≤ l
theorem TapeOk.mono {b c : Int} {d : D} (h : TapeOk b d) (hc : b ≤ c) : TapeOk c d := by
  obtain ⟨cs, s, l, h1, h2, h3, h4, h5, h6⟩ := h
  exact ⟨cs, s, l, h1, h2, h3, h4, by omega, h6⟩
@[simp] theorem tape_nf (cs s l) : (tapeD true cs s l).nf = true := by
  unfold tapeD
  rw [D.nf, nfK_all]
  simp [nfL_all]
theorem TapeOk.nf {b : Int} {d : D} (h : TapeOk b d) : d.nf = true := by
  obtain ⟨cs, s, l, rfl, _⟩ := h
  exact tape_nf _ _ _
def sp__law_begun : TX := fun env Q => ∃ ns : List Int, env = [some (.kst (ns.map D.int))] ∧ ∀ t, TapeOk 0 t → ∀ fe, nfE fe = true → Q t fe
def sp__law_draw : TX := fun env Q => ∃ (b : Int) (t : D) (k : Int), env = [some t, some (.int k)] ∧ TapeOk b t ∧ b ≤ 1000000000 ∧ 0 < k ∧ k < 1000000000 ∧ ∀ r t', 0 ≤ r → r < k → TapeOk (b + 1) t' → Q (.int r) [some t', none]
def sp__law_pick : TX := fun env Q => ∃ (b : Int) (t : D) (xs : List D), env = [some t, some (.lst false xs)] ∧ TapeOk b t ∧ b ≤ 1000000000 ∧ 0 < xs.length ∧ xs.length < 100000 ∧ (∀ d ∈ xs, d.frz = d) ∧ ∀ d t', d ∈ xs → TapeOk (b + 1) t' → Q d [some t', none]
theorem draw_ok {b : Int} {t : D} {k : Int} {Q : D → Env → Prop} (ht : TapeOk b t) (hb : b ≤ 1000000000) (h0 : 0 < k) (h1 : k < 1000000000) (q : ∀ r t', 0 ≤ r → r < k → TapeOk (b + 1) t' → Q (.int r) [some t', none]) : sp__law_draw [some t, some (.int k)] Q := ⟨b, t, k, rfl, ht, hb, h0, h1, q⟩
theorem pick_ok {b : Int} {t : D} {xs : List D} {Q : D → Env → Prop} (ht : TapeOk b t) (hb : b ≤ 1000000000) (h0 : 0 < xs.length) (h1 : xs.length < 100000) (hf : ∀ d ∈ xs, d.frz = d) (q : ∀ d t', d ∈ xs → TapeOk (b + 1) t' → Q d [some t', none]) : sp__law_pick [some t, some (.lst false xs)] Q := ⟨b, t, xs, rfl, ht, hb, h0, h1, hf, q⟩
theorem stD_snoc {j m : Nat} {x : Nat → Nat → Bool} {y : Nat → Bool} : stD j m x ++ [rowD (rowI m y)] = stD (j + 1) m (fun f c => if f = j then y c else x f c) := by
  unfold stD
  rw [List.range_succ, List.map_append]
  refine congr (congrArg _ (List.map_congr_left fun f hf => ?_)) ?_
  · have : f ≠ j := by have := List.mem_range.mp hf; omega
    unfold rowI
    simp [this]
  · unfold rowI
    simp
theorem natsD_range (n : Nat) : natsD (List.range n) = (List.range' 0 n).map fun i : Nat => D.int (i : Nat) := by
  unfold natsD
  rw [List.range_eq_range']
theorem row_cons {j n : Nat} (h : j < n) : (List.range' j (n - j)).map (fun i : Nat => D.int (i : Nat)) = D.int (j : Nat) :: (List.range' (j + 1) (n - (j + 1))).map fun i : Nat => D.int (i : Nat) := by
  obtain ⟨k, hk⟩ : ∃ k, n - j = k + 1 := ⟨n - j - 1, by omega⟩
  rw [hk, List.range'_succ, List.map_cons, show n - (j + 1) = k by omega]
/-- signs, as ints -/
def pm (b : Bool) : D := .int (if b = true then 1 else -1)
@[simp] theorem pm_frz (b : Bool) : (pm b).frz = pm b := frz_int _
theorem rowI_snoc {c : Nat} {w : Nat → Bool} {v : Bool} : (rowI c w).map D.int ++ [D.int (sg c v)] = (rowI (c + 1) fun c' => if c' = c then v else w c').map D.int := by
  unfold rowI
  rw [List.range_succ, List.map_append, List.map_append]
  refine congr (congrArg _ ?_) ?_
  · rw [List.map_map, List.map_map]
    refine List.map_congr_left fun f hf => ?_
    have : f ≠ c := by have := List.mem_range.mp hf; omega
    simp [this]
  · simp
theorem map_row_cons {α : Type} (f : Nat → α) {j n : Nat} (h : j < n) : (List.range' j (n - j)).map f = f j :: (List.range' (j + 1) (n - (j + 1))).map f := by
  obtain ⟨k, hk⟩ : ∃ k, n - j = k + 1 := ⟨n - j - 1, by omega⟩
  rw [hk, List.range'_succ, List.map_cons, show n - (j + 1) = k by omega]
theorem stD_range' (n m : Nat) (x : Nat → Nat → Bool) : stD n m x = (List.range' 0 (n - 0)).map fun f => rowD (rowI m (x f)) := by
  unfold stD
  rw [List.range_eq_range']; rfl
theorem rowI_range' (m : Nat) (y : Nat → Bool) : (rowI m y).map D.int = (List.range' 0 (m - 0)).map fun c => D.int (sg c (y c)) := by
  unfold rowI
  rw [List.map_map, List.range_eq_range']; rfl
theorem sg_abs (c : Nat) (b : Bool) : (if sg c b < 0 then -sg c b else sg c b) = sg c true := by
  unfold sg
  cases b <;> simp <;> omega
theorem kind_ok {b : Int} {t : D} {xs : List D} {sp : TX} {Q : D → Env → Prop} (h : sp [some t, some (.lst false xs)] Q) : sp [some t, some (.lst false xs)] Q := h
theorem sg_sub (c : Nat) (b : Bool) : 0 - sg c b = sg c (!b) := by rw [Int.zero_sub, sg_neg]
theorem sg_pos (c : Nat) (b : Bool) : 0 < sg c b ↔ b = true := by
  unfold sg
  cases b <;> simp <;> omega
def rowsI (n m : Nat) (x : Nat → Nat → Bool) : List (List Int) := (List.range n).map fun f => rowI m (x f)
theorem stD_rows (n m : Nat) (x : Nat → Nat → Bool) : stD n m x = (rowsI n m x).map rowD := by
  unfold stD rowsI
  rw [List.map_map]; rfl
theorem beatsX_not (n : Nat) (ring : Bool) (k : Nat) (x : Nat → Nat → Bool) : beatsX n ring k (fun f c => !x f c) = fun f c => !beatsX n ring k x f c := by
  funext f c
  exact congrFun (itB_not (n := n) (ring := ring) (x := col x c) k) f
end TT

/-! B4: books, spots, stands that the laws draw -/
namespace TT
open PySem L2
def lists (xss : List (List Int)) : List D := xss.map fun xs => D.lst false (xs.map D.int)
@[simp] theorem lists_frz (xss : List (List Int)) : (lists xss).map D.frz = lists xss := by
  unfold lists
  rw [List.map_map]
  exact List.map_congr_left fun f _ => by simp
@[simp] theorem lists_length (xss : List (List Int)) : (lists xss).length = xss.length := by simp [lists]
def bookD (o : Bool) (ca cl : List (List Int)) (un : List Int) : D := .dct o [(.inr "causes", .lst o (lists ca)), (.inr "clashes", .lst o (lists cl)), (.inr "undone", .lst o (un.map D.int))]
theorem k_ac : ¬ (Str.ofString "causes" = Str.ofString "clashes") := by decide
theorem k_au : ¬ (Str.ofString "causes" = Str.ofString "undone") := by decide
theorem k_cu : ¬ (Str.ofString "clashes" = Str.ofString "undone") := by decide
theorem k_ua : ¬ (Str.ofString "undone" = Str.ofString "causes") := by decide
theorem k_uc : ¬ (Str.ofString "undone" = Str.ofString "clashes") := by decide
theorem k_ca : ¬ (Str.ofString "clashes" = Str.ofString "causes") := by decide
@[simp] theorem book_frz (o ca cl un) : (bookD o ca cl un).frz = bookD false ca cl un := by simp [bookD]
@[simp] theorem book_causes (o ca cl un) : dget (bookD o ca cl un) (.str "causes") = some (some (.lst o (lists ca))) := by simp [dget, bookD, keyD, lookK]
@[simp] theorem book_clashes (o ca cl un) : dget (bookD o ca cl un) (.str "clashes") = some (some (.lst o (lists cl))) := by simp [dget, bookD, keyD, lookK, k_ac]
@[simp] theorem book_undone (o ca cl un) : dget (bookD o ca cl un) (.str "undone") = some (some (.lst o (un.map D.int))) := by simp [dget, bookD, keyD, lookK, k_au, k_cu]
/-- k deeds, each cut once -/
structure BookOk (k : Nat) (ca cl : List (List Int)) (un : List Int) : Prop where
  hca : ca.length = k
  hcl : cl.length = k
  hun : un.length = k
  la : ∀ l ∈ ca, l.length ≤ 100
  ll : ∀ l ∈ cl, l.length ≤ 100
  cuts : (un.map Int.natAbs).Perm (List.range' 1 k)
def sp__law_done : TX := fun env Q => ∃ (b : Int) (t : D) (ca cl : List (List Int)), env = [some t, some (.lst false (lists ca)), some (.lst false (lists cl))] ∧ TapeOk b t ∧ b ≤ 1000000000 - 1000 ∧ ca.length ≤ 100 ∧ cl.length = ca.length ∧ (∀ l ∈ ca, l.length ≤ 100) ∧ (∀ l ∈ cl, l.length ≤ 100) ∧
  ∀ (done : List Int) t', done.length ≤ 100 → (∀ x ∈ done, 0 ≤ x ∧ x < ca.length) → TapeOk (b + 101) t' → Q (.lst true (done.map D.int)) [some t', none, none]
def sp__law_book : TX := fun env Q => ∃ (b : Int) (t : D) (k : Nat), env = [some t, some (.int k)] ∧ TapeOk b t ∧ b ≤ 1000000000 - 100000 ∧ k ≤ 61 ∧ ∀ ca cl un t', BookOk k ca cl un → TapeOk (b + 30000) t' → Q (bookD true ca cl un) [some t', none]
def sp__law_spot : TX := fun env Q => ∃ (b : Int) (t : D) (k : Nat) (ca cl : List (List Int)) (un : List Int), env = [some t, some (bookD false ca cl un)] ∧ TapeOk b t ∧ b ≤ 1000000000 - 2000 ∧ k ≤ 100 ∧ BookOk k ca cl un ∧ ∀ y t', TapeOk (b + 101) t' → Q (rowD (rowI k y)) [some t', none]
def sp__law_stand : TX := fun env Q => ∃ (b : Int) (t : D) (k n : Nat) (ca cl : List (List Int)) (un : List Int), env = [some t, some (bookD false ca cl un), some (.int n)] ∧ TapeOk b t ∧ b ≤ 1000000000 - 100000 ∧ k ≤ 100 ∧ n ≤ 100 ∧ BookOk k ca cl un ∧ ∀ x t', TapeOk (b + 20000) t' → Q (.lst true (stD n k x)) [some t', none, none]
def sp__law_kind : TX := fun env Q => ∃ (b : Int) (t : D) (xs : List D), env = [some t, some (.lst false xs)] ∧ TapeOk b t ∧ b ≤ 1000000000 - 1 ∧ xs.map D.frz = xs ∧ ∀ r t', (r = true → 2 < xs.length) → TapeOk (b + 1) t' → Q (.bl r) [some t', none]
def sp__law_folk : TX := fun env Q => ∃ (b : Int) (t : D), env = [some t] ∧ TapeOk b t ∧ b ≤ 1000000000 - 10 ∧ ∀ r t', 1 ≤ r → r ≤ 30 → TapeOk (b + 4) t' → Q (.int r) [some t']
theorem filterMap_if {α β : Type} (c : α → Bool) (f : α → β) : ∀ L : List α, L.filterMap (fun x => if c x = true then some (f x) else none) = (L.filter c).map f
  | [] => rfl
  | x :: r => by
    rw [List.filterMap_cons, List.filter_cons]
    by_cases h : c x = true
    · rw [if_pos h]
      simp [h, filterMap_if c f r]
    · rw [if_neg h]
      simp [h, filterMap_if c f r]
theorem set_get {env : Env} {v : Nat} {d : Option D} (h : env[v]? = some d) (x : Option D) : (env.set v x).set v d = env := by
  rw [List.set_set]
  refine List.ext_getElem? fun i => ?_
  rw [List.getElem?_set]
  split
  · rename_i e
    subst e
    rw [h]
    split
    · rfl
    · rename_i hlt
      have := (List.getElem?_eq_some_iff.mp h).1
      omega
  · rfl
/-- [x for x in L if x (not) in done] -/
theorem comp_in {v w : Nat} {neg o : Bool} {L done : List Int} {env : Env} {Q : List D → Env → Prop} (hw : env[w]? = some (some (.lst o (done.map D.int)))) (hv : env[v]? = some none) (hvw : v ≠ w)
    (q : Q ((L.filter fun x => if neg = true then !decide (x ∈ done) else decide (x ∈ done)).map D.int) env) :
    compL (gNm v) (tBl (oOp (rInT neg) (vImm v) (vView w))) (vImm v) [v] (L.map D.int) env [] Q := by
  have hlt : v < env.length := (List.getElem?_eq_some_iff.mp hv).1
  refine compL_fm D.int (fun x => if (if neg = true then !decide (x ∈ done) else decide (x ∈ done)) = true then some (D.int x) else none) env L [] (fun x _ K1 K0 h1 h0 => ?_) ?_
  · have g1 : (env.set v (some (D.int x)))[v]? = some (some (D.int x)) := by rw [List.getElem?_set]; simp [hlt]
    have g2 : (env.set v (some (D.int x)))[w]? = some (some (.lst o (done.map D.int))) := by rw [List.getElem?_set_ne hvw]; exact hw
    refine ⟨_, g1, frz_int x, _, g2, ?_⟩
    refine cmp_int0.rin ?_
    refine ⟨_, rfl, ?_⟩
    show if (if neg = true then !decide (x ∈ done) else decide (x ∈ done)) = true then vImm v (env.set v (some (D.int x))) K1 else K0 (env.set v (some (D.int x)))
    by_cases c : (if neg = true then !decide (x ∈ done) else decide (x ∈ done)) = true
    · rw [if_pos c]
      exact ⟨_, g1, frz_int x, h1 _ (by rw [if_pos c]) _ (set_get hv _)⟩
    · rw [if_neg c]
      exact h0 (by rw [if_neg c]) _ (set_get hv _)
  · rw [List.nil_append, filterMap_if]
    exact q
theorem lists_at {xss : List (List Int)} {j : Nat} (h : j < xss.length) {o : Bool} : getIx (.lst o (lists xss)) (.int (j : Nat)) = some (.lst false (xss[j].map D.int)) := ix_lst (by omega) (by simp [lists, h])
theorem absI_nat (i : Int) : absI i = (i.natAbs : Int) := by
  unfold absI
  split <;> omega
/-- sides of all cuts, in order -/
theorem byAbs_row {k : Nat} {l : List Int} (h : (l.map Int.natAbs).Perm (List.range' 1 k)) : ∃ y, byAbs l = rowI k y := by
  have hp : (byAbs l).Perm l := List.mergeSort_perm _ _
  have hs : (byAbs l).Pairwise fun a b => decide (absI a ≤ absI b) = true := List.pairwise_mergeSort (fun a b c h1 h2 => by simp at *; omega) (fun a b => by simp; omega) l
  have e : (byAbs l).map Int.natAbs = List.range' 1 k := by
    refine List.Perm.eq_of_pairwise (le := fun a b : Nat => a ≤ b) (fun a b _ _ h1 h2 => by omega) ?_ ?_ ((hp.map _).trans h)
    · rw [List.pairwise_map]
      refine hs.imp fun {a b} hab => ?_
      have hab := of_decide_eq_true hab
      rw [absI_nat, absI_nat] at hab
      omega
    · exact (List.pairwise_lt_range' (step := 1)).imp fun h => by omega
  refine ⟨fun c => decide (0 < (byAbs l).getD c 0), List.ext_getElem? fun c => ?_⟩
  have hlen : (byAbs l).length = k := by
    have := congrArg List.length e
    simpa using this
  have ec : ((byAbs l).map Int.natAbs)[c]? = (List.range' 1 k)[c]? := by rw [e]
  rw [List.getElem?_map] at ec
  unfold rowI
  rw [List.getElem?_map]
  by_cases hc : c < k
  · have h1 : (byAbs l)[c]? = some (byAbs l)[c] := List.getElem?_eq_getElem (by omega)
    rw [h1] at ec ⊢
    have h2 : (List.range' 1 k)[c]? = some (1 + c) := by rw [List.getElem?_range' hc]; simp
    rw [h2] at ec
    have ec : (byAbs l)[c].natAbs = 1 + c := Option.some.inj ec
    have h3 : (List.range k)[c]? = some c := by simp [hc]
    rw [h3]
    simp only [Option.map_some, List.getD, h1, Option.getD_some]
    unfold sg
    split
    · rename_i hp
      have hp := of_decide_eq_true hp
      congr 1; omega
    · rename_i hp
      have hp : ¬ 0 < (byAbs l)[c] := fun z => hp (decide_eq_true z)
      congr 1; omega
  · rw [List.getElem?_eq_none (by omega), List.getElem?_eq_none (by simp; omega)]
    rfl
def bookE (a b c : List D) : D := .dct true [(.inr "causes", .lst true a), (.inr "clashes", .lst true b), (.inr "undone", .lst true c)]
theorem bookE_eq (ca cl un) : bookE (lists ca) (lists cl) (un.map D.int) = bookD true ca cl un := rfl
theorem lst_out {P : List D → Prop} {A : List D} {o : Bool} : (∃ xs, D.lst o A = D.lst o xs ∧ P xs) = P A := by
  refine propext ⟨?_, fun p => ⟨A, rfl, p⟩⟩
  rintro ⟨xs, e, p⟩
  cases e
  exact p
section
variable {i : Nat} {env : Env} {ta : TX} {Q : D → Env → Prop} {a b c : List D}
theorem happ_eq {kvs : List (Key × D)} {k : Key} {A : List D} {x : Str} (hi : env[i]? = some (some (.dct true kvs))) (hk : keyD (.str x) = some k) (hl : lookK kvs k = some (.lst true A)) (nd : (kvs.map (·.1)).Nodup) :
    hApp i (hKey (hName i) (cD (.str x))) ta env Q = ta env fun y env2 => A.length < sizeLine ∧ Q .non (env2.set i (some (.dct true (putD kvs k (.lst true (A ++ [y])))))) := by
  have step : ∀ (up : D → D), (ta env fun y env2 => ∃ xs, D.lst true A = .lst true xs ∧ xs.length < sizeLine ∧ Q .non (env2.set i (some (up (.lst true (xs ++ [y])))))) = ta env fun y env2 => A.length < sizeLine ∧ Q .non (env2.set i (some (up (.lst true (A ++ [y]))))) := fun up => by
    congr 1
    funext y env2
    exact lst_out (P := fun xs => xs.length < sizeLine ∧ Q .non (env2.set i (some (up (.lst true (xs ++ [y]))))))
  refine propext ⟨?_, fun h => ?_⟩
  · rintro ⟨d, hd, e0, kvs', k', d1, ed, ek, el, _, isl, h⟩
    rw [hi] at hd
    cases hd
    cases ed
    rw [hk] at ek
    cases ek
    rw [hl] at el
    cases el
    exact (step fun d' => id (.dct true (putD kvs k d'))) ▸ h
  · refine ⟨_, hi, rfl, kvs, k, _, rfl, hk, hl, nd, rfl, ?_⟩
    exact (step fun d' => id (.dct true (putD kvs k d'))).symm ▸ h
theorem nd_book (x y z : D) : (([(.inr "causes", x), (.inr "clashes", y), (.inr "undone", z)] : List (Key × D)).map (·.1)).Nodup := by
  simp [k_ac, k_au, k_cu]
theorem app_causes (hi : env[i]? = some (some (bookE a b c))) : hApp i (hKey (hName i) (cD (.str "causes"))) ta env Q = ta env fun y env2 => a.length < sizeLine ∧ Q .non (env2.set i (some (bookE (a ++ [y]) b c))) := by
  rw [happ_eq (A := a) hi rfl (by simp [lookK]) (nd_book _ _ _)]
  simp [putD, bookE, k_ca, k_ua]
theorem app_clashes (hi : env[i]? = some (some (bookE a b c))) : hApp i (hKey (hName i) (cD (.str "clashes"))) ta env Q = ta env fun y env2 => b.length < sizeLine ∧ Q .non (env2.set i (some (bookE a (b ++ [y]) c))) := by
  rw [happ_eq (A := b) hi rfl (by simp [lookK, k_ac]) (nd_book _ _ _)]
  simp [putD, bookE, k_ac, k_uc]
theorem app_undone (hi : env[i]? = some (some (bookE a b c))) : hApp i (hKey (hName i) (cD (.str "undone"))) ta env Q = ta env fun y env2 => c.length < sizeLine ∧ Q .non (env2.set i (some (bookE a b (c ++ [y])))) := by
  rw [happ_eq (A := c) hi rfl (by simp [lookK, k_au, k_cu]) (nd_book _ _ _)]
  simp [putD, bookE, k_au, k_cu]
end
theorem lists_snoc (xss : List (List Int)) (l : List Int) : lists xss ++ [D.lst false (l.map D.int)] = lists (xss ++ [l]) := by unfold lists; rw [List.map_append]; rfl
theorem sum_le100 : ∀ {ns : List Nat}, (∀ n ∈ ns, n ≤ 100) → ns.sum ≤ 100 * ns.length
  | [], _ => by simp
  | n :: ns, h => by
    have := sum_le100 fun m hm => h m (List.mem_cons_of_mem _ hm)
    have := h n List.mem_cons_self
    simp only [List.sum_cons, List.length_cons]
    omega
theorem map_erase {α β : Type} (f : α → β) : ∀ (l : List α) (i : Nat), (l.map f).eraseIdx i = (l.eraseIdx i).map f
  | [], _ => rfl
  | _ :: _, 0 => rfl
  | a :: r, i + 1 => by rw [List.map_cons, List.eraseIdx_cons_succ, List.eraseIdx_cons_succ, List.map_cons, map_erase f r i]
theorem erase_perm {α : Type} {x : α} : ∀ {l : List α} {i : Nat}, l[i]? = some x → (x :: l.eraseIdx i).Perm l
  | [], _, h => by simp at h
  | a :: r, 0, h => by
    simp at h
    subst h
    exact .refl _
  | a :: r, i + 1, h => by
    rw [List.eraseIdx_cons_succ]
    exact (List.Perm.swap a x _).trans ((erase_perm (l := r) (i := i) (by simpa using h)).cons a)
theorem cut_mem {α : Type} {xs : List α} {lo hi : Option Int} {d : α} (h : d ∈ cutL xs lo hi) : d ∈ xs := by
  unfold cutL at h
  exact List.mem_of_mem_drop (List.mem_of_mem_take h)
theorem cut_len {α : Type} (xs : List α) (lo hi : Option Int) : (cutL xs lo hi).length ≤ xs.length := by
  unfold cutL
  refine Nat.le_trans (List.length_take_le' _ _) ?_
  simp
theorem map_frz_id {xs : List D} (h : ∀ d ∈ xs, d.frz = d) : xs.map D.frz = xs := by
  have := List.map_congr_left (f := D.frz) (g := id) h
  rw [this, List.map_id]
theorem stD_mem {n m : Nat} {x : Nat → Nat → Bool} {d : D} (h : d ∈ stD n m x) : ∃ y, d = rowD (rowI m y) := by
  unfold stD at h
  obtain ⟨f, _, rfl⟩ := List.mem_map.mp h
  exact ⟨_, rfl⟩
end TT

/-! B5: held, rest -/
namespace TT
open PySem L2
def topN (ns : List Nat) : Nat := ns.foldl max 0
theorem foldl_max (a : Nat) : ∀ ns : List Nat, ns.foldl max a = max a (topN ns)
  | [] => by simp [topN]
  | n :: r => by
    unfold topN
    rw [List.foldl_cons, List.foldl_cons, foldl_max (max a n) r, foldl_max (max 0 n) r]
    omega
theorem topN_cons (n : Nat) (r : List Nat) : topN (n :: r) = max n (topN r) := by
  show r.foldl max (max 0 n) = _
  rw [foldl_max]; omega
theorem topN_ge : ∀ {ns : List Nat} {n : Nat}, n ∈ ns → n ≤ topN ns
  | m :: r, n, h => by
    rw [topN_cons]
    rcases List.mem_cons.mp h with rfl | h
    · omega
    · have := topN_ge h; omega
theorem topN_mem : ∀ {ns : List Nat}, ns ≠ [] → topN ns ∈ ns
  | [n], _ => by rw [topN_cons]; simp [topN]
  | n :: m :: r, _ => by
    rw [topN_cons]
    have h := topN_mem (ns := m :: r) (by simp)
    rcases Nat.le_total n (topN (m :: r)) with q | q
    · rw [Nat.max_eq_right q]; exact List.mem_cons_of_mem _ h
    · rw [Nat.max_eq_left q]; exact List.mem_cons_self
theorem topN_le {ns : List Nat} {b : Nat} (h : ∀ n ∈ ns, n ≤ b) : topN ns ≤ b := by
  cases ns with
  | nil => exact Nat.zero_le _
  | cons n r => exact h _ (topN_mem (by simp))
/-- what python's max finds -/
theorem topN_int {ns : List Nat} {m : Int} (hm : m ∈ ns.map fun n : Nat => (n : Int)) (hle : ∀ y ∈ ns.map fun n : Nat => (n : Int), y ≤ m) : m = (topN ns : Nat) := by
  obtain ⟨a, ha, rfl⟩ := List.mem_map.mp hm
  have h1 := topN_ge ha
  have hne : ns ≠ [] := fun e => by rw [e] at ha; cases ha
  have h2 := hle _ (List.mem_map_of_mem (topN_mem hne))
  omega
def farTop (n : Nat) (ring : Bool) (x : Cfg) : Nat := topN ((List.range n).map (farP n ring x))
/-- the beat from which all rest (but what swings) -/
def latest (n m : Nat) (ring : Bool) (x : Nat → Nat → Bool) : Nat := topN (((List.range m).filter fun c => anyHeld n ring (col x c)).map fun c => farTop n ring (col x c))
def swings (n m : Nat) (ring : Bool) (x : Nat → Nat → Bool) : List Nat := (List.range m).filter fun c => !anyHeld n ring (col x c)
def tableD (o : Bool) (n m : Nat) (ring : Bool) (x : Nat → Nat → Bool) : List D := (List.range m).map fun c => farD o n ring (col x c)
@[simp] theorem tableD_length (o n m ring x) : (tableD o n m ring x).length = m := by simp [tableD]
@[simp] theorem tableD_frz (o n m ring x) : (tableD o n m ring x).map D.frz = tableD false n m ring x := by
  unfold tableD
  rw [List.map_map]
  exact List.map_congr_left fun c _ => farD_frz _ _ _ _
def sp_held : TX := fun env Q => ∃ (n m : Nat) (x : Nat → Nat → Bool) (c : Nat) (ring : Bool), env = [some (.lst false (stD n m x)), some (.int ((c : Int) + 1)), some (.bl ring)] ∧ c < m ∧ n ≤ 1000 ∧ ∀ fe, nfE fe = true → Q (.lst true (natsD ((List.range n).filter fun f => heldB n ring (col x c) f))) fe
def sp_latest_of : TX := fun env Q => ∃ (n m : Nat) (x : Nat → Nat → Bool) (ring : Bool), env = [some (.lst false (tableD false n m ring x))] ∧ 0 < n ∧ n ≤ 1000 ∧ m ≤ 1000 ∧ ∀ fe, nfE fe = true → Q (.int (latest n m ring x : Nat)) fe
def sp_rest : TX := fun env Q => ∃ (n m : Nat) (x : Nat → Nat → Bool) (ring : Bool), env = [some (.lst false (stD n m x)), some (.bl ring)] ∧ 0 < n ∧ n ≤ 1000 ∧ m ≤ 1000 ∧ ∀ fe, nfE fe = true → Q (.tup [.int (latest n m ring x : Nat), .lst true (natsD ((swings n m ring x).map (· + 1)))]) fe
theorem req_pair {neg o o' : Bool} {a : Int} {ns : List Int} {QP : D → Prop} (q : QP (.bl (if neg = true then false else true))) : rEqT neg (.tup [.int a, .lst o (ns.map D.int)]) (.tup [.int a, .lst o' (ns.map D.int)]) QP := by
  have hc : ∀ o : Bool, cmpD (.tup [.int a, .lst o (ns.map D.int)]) = true := fun o => by
    have h1 := (cmp_int0.lst o).lay ns
    have h2 := (cmp_int0.lst o).dep ns
    have h3 := (cmp_int0.lst o).ok ns
    unfold cmpD SeqAt.shaped
    rw [D.pyok, pyokL, pyokL, pyokL, h3, py_tup, pyL, pyL, pyL]
    simp only [PyData.canLay0, PyData.canLayAll0, PyData.depth, PyData.depthAll, h1]
    rw [cmp_int0.ok, cmp_int0.lay]
    have h4 : (PyData.int a).depth ≤ 0 := by have := cmp_int0.dep a; rwa [py_int] at this
    simp
    omega
  refine ⟨hc o, hc o', ?_⟩
  rw [py_tup, py_tup, pyL, pyL, pyL, pyL, pyL, pyL, py_lst, py_lst]
  simp only [PyData.eqv, PyData.eqvAll]
  rw [cmp_int0.eqv, cmp_int0.eqvAll]
  simpa using q
theorem natsD_ints (l : List Nat) : natsD l = (l.map fun i : Nat => (i : Int)).map D.int := by unfold natsD; rw [List.map_map]; rfl
@[simp] theorem stD_nf (o n m x) : (D.lst o (stD n m x)).nf = o := by unfold stD; simp
@[simp] theorem stD_all (n m x) : (stD n m x).all D.nf = true := by unfold stD; simp
@[simp] theorem natsD_nf (l : List Nat) : (natsD l).all D.nf = true := by simp [natsD]
/-- one cut by itself -/
def alone (x : Nat → Nat → Bool) (c : Nat) : Nat → Nat → Bool := fun f j => x f (([c] : List Nat)[j]?.getD 0)
def restD (n m : Nat) (ring : Bool) (x : Nat → Nat → Bool) : D := .tup [.int (latest n m ring x : Nat), .lst true (natsD ((swings n m ring x).map (· + 1)))]
theorem alone_latest (n : Nat) (ring : Bool) (x : Nat → Nat → Bool) (c : Nat) : latest n 1 ring (alone x c) = if anyHeld n ring (col x c) = true then farTop n ring (col x c) else 0 := by
  have e : List.range 1 = [0] := rfl
  unfold latest
  rw [e]
  have h : anyHeld n ring (col (alone x c) 0) = anyHeld n ring (col x c) := rfl
  rw [List.filter_cons]
  by_cases q : anyHeld n ring (col x c) = true
  · rw [h, if_pos q, if_pos q]
    show topN [farTop n ring (col x c)] = _
    rw [topN_cons]; simp [topN]
  · rw [h, if_neg q, if_neg q]; rfl
theorem alone_swings (n : Nat) (ring : Bool) (x : Nat → Nat → Bool) (c : Nat) : swings n 1 ring (alone x c) = if anyHeld n ring (col x c) = true then [] else [0] := by
  have e : List.range 1 = [0] := rfl
  unfold swings
  rw [e]
  have h : anyHeld n ring (col (alone x c) 0) = anyHeld n ring (col x c) := rfl
  rw [List.filter_cons]
  by_cases q : anyHeld n ring (col x c) = true
  · rw [h, if_pos q]; simp [q]
  · rw [h, if_neg q]; simp [q]
theorem latest_top (n m : Nat) (ring : Bool) (x : Nat → Nat → Bool) : topN ((List.range m).map fun c => latest n 1 ring (alone x c)) = latest n m ring x := by
  unfold latest
  have : ∀ cs : List Nat, topN (cs.map fun c => latest n 1 ring (alone x c)) = topN ((cs.filter fun c => anyHeld n ring (col x c)).map fun c => farTop n ring (col x c)) := fun cs => by
    induction cs with
    | nil => rfl
    | cons c r ih =>
      rw [List.map_cons, topN_cons, ih, alone_latest, List.filter_cons]
      by_cases q : anyHeld n ring (col x c) = true
      · rw [if_pos q, if_pos q, List.map_cons, topN_cons]
      · rw [if_neg q, if_neg q]; omega
  exact this _
def restF (n m : Nat) (ring : Bool) (x : Nat → Nat → Bool) : D := .tup [.int (latest n m ring x : Nat), .lst false (natsD ((swings n m ring x).map (· + 1)))]
@[simp] theorem restD_frz (n m ring x) : (restD n m ring x).frz = restF n m ring x := by simp [restD, restF]
@[simp] theorem restF_frz (n m ring x) : (restF n m ring x).frz = restF n m ring x := by simp [restF]
end TT

/-! Q0: going on with plain values: the plain steps of the mirrors -/
namespace TT
open PySem PySem.Spec PyProof.Rows L2
section
variable {α β γ σ ρ : Type}
/-- not by rfl: the kernel would compare two binds by their parts -/
theorem bsome {a : α} {f : α → Option β} : (some a).bind f = f a := of_eq_true (eq_true rfl)
def natI (l : List Nat) : List Int := l.map fun i : Nat => (i : Int)
@[simp] theorem natI_length (l : List Nat) : (natI l).length = l.length := by simp [natI]
theorem rngI0 (n : Nat) : rngI 0 n = natI (List.range n) := List.map_congr_left fun i _ => by omega
theorem rngI1 (n : Nat) : rngI 1 n = natI (List.range' 1 n) := by
  unfold rngI natI
  rw [List.range'_eq_map_range, List.map_map]
  exact List.map_congr_left fun i _ => by simp
theorem rng1_nat {n : Nat} {j : Int} (h : j = n) (hn : n ≤ 1000000000) : rng1 j = some (natI (List.range n)) := by
  subst h
  unfold rng1
  rw [if_pos (by omega), rngI0]
  simp
theorem rng2_nat {n : Nat} {i j : Int} (h : i = 1) (h2 : j = n) (hn : n ≤ 1000000000) : rng2 i j = some (natI (List.range' 1 (n - 1))) := by
  subst h h2
  unfold rng2
  rw [if_pos (by omega), rngI1]
  congr 3
  omega
theorem lrgQ {i j : Int} (h1 : 0 ≤ i) (h2 : i ≤ 100000) (h3 : 0 ≤ j) (h4 : j ≤ 100000) : lrg i j = some (rngI i (j - i).toNat) := by
  unfold lrg
  rw [if_pos]
  exact .of_le (by omega) (by omega) (by omega) (by omega)
theorem at_nat {xs : List α} {j : Nat} {a : α} (h : xs[j]? = some a) : atI xs (j : Nat) = some a := by
  obtain ⟨h1, h2⟩ := List.getElem?_eq_some_iff.mp h
  unfold atI
  rw [ixN_of (by omega) (by omega)]
  simpa using h
theorem at_int {xs : List α} {i : Int} {a : α} (h0 : 0 ≤ i) (h : xs[i.toNat]? = some a) : atI xs i = some a := by
  have := at_nat h
  rwa [Int.toNat_of_nonneg h0] at this
theorem push_ok {xs : List α} {x : α} (h : xs.length < 100000) : pushO xs x = some (xs ++ [x]) := by
  unfold pushO
  rw [if_pos (Nat.lt_of_lt_of_le h (size_le (Nat.le_refl _)))]
theorem cat_ok {xs ys : List α} (h : xs.length + ys.length ≤ 100000) : catO xs ys = some (xs ++ ys) := by
  unfold catO
  rw [if_pos (size_le h)]
theorem repQ {xs : List α} {k : Int} {n : Nat} (hk : k = n) (hn : n ≤ 1000000000) (h : xs.length * n ≤ 100000) : repO xs k = some (List.replicate n xs).flatten := by
  subst hk
  unfold repO
  rw [if_pos ⟨by omega, by omega, size_le (by simpa using h)⟩]
  simp
theorem wp_eq {m : Option α} {v : α} (h : Wp m fun y => y = v) : m = some v := by
  obtain ⟨a, e, rfl⟩ := h
  exact e
theorem wp_at {xs : List α} {i : Int} {f : α → Option β} {K : β → Prop} (h0 : 0 ≤ i) (h1 : i < xs.length) (k : ∀ a, xs[i.toNat]? = some a → Wp (f a) K) : Wp ((atI xs i).bind f) K :=
  have e : xs[i.toNat]? = some (xs[i.toNat]'(by omega)) := List.getElem?_eq_getElem _
  wp_step (at_int h0 e) (k _ e)
theorem wp_push {xs : List α} {x : α} {f : List α → Option β} {K : β → Prop} (h : xs.length < 100000) (k : Wp (f (xs ++ [x])) K) : Wp ((pushO xs x).bind f) K := wp_step (push_ok h) k
theorem wp_cat {xs ys : List α} {f : List α → Option β} {K : β → Prop} (h : xs.length + ys.length ≤ 100000) (k : Wp (f (xs ++ ys)) K) : Wp ((catO xs ys).bind f) K := wp_step (cat_ok h) k
theorem wp_rep {xs : List α} {k : Int} {n : Nat} {f : List α → Option β} {K : β → Prop} (hk : k = n) (hn : n ≤ 1000000000) (h : xs.length * n ≤ 100000) (q : Wp (f (List.replicate n xs).flatten) K) : Wp ((repO xs k).bind f) K := wp_step (repQ hk hn h) q
theorem wp_rng1 {n : Nat} {j : Int} {f : List Int → Option β} {K : β → Prop} (h : j = n) (hn : n ≤ 1000000000) (k : Wp (f (natI (List.range n))) K) : Wp ((rng1 j).bind f) K := wp_step (rng1_nat h hn) k
theorem wp_lrg {i j : Int} {f : List Int → Option β} {K : β → Prop} (h1 : 0 ≤ i) (h2 : i ≤ 100000) (h3 : 0 ≤ j) (h4 : j ≤ 100000) (k : Wp (f (rngI i (j - i).toNat)) K) : Wp ((lrg i j).bind f) K := wp_step (lrgQ h1 h2 h3 h4) k
theorem wp_cmapT {xs : List α} {g : α → γ} {f : List γ → Option β} {K : β → Prop} (h : xs.length ≤ 100000) (k : Wp (f (xs.map g)) K) : Wp ((cmapT g xs).bind f) K := wp_step (by unfold cmapT; rw [if_pos (size_le h)]) k
theorem wp_cfltT {xs : List α} {p : α → Bool} {g : α → γ} {f : List γ → Option β} {K : β → Prop} (h : xs.length ≤ 100000) (k : Wp (f ((xs.filter p).map g)) K) : Wp ((cfltT p g xs).bind f) K := wp_step (by unfold cfltT; rw [if_pos (size_le h)]) k
theorem mapP_eq {f : α → Option β} {g : α → β} : ∀ {xs : List α}, (∀ a, a ∈ xs → f a = some (g a)) → mapP f xs = some (xs.map g)
  | [], _ => rfl
  | x :: xs, h => by rw [mapP, h x List.mem_cons_self, Option.bind_some, mapP_eq fun a ha => h a (List.mem_cons_of_mem _ ha)]; rfl
theorem cmapP_eq {f : α → Option β} {g : α → β} {xs : List α} (hn : xs.length ≤ 100000) (h : ∀ a, a ∈ xs → f a = some (g a)) : cmapP f xs = some (xs.map g) := by
  unfold cmapP
  rw [if_pos (size_le hn), mapP_eq h]
theorem wp_cmapP {xs : List α} {g : α → Option γ} {f : List γ → Option β} {K : β → Prop} (g' : α → γ) (hn : xs.length ≤ 100000) (h : ∀ a, a ∈ xs → g a = some (g' a)) (k : Wp (f (xs.map g')) K) : Wp ((cmapP g xs).bind f) K := wp_step (cmapP_eq hn h) k
/-- .. when only something about each is known -/
theorem mapP_W {g : α → Option γ} {P : α → γ → Prop} : ∀ {xs : List α}, (∀ a, a ∈ xs → Wp (g a) (P a)) → ∃ ys, mapP g xs = some ys ∧ ys.length = xs.length ∧ ∀ (i : Nat) (a : α), xs[i]? = some a → ∃ c, ys[i]? = some c ∧ P a c
  | [], _ => ⟨[], rfl, rfl, fun i a h => by simp at h⟩
  | x :: xs, h => by
    obtain ⟨ys, e, hl, hp⟩ := mapP_W fun a ha => h a (List.mem_cons_of_mem _ ha)
    obtain ⟨c, ec, hc⟩ := h x List.mem_cons_self
    refine ⟨c :: ys, by rw [mapP, ec, Option.bind_some, e]; rfl, by simp [hl], fun i a hi => ?_⟩
    cases i with
    | zero => simp at hi; subst hi; exact ⟨c, rfl, hc⟩
    | succ i => exact hp i a (by simpa using hi)
theorem wp_cmapW {xs : List α} {g : α → Option γ} {f : List γ → Option β} {K : β → Prop} (P : α → γ → Prop) (hn : xs.length ≤ 100000) (h : ∀ a, a ∈ xs → Wp (g a) (P a)) (k : ∀ ys : List γ, ys.length = xs.length → (∀ (i : Nat) (a : α), xs[i]? = some a → ∃ c, ys[i]? = some c ∧ P a c) → Wp (f ys) K) : Wp ((cmapP g xs).bind f) K := by
  obtain ⟨ys, e, hl, hp⟩ := mapP_W h
  exact wp_step (by unfold cmapP; rw [if_pos (size_le hn)]; exact e) (k ys hl hp)
/-! loops, with what holds before each turn -/
theorem loopS_I {f : α → σ → Option σ} {K : σ → Prop} (I : List α → σ → Prop) (hs : ∀ a r s, I (a :: r) s → Wp (f a s) (I r)) (hk : ∀ s, I [] s → K s) : ∀ (xs : List α) (s : σ), I xs s → Wp (loopS f xs s) K
  | [], s, h => ⟨s, rfl, hk s h⟩
  | x :: xs, s, h => wp_bind ((hs x xs s h).mono fun s' h' => loopS_I I hs hk xs s' h')
theorem wp_loopS {f : α → σ → Option σ} {xs : List α} {s : σ} {k : σ → Option β} {K : β → Prop} (I : List α → σ → Prop) (h0 : I xs s) (hs : ∀ a r s, I (a :: r) s → Wp (f a s) (I r)) (hk : ∀ s, I [] s → Wp (k s) K) : Wp ((loopS f xs s).bind k) K := wp_bind (loopS_I I hs hk xs s h0)
theorem loopR_I {f : Int → σ → Option σ} {n : Nat} {K : σ → Prop} (I : Nat → σ → Prop) (hs : ∀ j s, j < n → I j s → Wp (f (j : Nat) s) (I (j + 1))) (hk : ∀ s, I n s → K s) {s : σ} (h0 : I 0 s) : Wp (loopS f (natI (List.range n)) s) K := by
  refine loopS_I (fun r s => ∃ j, j ≤ n ∧ r = natI (List.range' j (n - j)) ∧ I j s) (fun a r s => ?_) (fun s => ?_) _ s ⟨0, by omega, by rw [List.range_eq_range']; rfl, h0⟩
  · rintro ⟨j, hj, e, h⟩
    have : j < n := by
      have := congrArg List.length e
      simp at this; omega
    have e2 : List.range' j (n - j) = j :: List.range' (j + 1) (n - (j + 1)) := by
      rw [show n - j = (n - (j + 1)) + 1 by omega, List.range'_succ]
    rw [e2] at e
    obtain ⟨rfl, rfl⟩ := List.cons.inj e
    exact (hs j s this h).mono fun s' h' => ⟨j + 1, this, rfl, h'⟩
  · rintro ⟨j, hj, e, h⟩
    have := congrArg List.length e
    have : j = n := by simp at this; omega
    subst this
    exact hk s h
theorem wp_loopR {f : Int → σ → Option σ} {n : Nat} {s : σ} {k : σ → Option β} {K : β → Prop} (I : Nat → σ → Prop) (h0 : I 0 s) (hs : ∀ j s, j < n → I j s → Wp (f (j : Nat) s) (I (j + 1))) (hk : ∀ s, I n s → Wp (k s) K) : Wp ((loopS f (natI (List.range n)) s).bind k) K := wp_bind (loopR_I I hs hk h0)
/-- a loop whose turns all go on -/
def GoF (I : σ → Prop) : Flow ρ σ → Prop
  | .go s => I s
  | _ => False
theorem loopF_I {f : α → σ → Option (Flow ρ σ)} {K : Flow ρ σ → Prop} (I : σ → Prop) (hs : ∀ a s, I s → Wp (f a s) (GoF I)) (hk : ∀ s, I s → K (.go s)) : ∀ (xs : List α) (s : σ), I s → Wp (loopF f xs s) K
  | [], s, h => ⟨.go s, rfl, hk s h⟩
  | x :: xs, s, h => wp_bind ((hs x s h).mono fun s' h' => by
    cases s' with
    | go s' => exact loopF_I I hs hk xs s' h'
    | brk s' => exact h'.elim
    | ret r => exact h'.elim)
theorem wp_loopF {f : α → σ → Option (Flow ρ σ)} {xs : List α} {s : σ} {k : Flow ρ σ → Option β} {K : β → Prop} (I : σ → Prop) (h0 : I s) (hs : ∀ a s, I s → Wp (f a s) (GoF I)) (hk : ∀ s, I s → Wp (k (.go s)) K) : Wp ((loopF f xs s).bind k) K := wp_bind (loopF_I I hs hk xs s h0)
/-- .. a turn at a time, with the turn's item -/
theorem loopF_J {f : α → σ → Option (Flow ρ σ)} {K : Flow ρ σ → Prop} (I : List α → σ → Prop) (hs : ∀ a r s, I (a :: r) s → Wp (f a s) (GoF (I r))) (hk : ∀ s, I [] s → K (.go s)) : ∀ (xs : List α) (s : σ), I xs s → Wp (loopF f xs s) K
  | [], s, h => ⟨.go s, rfl, hk s h⟩
  | x :: xs, s, h => wp_bind ((hs x xs s h).mono fun s' h' => by
    cases s' with
    | go s' => exact loopF_J I hs hk xs s' h'
    | brk s' => exact h'.elim
    | ret r => exact h'.elim)
theorem wp_loopJ {f : α → σ → Option (Flow ρ σ)} {xs : List α} {s : σ} {k : Flow ρ σ → Option β} {K : β → Prop} (I : List α → σ → Prop) (h0 : I xs s) (hs : ∀ a r s, I (a :: r) s → Wp (f a s) (GoF (I r))) (hk : ∀ s, I [] s → Wp (k (.go s)) K) : Wp ((loopF f xs s).bind k) K := wp_bind (loopF_J I hs hk xs s h0)
/-! comprehensions that change the names -/
theorem fmS_I {f : α → σ → Option (Option γ × σ)} {I : List α → List γ → σ → Prop} (hs : ∀ a r acc s, I (a :: r) acc s → Wp (f a s) fun q => I r (acc ++ q.1.toList) q.2) : ∀ (xs : List α) (acc : List γ) (s : σ), I xs acc s → Wp (fmS f xs s) fun q => I [] (acc ++ q.1) q.2
  | [], acc, s, h => ⟨([], s), rfl, by simpa using h⟩
  | x :: xs, acc, s, h => wp_bind ((hs x xs acc s h).mono fun q hq => wp_bind ((fmS_I hs xs _ _ hq).mono fun z hz => wp_some (by simpa using hz)))
theorem wp_cfmS {f : α → σ → Option (Option γ × σ)} {xs : List α} {s : σ} {k : List γ × σ → Option β} {K : β → Prop} (hn : xs.length ≤ 100000) (I : List α → List γ → σ → Prop) (h0 : I xs [] s) (hs : ∀ a r acc s, I (a :: r) acc s → Wp (f a s) fun q => I r (acc ++ q.1.toList) q.2) (hk : ∀ ys s, I [] ys s → Wp (k (ys, s)) K) : Wp ((cfmS f xs s).bind k) K := by
  refine wp_bind ?_
  unfold cfmS
  rw [if_pos (size_le hn)]
  exact (fmS_I hs xs [] s h0).mono fun q hq => hk q.1 q.2 hq
theorem mapS_I {f : α → σ → Option (γ × σ)} {I : List α → List γ → σ → Prop} (hs : ∀ a r acc s, I (a :: r) acc s → Wp (f a s) fun q => I r (acc ++ [q.1]) q.2) : ∀ (xs : List α) (acc : List γ) (s : σ), I xs acc s → Wp (mapS f xs s) fun q => I [] (acc ++ q.1) q.2
  | [], acc, s, h => ⟨([], s), rfl, by simpa using h⟩
  | x :: xs, acc, s, h => wp_bind ((hs x xs acc s h).mono fun q hq => wp_bind ((mapS_I hs xs _ _ hq).mono fun z hz => wp_some (by simpa using hz)))
theorem wp_cmapS {f : α → σ → Option (γ × σ)} {xs : List α} {s : σ} {k : List γ × σ → Option β} {K : β → Prop} (hn : xs.length ≤ 100000) (I : List α → List γ → σ → Prop) (h0 : I xs [] s) (hs : ∀ a r acc s, I (a :: r) acc s → Wp (f a s) fun q => I r (acc ++ [q.1]) q.2) (hk : ∀ ys s, I [] ys s → Wp (k (ys, s)) K) : Wp ((cmapS f xs s).bind k) K := by
  refine wp_bind ?_
  unfold cmapS
  rw [if_pos (size_le hn)]
  exact (mapS_I hs xs [] s h0).mono fun q hq => hk q.1 q.2 hq
theorem enumI_range (f : Nat → α) (n : Nat) : enumI 0 ((List.range n).map f) = (List.range n).map fun (i : Nat) => ((i : Int), f i) := by
  have : ∀ (n k : Nat), enumI (k : Nat) ((List.range' k n).map f) = (List.range' k n).map fun i : Nat => ((i : Int), f i) := by
    intro n
    induction n with
    | zero => intro k; rfl
    | succ n ih =>
      intro k
      rw [List.range'_succ, List.map_cons, List.map_cons, enumI]
      exact congrArg _ (ih (k + 1))
  rw [List.range_eq_range']
  exact this n 0
/-- a loop that makes a list, one thing a turn -/
theorem loop_push {f : α → List β → Option (List β)} {g : α → β} : ∀ {xs : List α} {acc : List β}, acc.length + xs.length ≤ 100000 → (∀ a, a ∈ xs → ∀ acc, acc.length < 100000 → f a acc = some (acc ++ [g a])) → loopS f xs acc = some (acc ++ xs.map g)
  | [], acc, _, _ => by rw [loopS, List.map_nil, List.append_nil]
  | x :: xs, acc, hn, h => by
    rw [List.length_cons] at hn
    rw [loopS, h x List.mem_cons_self acc (by omega), bsome, loop_push (by simp; omega) fun a ha => h a (List.mem_cons_of_mem _ ha)]
    simp
end
end TT

/-! Q1: what many laws share: their mirrors; printed by qbank.py -/
namespace TT
open PySem PySem.Spec PyProof.Rows L2
def m_meet  (one : (List Int)) (two : (List Int)) (three : (List Int)) : Option ((List Int)) :=
  (cmapT (fun ((a, b, c) : (Int × Int × Int)) => (if (decide (a ∈ [b, c])) = true then a else b)) (zip3 one two three)).bind fun ys =>
  some ys

def m_neighbours  (many : Int) (folk : Int) (ring : Bool) : Option ((List Int)) :=
  if ring = true then
  (guardO (0 < many)).bind fun _ =>
  (guardO (0 < many)).bind fun _ =>
  some [((folk - 1) % many), ((folk + 1) % many)]
  else
  (cfltT (fun (one : Int) => ((decide (0 ≤ one)) && (decide (one < many)))) (fun (one : Int) => one) [(folk - 1), (folk + 1)]).bind fun ys =>
  some ys

def m_side_behind  (stand : (List (List Int))) (cut : Int) (folk : Int) (beats : Int) (far : (Option (List Int))) : Option (Int) :=
  (optE far (some beats) (fun far1 => (atI far1 folk).bind fun x =>
  some (min beats x))).bind fun t =>
  (atI stand folk).bind fun x1 =>
  (atI x1 (cut - 1)).bind fun x2 =>
  some (if (decide ((Builtin.bitAnd t 1) = 0)) = true then x2 else (-x2))

def m__law_begun  (script : (List Int)) : Option (((List Int) × Int × Int)) :=
  some ((if (!(cutL script none (some 63)).isEmpty) = true then (cutL script none (some 63)) else [0]), 0, 0)

def m__law_draw  (tape : ((List Int) × Int × Int)) (many : Int) : Option (Int × ((List Int) × Int × Int)) :=
  (if (decide (tape.2.2 < many)) = true then
  (guardO (0 < (tape.1.length : Int))).bind fun _ =>
  (atI tape.1 (tape.2.1 % (tape.1.length : Int))).bind fun x =>
  (guardO (CPowW (((x % 2147483647) + (69621 * tape.2.1)) + 48271) 17)).bind fun _ =>
  (guardO (0 < (100000000000000000000000000000000000000000000000000 + 151))).bind fun _ =>
  if ((decide (1000000000000000000 ≤ x)) && (decide (tape.2.1 < (tape.1.length : Int)))) = true then
  some (tape.1, (tape.2.1 + 1), (x - 1000000000000000000))
  else
  some (tape.1, (tape.2.1 + 1), (((((x % 2147483647) + (69621 * tape.2.1)) + 48271) ^ (17 : Int).toNat) % (100000000000000000000000000000000000000000000000000 + 151)))
  else
  some tape).bind fun tape1 =>
  (guardO (0 < many)).bind fun _ =>
  (guardO (CDivW tape1.2.2 many)).bind fun _ =>
  some ((tape1.2.2 % many), (tape1.1, tape1.2.1, (tape1.2.2 / many)))

def m__law_meet  (one : (List Int)) (two : (List Int)) (three : (List Int)) : Option ((List Int)) :=
  (rng1 (one.length : Int)).bind fun r =>
  (cmapP (fun (k : Int) => (atI one k).bind fun x =>
  (atI two k).bind fun x1 =>
  (atI three k).bind fun x2 =>
  (if (decide (x ∈ [x1, x2])) = true then (atI one k).bind fun x3 =>
  some x3 else (atI two k).bind fun x4 =>
  some x4).bind fun t =>
  some t) r).bind fun ys =>
  some ys

def m_beat  (stand : (List (List Int))) (ring : Bool) : Option ((List (List Int))) :=
  (loopS (fun ((folk, spot) : (Int × (List Int))) (found : (List (List Int))) => (m_neighbours (stand.length : Int) folk ring).bind fun r =>
  (cmapP (fun (one : Int) => (atI stand one).bind fun x =>
  some x) r).bind fun ys =>
  (if (decide ((ys.length : Int) = 2)) = true then (atI ys 0).bind fun x1 =>
  (atI ys 1).bind fun x2 =>
  (m_meet x1 spot x2).bind fun r1 =>
  some r1 else some spot).bind fun t =>
  (pushO found t).bind fun found1 =>
  some found1) (enumI 0 stand) []).bind fun found =>
  some found

def m_is_held  (stand : (List (List Int))) (cut : Int) (folk : Int) (ring : Bool) : Option (Bool) :=
  (m_neighbours (stand.length : Int) folk ring).bind fun r =>
  (if (decide ((r.length : Int) < 2)) = true then some true else (cmapP (fun (one : Int) => (atI stand one).bind fun x =>
  (atI x (cut - 1)).bind fun x1 =>
  (atI stand folk).bind fun x2 =>
  (atI x2 (cut - 1)).bind fun x3 =>
  some (decide (x1 = x3))) r).bind fun ys =>
  some (ys.any id)).bind fun t =>
  some t

def m_spot_behind  (stand : (List (List Int))) (folk : Int) (beats : Int) (table : (List (Option (List Int)))) : Option ((List Int)) :=
  (cmapP (fun ((at_, far) : (Int × (Option (List Int)))) => (m_side_behind stand (at_ + 1) folk beats far).bind fun r =>
  some r) (enumI 0 table)).bind fun ys =>
  some ys

def m__law_pick {α : Type} (tape : ((List Int) × Int × Int)) (some_ : (List α)) : Option (α × ((List Int) × Int × Int)) :=
  (m__law_draw tape (some_.length : Int)).bind fun (r, tape1) =>
  (atI some_ r).bind fun x =>
  some (x, tape1)

def m__law_kind  (tape : ((List Int) × Int × Int)) (stand : (List (List Int))) : Option (Bool × ((List Int) × Int × Int)) :=
  (if (decide (2 < (stand.length : Int))) = true then (m__law_draw tape 2).bind fun (r, tape1) =>
  some ((decide (r = 0)), tape1) else some (false, tape)).bind fun (t, tape2) =>
  some (t, tape2)

def m__law_beat  (stand : (List (List Int))) (is_round : Bool) : Option ((List (List Int))) :=
  (rng1 (stand.length : Int)).bind fun r =>
  (loopS (fun (k : Int) (found : (List (List Int))) => if (is_round || ((decide (0 < k)) && (decide (k < ((stand.length : Int) - 1))))) = true then
  (guardO (0 < (stand.length : Int))).bind fun _ =>
  (atI stand (((k + (stand.length : Int)) - 1) % (stand.length : Int))).bind fun x =>
  (atI stand k).bind fun x1 =>
  (guardO (0 < (stand.length : Int))).bind fun _ =>
  (atI stand ((k + 1) % (stand.length : Int))).bind fun x2 =>
  (m__law_meet x x1 x2).bind fun r1 =>
  (pushO found r1).bind fun found1 =>
  some found1
  else
  (atI stand k).bind fun x3 =>
  (pushO found x3).bind fun found2 =>
  some found2) r []).bind fun found =>
  some found

def m_distances  (stand : (List (List Int))) (cut : Int) (ring : Bool) : Option ((Option (List Int))) :=
  (rng1 (stand.length : Int)).bind fun r =>
  (cmapP (fun (folk : Int) => (m_is_held stand cut folk ring).bind fun r1 =>
  some (if r1 = true then 0 else (stand.length : Int))) r).bind fun ys =>
  if (!decide (0 ∈ ys)) = true then
  some none
  else
  (lrg 1 (stand.length : Int)).bind fun r2 =>
  (lrg 0 (stand.length : Int)).bind fun r3 =>
  (catO r2 (repB r3 ring)).bind fun zs =>
  (loopS (fun (folk1 : Int) (far : (List Int)) => (atI far folk1).bind fun x =>
  (if (ring || (decide (0 < folk1))) = true then (atI far (folk1 - 1)).bind fun x1 =>
  some (x1 + 1) else some (stand.length : Int)).bind fun t =>
  (setO far folk1 (min x t)).bind fun far1 =>
  some far1) zs ys).bind fun far =>
  (lrg 0 (stand.length : Int)).bind fun r4 =>
  (repO r4 2).bind fun zs1 =>
  (loopS (fun (folk2 : Int) (far2 : (List Int)) => (atI far2 folk2).bind fun x2 =>
  (if (ring || (decide (folk2 < ((stand.length : Int) - 1)))) = true then (guardO (0 < (stand.length : Int))).bind fun _ =>
  (atI far2 ((folk2 + 1) % (stand.length : Int))).bind fun x3 =>
  some (x3 + 1) else some (stand.length : Int)).bind fun t1 =>
  (setO far2 folk2 (min x2 t1)).bind fun far3 =>
  some far3) zs1.reverse far).bind fun far2 =>
  some (some far2)

def m__law_done  (tape : ((List Int) × Int × Int)) (causes : (List (List Int))) (clashes : (List (List Int))) : Option ((List Int) × ((List Int) × Int × Int)) :=
  (m__law_pick tape [1, 2, 3]).bind fun (r, tape1) =>
  (rng1 (causes.length : Int)).bind fun r1 =>
  (loopS (fun (deed : Int) ((tape2, done) : ((List Int) × Int × Int) × (List Int)) => (atI causes deed).bind fun x =>
  (cfltT (fun (one : Int) => (!decide (one ∈ done))) (fun (one : Int) => one) x).bind fun ys =>
  (if (decide (ys = [])) = true then (atI clashes deed).bind fun x1 =>
  (cfltT (fun (one1 : Int) => (decide (one1 ∈ done))) (fun (one1 : Int) => one1) x1).bind fun ys1 =>
  some (decide (ys1 = [])) else some false).bind fun t =>
  (m__law_draw tape2 (r + 1)).bind fun (r2, tape3) =>
  if ((decide (0 < r2)) && t) = true then
  (pushO done deed).bind fun done1 =>
  some (tape3, done1)
  else
  some (tape3, done)) r1 (tape1, [])).bind fun (tape2, done) =>
  some (done, tape2)

def m__law_folk  (tape : ((List Int) × Int × Int)) : Option (Int × ((List Int) × Int × Int)) :=
  (m__law_draw tape 5).bind fun (r, tape1) =>
  (m__law_draw tape1 12).bind fun (r1, tape2) =>
  (m__law_draw tape2 30).bind fun (r2, tape3) =>
  (m__law_pick tape3 [r, r1, r2]).bind fun (r3, tape4) =>
  some ((1 + r3), tape4)

def m__law_gone  (stand : (List (List Int))) (beats : Int) (is_round : Bool) : Option ((List (List Int))) :=
  (rng1 beats).bind fun r =>
  (loopS (fun (k : Int) (stand1 : (List (List Int))) => (m__law_beat stand1 is_round).bind fun r1 =>
  some r1) r stand).bind fun stand1 =>
  some stand1

def m_all_distances  (stand : (List (List Int))) (ring : Bool) : Option ((List (Option (List Int)))) :=
  (atI stand 0).bind fun x =>
  (rng2 1 ((x.length : Int) + 1)).bind fun r =>
  (cmapP (fun (cut : Int) => (m_distances stand cut ring).bind fun r1 =>
  some r1) r).bind fun ys =>
  some ys

def m__law_book  (tape : ((List Int) × Int × Int)) (many : Int) : Option (((List (List Int)) × (List (List Int)) × (List Int)) × ((List Int) × Int × Int)) :=
  (lrg 1 (many + 1)).bind fun r =>
  (m__law_pick tape [2, 3, 5]).bind fun (r1, tape1) =>
  (m__law_pick tape1 [2, 3, 6, 99]).bind fun (r2, tape2) =>
  (rng1 many).bind fun r3 =>
  (loopS (fun (deed : Int) ((tape3, book, left) : ((List Int) × Int × Int) × ((List (List Int)) × (List (List Int)) × (List Int)) × (List Int)) => (m__law_done tape3 book.1 book.2.1).bind fun (r4, tape4) =>
  (cfmS (fun (one : Int) (tape6 : ((List Int) × Int × Int)) => (m__law_draw tape6 r1).bind fun (r6, tape7) =>
  if (decide (r6 = 0)) = true then some (some one, tape7) else some (none, tape7)) r4 tape4).bind fun (ys, tape6) =>
  (cmapP (fun (one1 : Int) => (atI book.1 one1).bind fun x =>
  some x) ys).bind fun ys1 =>
  (sumLO ys1).bind fun sum =>
  (catO ys sum).bind fun zs =>
  (rng1 deed).bind fun r7 =>
  (cfltT (fun (one2 : Int) => (decide (one2 ∈ zs))) (fun (one2 : Int) => one2) r7).bind fun ys2 =>
  (pushO book.1 ys2).bind fun xs =>
  (rng1 deed).bind fun r8 =>
  (cfmS (fun (one3 : Int) (tape10 : ((List Int) × Int × Int)) => (if (!decide (one3 ∈ zs)) = true then (m__law_draw tape10 r2).bind fun (r10, tape11) =>
  some ((decide (r10 = 0)), tape11) else some (false, tape10)).bind fun (t1, tape12) =>
  if t1 = true then some (some one3, tape12) else some (none, tape12)) r8 tape6).bind fun (ys3, tape10) =>
  (pushO ((xs, book.2.1, book.2.2).2.1) ys3).bind fun xs1 =>
  (m__law_draw tape10 (left.length : Int)).bind fun (r11, tape13) =>
  (popO left r11).bind fun (y, xs2) =>
  (m__law_pick tape13 [1, 1, (-1)]).bind fun (r12, tape14) =>
  (guardO (CMul y r12)).bind fun _ =>
  (pushO (((xs, book.2.1, book.2.2).1, xs1, (xs, book.2.1, book.2.2).2.2).2.2) (y * r12)).bind fun xs3 =>
  some (tape14, (((xs, book.2.1, book.2.2).1, xs1, (xs, book.2.1, book.2.2).2.2).1, ((xs, book.2.1, book.2.2).1, xs1, (xs, book.2.1, book.2.2).2.2).2.1, xs3), xs2)) r3 (tape2, ([], [], []), r)).bind fun (tape3, book, left) =>
  some (book, tape3)

def m__law_spot  (tape : ((List Int) × Int × Int)) (book : ((List (List Int)) × (List (List Int)) × (List Int))) : Option ((List Int) × ((List Int) × Int × Int)) :=
  (m__law_done tape book.1 book.2.1).bind fun (r, tape1) =>
  (rng1 (book.2.2.length : Int)).bind fun r1 =>
  (cmapP (fun (deed : Int) => (if (decide (deed ∈ r)) = true then (atI book.2.2 deed).bind fun x =>
  some (0 - x) else (atI book.2.2 deed).bind fun x1 =>
  some x1).bind fun t =>
  some t) r1).bind fun ys =>
  some ((byAbs ys), tape1)

def m_behind  (stand : (List (List Int))) (beats : Int) (ring : Bool) : Option ((List (List Int))) :=
  (m_all_distances stand ring).bind fun r =>
  (rng1 (stand.length : Int)).bind fun r1 =>
  (cmapP (fun (folk : Int) => (m_spot_behind stand folk beats r).bind fun r2 =>
  some r2) r1).bind fun ys =>
  some ys

def m__law_stand  (tape : ((List Int) × Int × Int)) (book : ((List (List Int)) × (List (List Int)) × (List Int))) (many : Int) : Option ((List (List Int)) × ((List Int) × Int × Int)) :=
  (rng1 2).bind fun r =>
  (cmapS (fun (k : Int) (tape2 : ((List Int) × Int × Int)) => (m__law_spot tape2 book).bind fun (r2, tape3) =>
  some (r2, tape3)) r tape).bind fun (ys, tape2) =>
  (m__law_pick tape2 [1, 3, 12]).bind fun (r3, tape4) =>
  (rng1 many).bind fun r4 =>
  (loopS (fun (k1 : Int) ((tape5, found) : ((List Int) × Int × Int) × (List (List Int))) => (m__law_draw tape5 r3).bind fun (r5, tape6) =>
  if (decide (r5 = 0)) = true then
  (m__law_spot tape6 book).bind fun (r6, tape7) =>
  (repO [r6] 3).bind fun zs =>
  (catO (cutL found (some (-1)) none) zs).bind fun zs1 =>
  (m__law_pick tape7 zs1).bind fun (r7, tape8) =>
  (pushO found r7).bind fun found1 =>
  some (tape8, found1)
  else
  (atI ys (k1 % 2)).bind fun x =>
  (pushO found x).bind fun found2 =>
  some (tape6, found2)) r4 (tape4, [])).bind fun (tape5, found) =>
  some (found, tape5)

def m_latest_of  (table : (List (Option (List Int)))) : Option (Int) :=
  (cfmP (fun (far : (Option (List Int))) => optE far (some none) (fun far1 => (topO true far1).bind fun top =>
  some (some top))) table).bind fun ys =>
  some ((topO true ys).getD 0)

def m_held  (stand : (List (List Int))) (cut : Int) (ring : Bool) : Option ((List Int)) :=
  (rng1 (stand.length : Int)).bind fun r =>
  (cfmP (fun (folk : Int) => (m_is_held stand cut folk ring).bind fun r1 =>
  if r1 = true then some (some folk) else some none) r).bind fun ys =>
  some ys

def m_rest  (stand : (List (List Int))) (ring : Bool) : Option ((Int × (List Int))) :=
  (m_all_distances stand ring).bind fun r =>
  (m_latest_of r).bind fun r1 =>
  (cfltT (fun ((at_, far) : (Int × (Option (List Int)))) => far.isNone) (fun ((at_, far) : (Int × (Option (List Int)))) => (at_ + 1)) (enumI 0 r)).bind fun ys =>
  some (r1, ys)

def m_is_at_rest  (stand : (List (List Int))) (ring : Bool) : Option (Bool) :=
  (m_beat stand ring).bind fun r =>
  some (decide (r = stand))

def m_is_on  (spot : (List Int)) (sides : (List Int)) : Option (Bool) :=
  (cmapP (fun (side : Int) => (atI spot ((absI side) - 1)).bind fun x =>
  some (decide (x = side))) sides).bind fun ys =>
  some (ys.all id)

def m_walked  (stand : (List (List Int))) (folk : Int) (beats : Int) (ring : Bool) : Option (Int) :=
  (m_all_distances stand ring).bind fun r =>
  (cmapP (fun (far : (Option (List Int))) => (optE far (some beats) (fun far1 => (atI far1 folk).bind fun x =>
  some (min beats x))).bind fun t =>
  some t) r).bind fun ys =>
  some ys.sum

def m_comings  (stand : (List (List Int))) (folk : Int) (sides : (List Int)) (beats : Int) (ring : Bool) : Option (Int) :=
  (m_all_distances stand ring).bind fun r =>
  (m_latest_of r).bind fun r1 =>
  (rng1 ((r1 + 2) + 3)).bind fun r2 =>
  (cmapP (fun (beat : Int) => (m_spot_behind stand folk beat r).bind fun r3 =>
  (m_is_on r3 sides).bind fun r4 =>
  some r4) r2).bind fun ys =>
  (rng2 1 ((r1 + 2) + 3)).bind fun r5 =>
  (cmapP (fun (beat1 : Int) => (atI ys beat1).bind fun x =>
  (if x = true then (atI ys (beat1 - 1)).bind fun x1 =>
  some (!x1) else some false).bind fun t =>
  some t) r5).bind fun ys1 =>
  (cfltT (fun (one : Bool) => one) (fun (one : Bool) => one) (cutL ys1 none (some (min beats (r1 + 2))))).bind fun ys2 =>
  (atI ys1 (r1 + 2)).bind fun x2 =>
  (atI ys1 ((r1 + 2) + 1)).bind fun x3 =>
  (guardO (CMul ((beats - (min beats (r1 + 2))) / 2) ((TT.b2i x2) + (TT.b2i x3)))).bind fun _ =>
  (atI ys1 (r1 + 2)).bind fun x4 =>
  (guardO (CMul (Builtin.bitAnd (beats - (min beats (r1 + 2))) 1) (TT.b2i x4))).bind fun _ =>
  some (((ys2.length : Int) + (((beats - (min beats (r1 + 2))) / 2) * ((TT.b2i x2) + (TT.b2i x3)))) + ((Builtin.bitAnd (beats - (min beats (r1 + 2))) 1) * (TT.b2i x4)))

def m_first_at  (stand : (List (List Int))) (folk : Int) (spot : (List Int)) (ring : Bool) : Option ((Option Int)) :=
  (m_all_distances stand ring).bind fun r =>
  (m_latest_of r).bind fun r1 =>
  (rng1 (r1 + 2)).bind fun r2 =>
  (loopF (fun (beats : Int) (_ : Unit) => (m_spot_behind stand folk beats r).bind fun r3 =>
  if (decide (r3 = spot)) = true then
  some (.ret (some beats))
  else
  some (.go ())) r2 ()).bind fun fl => match fl with
  | .go _ => some none
  | .brk _ => none
  | .ret r_ => some r_

def m_first_meet  (stand : (List (List Int))) (one : Int) (other : Int) (ring : Bool) : Option ((Option Int)) :=
  (m_all_distances stand ring).bind fun r =>
  (m_latest_of r).bind fun r1 =>
  (rng1 (r1 + 2)).bind fun r2 =>
  (loopF (fun (beats : Int) (_ : Unit) => (m_spot_behind stand one beats r).bind fun r3 =>
  (m_spot_behind stand other beats r).bind fun r4 =>
  if (decide (r3 = r4)) = true then
  some (.ret (some beats))
  else
  some (.go ())) r2 ()).bind fun fl => match fl with
  | .go _ => some none
  | .brk _ => none
  | .ret r_ => some r_
end TT

namespace K14
open PySem PySem.Spec PyProof.Rows L2 TT
def m_apart  (one : (List Int)) (other : (List Int)) : Option (Int) :=
  (cfltT (fun ((side, another) : (Int × Int)) => (!decide (side = another))) (fun ((side, another) : (Int × Int)) => side) (List.zip one other)).bind fun ys =>
  some (ys.length : Int)
def sp_apart : TX := fun env_ Q => ∃ (one : (List Int)) (other : (List Int)), env_ = [some ((eT D.int) one), some ((eT D.int) other)] ∧ Wp (m_apart one other) fun w_ => match w_ with | r_ => Q (D.int r_) [none, none]

def sp_meet : TX := fun env_ Q => ∃ (one : (List Int)) (two : (List Int)) (three : (List Int)), env_ = [some ((eT D.int) one), some ((eT D.int) two), some ((eT D.int) three)] ∧ Wp (m_meet one two three) fun w_ => match w_ with | r_ => Q ((eT D.int) r_) [none, none, none]

def sp__law_begun : TX := fun env_ Q => ∃ (script : (List Int)), env_ = [some ((eQ D.int) script)] ∧ Wp (m__law_begun script) fun w_ => match w_ with | r_ => Q ((eR3 true "cells" "spot" "left" (eL true D.int) D.int D.int) r_) [none]

def sp__law_draw : TX := fun env_ Q => ∃ (tape : ((List Int) × Int × Int)) (many : Int), env_ = [some ((eR3 true "cells" "spot" "left" (eL true D.int) D.int D.int) tape), some (D.int many)] ∧ Wp (m__law_draw tape many) fun w_ => match w_ with | (r_, i0_) => Q (D.int r_) [some ((eR3 true "cells" "spot" "left" (eL true D.int) D.int D.int) i0_), none]

def m_is_between  (one : (List Int)) (middle : (List Int)) (other : (List Int)) : Option (Bool) :=
  (m_apart one middle).bind fun r =>
  (m_apart middle other).bind fun r1 =>
  (m_apart one other).bind fun r2 =>
  some (decide ((r + r1) = r2))
def sp_is_between : TX := fun env_ Q => ∃ (one : (List Int)) (middle : (List Int)) (other : (List Int)), env_ = [some ((eT D.int) one), some ((eT D.int) middle), some ((eT D.int) other)] ∧ Wp (m_is_between one middle other) fun w_ => match w_ with | r_ => Q (D.bl r_) [none, none, none]

def sp__law_pick : TX := fun env_ Q => ∃ (α : Type) (eα : α → D) (qα : List α → D) (_ : SeqE qα eα) (_ : Fz eα eα) (tape : ((List Int) × Int × Int)) (some_ : (List α)), env_ = [some ((eR3 true "cells" "spot" "left" (eL true D.int) D.int D.int) tape), some (qα some_)] ∧ Wp (m__law_pick tape some_) fun w_ => match w_ with | (r_, i0_) => Q (eα r_) [some ((eR3 true "cells" "spot" "left" (eL true D.int) D.int D.int) i0_), none]

def sp__law_done : TX := fun env_ Q => ∃ (tape : ((List Int) × Int × Int)) (causes : (List (List Int))) (clashes : (List (List Int))), env_ = [some ((eR3 true "cells" "spot" "left" (eL true D.int) D.int D.int) tape), some ((eL false (eL false D.int)) causes), some ((eL false (eL false D.int)) clashes)] ∧ Wp (m__law_done tape causes clashes) fun w_ => match w_ with | (r_, i0_) => Q ((eL true D.int) r_) [some ((eR3 true "cells" "spot" "left" (eL true D.int) D.int D.int) i0_), none, none]

def sp__law_book : TX := fun env_ Q => ∃ (tape : ((List Int) × Int × Int)) (many : Int), env_ = [some ((eR3 true "cells" "spot" "left" (eL true D.int) D.int D.int) tape), some (D.int many)] ∧ Wp (m__law_book tape many) fun w_ => match w_ with | (r_, i0_) => Q ((eR3 true "causes" "clashes" "undone" (eL true (eL false D.int)) (eL true (eL false D.int)) (eL true D.int)) r_) [some ((eR3 true "cells" "spot" "left" (eL true D.int) D.int D.int) i0_), none]

def sp__law_spot : TX := fun env_ Q => ∃ (tape : ((List Int) × Int × Int)) (book : ((List (List Int)) × (List (List Int)) × (List Int))), env_ = [some ((eR3 true "cells" "spot" "left" (eL true D.int) D.int D.int) tape), some ((eR3 false "causes" "clashes" "undone" (eL false (eL false D.int)) (eL false (eL false D.int)) (eL false D.int)) book)] ∧ Wp (m__law_spot tape book) fun w_ => match w_ with | (r_, i0_) => Q ((eT D.int) r_) [some ((eR3 true "cells" "spot" "left" (eL true D.int) D.int D.int) i0_), none]

def m_law  (script : (List Int)) : Option (Bool) :=
  (m__law_begun script).bind fun r =>
  (rng1 3).bind fun r1 =>
  (loopF (fun (turn : Int) (tape : ((List Int) × Int × Int)) => (m__law_draw tape 10).bind fun (r2, tape1) =>
  (m__law_draw tape1 20).bind fun (r3, tape2) =>
  (m__law_pick tape2 [r2, r3, (if (decide (turn = 0)) = true then 60 else 5)]).bind fun (r4, tape3) =>
  (m__law_book tape3 r4).bind fun (r5, tape4) =>
  (rng1 3).bind fun r6 =>
  (cmapS (fun (k : Int) (tape6 : ((List Int) × Int × Int)) => (m__law_spot tape6 r5).bind fun (r8, tape7) =>
  some (r8, tape7)) r6 tape4).bind fun (ys, tape6) =>
  (atI ys 2).bind fun x =>
  (repO [x] 3).bind fun zs =>
  (catO ys zs).bind fun zs1 =>
  (m__law_pick tape6 zs1).bind fun (r9, tape8) =>
  (setO ys 2 r9).bind fun some_ =>
  (unp3 some_).bind fun (u, u1, u2) =>
  (cmapP (fun (a : ((List Int) × (List Int))) => (rng1 (a.1.length : Int)).bind fun r10 =>
  (cfmP (fun (k1 : Int) => (atI a.1 k1).bind fun x1 =>
  (atI a.2 k1).bind fun x2 =>
  if (!decide (x1 = x2)) = true then some (some k1) else some none) r10).bind fun ys1 =>
  some (ys1.length : Int)) [(u, u1), (u1, u2), (u, u2)]).bind fun ys2 =>
  (m_apart u u1).bind fun r11 =>
  (m_apart u1 u2).bind fun r12 =>
  (m_apart u2 u).bind fun r13 =>
  (if (!decide ([r11, r12, r13] = ys2)) = true then some true else (m_apart u u1).bind fun r14 =>
  some false).bind fun t =>
  if t = true then
  some (.ret false)
  else
  (m_is_between u u1 u2).bind fun r15 =>
  (shownO (D.bl r15)).bind fun text =>
  (atI ys2 0).bind fun x3 =>
  (atI ys2 1).bind fun x4 =>
  (atI ys2 2).bind fun x5 =>
  (shownO (D.bl (decide ((x3 + x4) = x5)))).bind fun text1 =>
  if (!decide (text = text1)) = true then
  some (.ret false)
  else
  (rng1 (u.length : Int)).bind fun r16 =>
  (cmapP (fun (k2 : Int) => (atI u k2).bind fun x6 =>
  (atI u1 k2).bind fun x7 =>
  (atI u2 k2).bind fun x8 =>
  (atI (sortI [x6, x7, x8]) 1).bind fun x9 =>
  some x9) r16).bind fun ys3 =>
  (m_meet u u1 u2).bind fun r17 =>
  (shownO ((eT D.int) r17)).bind fun text2 =>
  (shownO ((eT D.int) ys3)).bind fun text3 =>
  (if (!decide (text2 = text3)) = true then some true else (m_meet u2 u u1).bind fun r18 =>
  (if (!decide (r18 = ys3)) = true then some true else (m_meet u1 u u2).bind fun r19 =>
  some (!decide (r19 = ys3))).bind fun t1 =>
  some t1).bind fun t2 =>
  if t2 = true then
  some (.ret false)
  else
  (m_is_between u ys3 u1).bind fun r20 =>
  (if (!r20) = true then some true else (m_is_between u1 ys3 u2).bind fun r21 =>
  (if (!r21) = true then some true else (m_is_between u2 ys3 u).bind fun r22 =>
  some (!r22)).bind fun t3 =>
  some t3).bind fun t4 =>
  if t4 = true then
  some (.ret false)
  else
  some (.go tape8)) r1 r).bind fun fl => match fl with
  | .go tape => some true
  | .brk _ => none
  | .ret r_ => some r_
def sp_law : TX := fun env_ Q => ∃ (script : (List Int)), env_ = [some ((eQ D.int) script)] ∧ Wp (m_law script) fun w_ => match w_ with | r_ => Q (D.bl r_) [none]
end K14

/-! Q2: the tape, and what is drawn from it -/
namespace TT
open PySem PySem.Spec PyProof.Rows L2
abbrev Tp := List Int × Int × Int
structure TpOk (b : Int) (t : Tp) : Prop where
  ne : t.1 ≠ []
  len : t.1.length ≤ 63
  s0 : 0 ≤ t.2.1
  s1 : t.2.1 ≤ b
  l0 : 0 ≤ t.2.2
theorem TpOk.mono {b c : Int} {t : Tp} (h : TpOk b t) (hc : b ≤ c) : TpOk c t := ⟨h.ne, h.len, h.s0, Int.le_trans h.s1 hc, h.l0⟩
section
variable {β : Type} {K : β → Prop} {b : Int} {t : Tp}
theorem begun_wp {ns : List Int} {f : Tp → Option β} (q : ∀ t, TpOk 0 t → Wp (f t) K) : Wp ((m__law_begun ns).bind f) K := by
  refine wp_step (a := (if (!(cutL ns none (some 63)).isEmpty) = true then cutL ns none (some 63) else [0], 0, 0)) rfl (q _ ?_)
  have e : cutL ns none (some 63) = ns.take 63 := cut_to ns 63
  rw [e]
  by_cases h : ns.take 63 = []
  · rw [h]
    exact ⟨by simp, by simp, Int.le_refl _, Int.le_refl _, Int.le_refl _⟩
  · have h2 : (ns.take 63).isEmpty = false := by simpa using h
    rw [h2]
    refine ⟨h, ?_, Int.le_refl _, Int.le_refl _, Int.le_refl _⟩
    show (ns.take 63).length ≤ 63
    rw [List.length_take]; omega
theorem draw_wp {k : Int} {f : Int × Tp → Option β} (ht : TpOk b t) (hb : b ≤ 1000000000) (h0 : 0 < k) (h1 : k ≤ 1000000000000000000000000000000000000000000000000000000000000) (q : ∀ r t', 0 ≤ r → r < k → TpOk (b + 1) t' → Wp (f (r, t')) K) : Wp ((m__law_draw t k).bind f) K := by
  obtain ⟨cs, s, l⟩ := t
  obtain ⟨hc0, hc, hs0, hs, hl0⟩ := ht
  simp only at hc0 hc hs0 hs hl0
  have hlen : 0 < cs.length := List.length_pos_iff.mpr hc0
  have fin : ∀ (s' l' : Int), 0 ≤ s' → s' ≤ b + 1 → 0 ≤ l' → Wp (((guardO (0 < k)).bind fun _ => (guardO (CDivW l' k)).bind fun _ => some (l' % k, (cs, s', l' / k))).bind f) K := fun s' l' h1' h2 h3 => by
    rw [guard_pos h0, guard_pos (show CDivW l' k from cdivG h0 h1)]
    exact q _ _ (Int.emod_nonneg _ (by omega)) (Int.emod_lt_of_pos _ h0) ⟨hc0, hc, h1', h2, Int.ediv_nonneg h3 (by omega)⟩
  unfold m__law_draw
  simp only
  by_cases hl : l < k
  · rw [if_pos (by simpa using hl)]
    have hm0 : 0 ≤ s % (cs.length : Int) := Int.emod_nonneg _ (by omega)
    have hm1 : s % (cs.length : Int) < cs.length := Int.emod_lt_of_pos _ (by omega)
    obtain ⟨v, hv⟩ : ∃ v, cs[(s % (cs.length : Int)).toNat]? = some v := ⟨_, List.getElem?_eq_getElem (by omega)⟩
    have m0 : 0 ≤ v % 2147483647 := Int.emod_nonneg _ (by decide)
    have m1 : v % 2147483647 < 2147483647 := Int.emod_lt_of_pos _ (by decide)
    have p3 : CPowW (v % 2147483647 + 69621 * s + 48271) 17 := powW_of (k := 48) (by decide) (by omega) (by decide) (by decide)
    rw [guard_pos (show 0 < (cs.length : Int) by omega), at_int hm0 hv]
    simp only [Option.bind_some]
    rw [guard_pos p3, guard_pos (show 0 < 100000000000000000000000000000000000000000000000000 + 151 by decide)]
    simp only [Option.bind_some]
    split
    · rename_i h
      have h : 1000000000000000000 ≤ v ∧ s < (cs.length : Int) := by simpa using h
      exact fin (s + 1) (v - 1000000000000000000) (by omega) (by omega) (by omega)
    · exact fin (s + 1) _ (by omega) (by omega) (Int.emod_nonneg _ (by decide))
  · rw [if_neg (by simpa using hl)]
    exact fin s l hs0 (by omega) hl0
theorem pick_wp {α : Type} {xs : List α} {f : α × Tp → Option β} (ht : TpOk b t) (hb : b ≤ 1000000000) (h0 : 0 < xs.length) (h1 : xs.length < 100000) (q : ∀ a t', a ∈ xs → TpOk (b + 1) t' → Wp (f (a, t')) K) : Wp ((m__law_pick t xs).bind f) K := by
  unfold m__law_pick
  refine wp_bind (draw_wp ht hb (by omega) (by omega) fun r t' r0 r1 ht' => ?_)
  refine wp_at r0 r1 fun a ha => wp_some (q a t' (List.mem_of_getElem? ha) ht')
theorem kind_wp {st : List (List Int)} {f : Bool × Tp → Option β} (ht : TpOk b t) (hb : b ≤ 1000000000) (q : ∀ r t', (r = true → 2 < st.length) → TpOk (b + 1) t' → Wp (f (r, t')) K) : Wp ((m__law_kind t st).bind f) K := by
  unfold m__law_kind
  refine wp_bind (wp_bind (wp_ite (fun h => ?_) fun h => ?_))
  · have h : 2 < st.length := by have := of_decide_eq_true h; omega
    exact draw_wp ht hb (by decide) (by decide) fun r t' _ _ ht' => wp_some (wp_some (q _ t' (fun _ => h) ht'))
  · exact wp_some (wp_some (q false t (fun h => by cases h) (ht.mono (by omega))))
theorem folk_wp {f : Int × Tp → Option β} (ht : TpOk b t) (hb : b ≤ 1000000000 - 10) (q : ∀ r t', 1 ≤ r → r ≤ 30 → TpOk (b + 4) t' → Wp (f (r, t')) K) : Wp ((m__law_folk t).bind f) K := by
  unfold m__law_folk
  refine wp_bind (draw_wp ht (by omega) (by decide) (by decide) fun r1 t1 h1 h1' ht1 => ?_)
  refine draw_wp ht1 (by omega) (by decide) (by decide) fun r2 t2 h2 h2' ht2 => ?_
  refine draw_wp ht2 (by omega) (by decide) (by decide) fun r3 t3 h3 h3' ht3 => ?_
  refine pick_wp ht3 (by omega) (by simp) (by simp) fun a t4 ha ht4 => wp_some (q _ _ ?_ ?_ (ht4.mono (by omega)))
  · simp at ha; omega
  · simp at ha; omega
theorem done_wp {ca cl : List (List Int)} {f : List Int × Tp → Option β} (ht : TpOk b t) (hb : b ≤ 1000000000 - 1000) (hca : ca.length ≤ 100) (hcl : cl.length = ca.length) (la : ∀ l ∈ ca, l.length ≤ 100) (ll : ∀ l ∈ cl, l.length ≤ 100)
    (q : ∀ (done : List Int) t', done.length ≤ 100 → (∀ x ∈ done, 0 ≤ x ∧ x < ca.length) → TpOk (b + 101) t' → Wp (f (done, t')) K) : Wp ((m__law_done t ca cl).bind f) K := by
  unfold m__law_done
  refine wp_bind (pick_wp ht (by omega) (by simp) (by simp) fun share t1 hs ht1 => ?_)
  have hs : 1 ≤ share ∧ share ≤ 3 := by simp at hs; omega
  refine wp_rng1 (n := ca.length) rfl (by omega) ?_
  refine wp_loopR (fun j (s : Tp × List Int) => TpOk (b + 1 + j) s.1 ∧ s.2.length ≤ j ∧ ∀ x ∈ s.2, 0 ≤ x ∧ x < ca.length) ⟨ht1.mono (by omega), by simp, by simp⟩ (fun j s hj ⟨i1, i2, i3⟩ => ?_) fun s ⟨i1, i2, i3⟩ => wp_some (q s.2 s.1 (by omega) i3 (i1.mono (by omega)))
  obtain ⟨t2, done⟩ := s
  simp only at i1 i2 i3
  refine wp_at (by omega) (by omega) fun x hx => ?_
  have hx : x ∈ ca := List.mem_of_getElem? hx
  refine wp_cfltT (by have := la x hx; omega) ?_
  have key : ∀ t, Wp ((m__law_draw t2 (share + 1)).bind fun x => match x with | (r2, tape3) => if (decide (0 < r2) && t) = true then (pushO done (j : Int)).bind fun done1 => some (tape3, done1) else some (tape3, done)) (fun s => TpOk (b + 1 + ((j + 1 : Nat) : Int)) s.1 ∧ s.2.length ≤ j + 1 ∧ ∀ x ∈ s.2, 0 ≤ x ∧ x < ca.length) := fun t => by
    refine draw_wp i1 (by omega) (by omega) (by omega) fun r t3 r0 r1 ht3 => ?_
    refine wp_ite (fun _ => wp_push (by omega) (wp_some ⟨ht3.mono (by omega), by simp; omega, fun x hx => ?_⟩)) fun _ => wp_some ⟨ht3.mono (by omega), by simp only; omega, i3⟩
    rcases List.mem_append.mp hx with hx | hx
    · exact i3 x hx
    · simp at hx; omega
  refine wp_bind (wp_ite (fun _ => ?_) fun _ => wp_some (key _))
  refine wp_at (by omega) (by omega) fun x1 hx1 => ?_
  have hx1 : x1 ∈ cl := List.mem_of_getElem? hx1
  exact wp_cfltT (by have := ll x1 hx1; omega) (wp_some (key _))
abbrev Bk := List (List Int) × List (List Int) × List Int
theorem book_wp {k : Nat} {f : Bk × Tp → Option β} (ht : TpOk b t) (hb : b ≤ 1000000000 - 100000) (hk : k ≤ 61) (q : ∀ bk t', BookOk k bk.1 bk.2.1 bk.2.2 → TpOk (b + 30000) t' → Wp (f (bk, t')) K) : Wp ((m__law_book t (k : Nat)).bind f) K := by
  unfold m__law_book
  refine wp_bind (wp_lrg (by omega) (by omega) (by omega) (by omega) ?_)
  refine pick_wp ht (by omega) (by simp) (by simp) fun near t1 hn ht1 => ?_
  have hn : 1 ≤ near ∧ near ≤ 99 := by simp at hn; omega
  refine pick_wp ht1 (by omega) (by simp) (by simp) fun far t2 hf ht2 => ?_
  have hf : 1 ≤ far ∧ far ≤ 99 := by simp at hf; omega
  refine wp_rng1 rfl (by omega) ?_
  refine wp_loopR (fun j (s : Tp × Bk × List Int) => TpOk (b + 2 + 300 * j) s.1 ∧ s.2.1.1.length = j ∧ s.2.1.2.1.length = j ∧ s.2.1.2.2.length = j ∧ s.2.2.length = k - j ∧ (∀ l ∈ s.2.1.1, l.length ≤ 100) ∧ (∀ l ∈ s.2.1.2.1, l.length ≤ 100) ∧
      (s.2.1.2.2.map Int.natAbs ++ s.2.2.map Int.natAbs).Perm (List.range' 1 k) ∧ ∀ x ∈ s.2.2, 1 ≤ x ∧ x ≤ 100) ?_ ?_ ?_
  · refine ⟨ht2.mono (by omega), rfl, rfl, rfl, ?_, by simp, by simp, ?_, ?_⟩
    · simp [rngI]
    · have e : ((k : Int) + 1 - 1).toNat = k := by omega
      rw [e, rngI1]
      unfold natI
      have e2 : (List.map (Int.natAbs ∘ fun i : Nat => (i : Int)) (List.range' 1 k)) = List.range' 1 k := by
        refine (List.map_congr_left (g := id) fun i _ => ?_).trans (by simp)
        show (i : Int).natAbs = i
        omega
      simp [e2]
    · intro x hx
      have e : ((k : Int) + 1 - 1).toNat = k := by omega
      rw [e, rngI1] at hx
      unfold natI at hx
      simp at hx
      omega
  · rintro j ⟨t3, ⟨ca, cl, un⟩, lf⟩ hjk ⟨i0, h1, h2, h3, h4, h5, h6, h7, h8⟩
    simp only at i0 h1 h2 h3 h4 h5 h6 h7 h8
    refine done_wp i0 (by omega) (by simp only; omega) (by simp only; omega) h5 h6 fun done t4 hd1 hd2 ht4 => ?_
    refine wp_cfmS (by omega) (fun L as s => L.length + as.length ≤ 100 ∧ (∀ x ∈ L, 0 ≤ x ∧ x < ca.length) ∧ (∀ x ∈ as, 0 ≤ x ∧ x < ca.length) ∧ TpOk (b + 2 + 300 * j + 201 - L.length) s) ⟨by simpa using hd1, hd2, by simp, ht4.mono (by omega)⟩ (fun l L as t5 ⟨a1, a2, a3, a4⟩ => ?_) fun as t5 ⟨a1, _, a3, a4⟩ => ?_
    · simp only [List.length_cons] at a1 a4
      refine draw_wp a4 (by omega) (by omega) (by omega) fun r t6 _ _ ht6 => ?_
      refine wp_ite (fun _ => wp_some ⟨?_, fun x hx => a2 x (List.mem_cons_of_mem _ hx), fun x hx => ?_, ht6.mono (by omega)⟩) fun _ => wp_some ⟨?_, fun x hx => a2 x (List.mem_cons_of_mem _ hx), fun x hx => ?_, ht6.mono (by omega)⟩
      · simp; omega
      · rcases List.mem_append.mp hx with hx | hx
        · exact a3 x hx
        · simp at hx; subst hx; exact a2 _ List.mem_cons_self
      · simp; omega
      · exact a3 x (by simpa using hx)
    · simp only [List.length_nil] at a1 a4
      refine wp_cmapP (fun x => ca.getD x.toNat []) (by omega) (fun x hx => ?_) ?_
      · obtain ⟨x0, x1⟩ := a3 x hx
        have : x.toNat < ca.length := by omega
        rw [at_int (a := ca[x.toNat]) x0 (List.getElem?_eq_getElem this)]
        simp [List.getD, this]
      have g100 : ∀ x : Int, (ca.getD x.toNat []).length ≤ 100 := fun x => by
        by_cases hx : x.toNat < ca.length
        · simp only [List.getD, List.getElem?_eq_getElem hx, Option.getD_some]
          exact h5 _ (List.getElem_mem _)
        · simp only [List.getD, List.getElem?_eq_none (Nat.le_of_not_lt hx), Option.getD_none]
          simp
      have hsum : (as.map fun x => ca.getD x.toNat []).flatten.length ≤ 10000 := by
        rw [List.length_flatten]
        have := sum_le100 (ns := (as.map fun x => ca.getD x.toNat []).map List.length) fun n hn => by
          rw [List.map_map] at hn
          obtain ⟨x, _, rfl⟩ := List.mem_map.mp hn
          exact g100 x
        simp only [List.length_map] at this
        omega
      refine wp_step (a := (as.map fun x => ca.getD x.toNat []).flatten) (by unfold sumLO; rw [if_pos (size_le (by omega))]) ?_
      refine wp_cat (by omega) ?_
      generalize as ++ (as.map fun x => ca.getD x.toNat []).flatten = zs
      refine wp_rng1 rfl (by omega) ?_
      refine wp_cfltT (by simp; omega) ?_
      generalize hl1 : ((natI (List.range j)).filter fun one2 => decide (one2 ∈ zs)).map (fun one2 => one2) = l1
      have hl1s : l1.length ≤ 100 := by
        rw [← hl1, List.length_map]
        refine Nat.le_trans (List.length_filter_le _ _) ?_
        simp; omega
      refine wp_push (by simp only; omega) ?_
      refine wp_rng1 rfl (by omega) ?_
      refine wp_cfmS (by simp; omega) (fun L as s => L.length + as.length ≤ 100 ∧ TpOk (b + 2 + 300 * j + 271 - L.length) s) ⟨by simp; omega, a4.mono (by simp; omega)⟩ (fun l L as t5 ⟨a1, a4⟩ => ?_) fun l2 t6 ⟨a1', a4'⟩ => ?_
      · simp only [List.length_cons] at a1 a4
        refine wp_bind (wp_ite (fun _ => ?_) fun _ => wp_some ?_)
        · refine draw_wp a4 (by omega) (by omega) (by omega) fun r t6 _ _ ht6 => wp_some ?_
          refine wp_ite (fun _ => wp_some ⟨by simp; omega, ht6.mono (by omega)⟩) fun _ => wp_some ⟨by simp; omega, ht6.mono (by omega)⟩
        · refine wp_ite (fun _ => wp_some ⟨by simp; omega, a4.mono (by omega)⟩) fun _ => wp_some ⟨by simp; omega, a4.mono (by omega)⟩
      · simp only [List.length_nil] at a1' a4'
        refine wp_push (by simp only; omega) ?_
        refine draw_wp a4' (by omega) (by omega) (by omega) fun rp t7 p0 p1 ht7 => ?_
        have hlt : rp.toNat < lf.length := by omega
        have hx : lf[rp.toNat]? = some lf[rp.toNat] := List.getElem?_eq_getElem hlt
        generalize lf[rp.toNat] = xx at hx
        obtain ⟨x1, x2⟩ := h8 xx (List.mem_of_getElem? hx)
        refine wp_step (a := (xx, lf.eraseIdx rp.toNat)) (by unfold popO; rw [if_pos (by omega), ixN_of p0 (by omega)]; simp [hx]) ?_
        refine pick_wp ht7 (by omega) (by simp) (by simp) fun sgn t8 hs ht8 => ?_
        have hsg : sgn = 1 ∨ sgn = -1 := by simp at hs; omega
        refine wp_guard (.inl (by omega)) ?_
        refine wp_push (by simp only; omega) (wp_some ?_)
        have habs : (xx * sgn).natAbs = xx.natAbs := by rcases hsg with rfl | rfl <;> simp
        refine ⟨ht8.mono (by omega), by simp [h1], by simp [h2], by simp [h3], ?_, ?_, ?_, ?_, ?_⟩
        · rw [List.length_eraseIdx_of_lt hlt]; omega
        · intro l hl
          rcases List.mem_append.mp hl with hl | hl
          · exact h5 l hl
          · simp at hl; rw [hl]; exact hl1s
        · intro l hl
          rcases List.mem_append.mp hl with hl | hl
          · exact h6 l hl
          · simp at hl; rw [hl]; omega
        · refine List.Perm.trans ?_ h7
          rw [List.map_append, List.append_assoc]
          refine List.Perm.append_left _ ?_
          have := (erase_perm hx).map Int.natAbs
          simpa [habs] using this
        · intro x hx'
          exact h8 x (List.mem_of_mem_eraseIdx hx')
  · rintro ⟨t3, ⟨ca, cl, un⟩, lf⟩ ⟨i0, h1, h2, h3, h4, h5, h6, h7, h8⟩
    simp only at i0 h1 h2 h3 h4 h5 h6 h7 h8
    refine wp_some (q _ _ ⟨h1, h2, h3, h5, h6, ?_⟩ (i0.mono (by omega)))
    have : lf = [] := List.length_eq_zero_iff.mp (by omega)
    subst this
    simpa using h7
theorem spot_wp {k : Nat} {bk : Bk} {f : List Int × Tp → Option β} (ht : TpOk b t) (hb : b ≤ 1000000000 - 2000) (hk : k ≤ 100) (B : BookOk k bk.1 bk.2.1 bk.2.2) (q : ∀ y t', TpOk (b + 101) t' → Wp (f (rowI k y, t')) K) : Wp ((m__law_spot t bk).bind f) K := by
  obtain ⟨ca, cl, un⟩ := bk
  simp only at B
  unfold m__law_spot
  refine wp_bind (done_wp ht (by omega) (by rw [B.hca]; exact hk) (by rw [B.hca, B.hcl]) B.la B.ll fun done t1 hd1 hd2 ht1 => ?_)
  refine wp_rng1 rfl (by simp only; rw [B.hun]; omega) ?_
  refine wp_cmapP (fun i => if i ∈ done then 0 - un.getD i.toNat 0 else un.getD i.toNat 0) (by simp only [natI_length, List.length_range]; rw [B.hun]; omega) (fun i hi => ?_) ?_
  · unfold natI at hi
    obtain ⟨i, hi2, rfl⟩ := List.mem_map.mp hi
    have hi : i < un.length := List.mem_range.mp hi2
    rw [at_nat (xs := un) (a := un[i]) (List.getElem?_eq_getElem hi)]
    by_cases hd : (i : Int) ∈ done <;> simp [hd, hi]
  · refine wp_some ?_
    generalize hs : ((natI (List.range un.length)).map fun i => if i ∈ done then 0 - un.getD i.toNat 0 else un.getD i.toNat 0) = sides
    have hp : (sides.map Int.natAbs).Perm (List.range' 1 k) := by
      have e : sides.map Int.natAbs = un.map Int.natAbs := by
        rw [← hs]
        unfold natI
        rw [List.map_map, List.map_map]
        refine List.ext_getElem? fun i => ?_
        rw [List.getElem?_map, List.getElem?_map]
        by_cases hi : i < un.length
        · rw [List.getElem?_range hi, List.getElem?_eq_getElem hi]
          simp only [Option.map_some, Function.comp, List.getD, Int.toNat_natCast, List.getElem?_eq_getElem hi, Option.getD_some]
          congr 1
          split <;> omega
        · rw [List.getElem?_eq_none (by simp; omega), List.getElem?_eq_none (by omega)]; rfl
      rw [e]; exact B.cuts
    obtain ⟨y, hy⟩ := byAbs_row hp
    rw [hy]
    exact q y t1 ht1
theorem rowsI_snoc {j m : Nat} {x : Nat → Nat → Bool} {y : Nat → Bool} : rowsI j m x ++ [rowI m y] = rowsI (j + 1) m (fun f c => if f = j then y c else x f c) := by
  unfold rowsI
  rw [List.range_succ, List.map_append]
  congr 1
  · refine List.map_congr_left fun f hf => ?_
    have hf : f < j := by simpa using hf
    show _ = rowI m (fun c => if f = j then y c else x f c)
    congr 1
    funext c
    rw [if_neg (by omega)]
  · simp
theorem stand_wp {k n : Nat} {bk : Bk} {f : List (List Int) × Tp → Option β} (ht : TpOk b t) (hb : b ≤ 1000000000 - 100000) (hk : k ≤ 100) (hn : n ≤ 100) (B : BookOk k bk.1 bk.2.1 bk.2.2) (q : ∀ x t', TpOk (b + 20000) t' → Wp (f (rowsI n k x, t')) K) : Wp ((m__law_stand t bk (n : Nat)).bind f) K := by
  unfold m__law_stand
  refine wp_bind (wp_rng1 (n := 2) rfl (by omega) ?_)
  refine wp_cmapS (by simp) (fun L as s => ∃ (r : Nat) (p : Nat → Nat → Bool), L.length + r = 2 ∧ as = rowsI r k p ∧ TpOk (b + 101 * r) s) ⟨0, fun _ _ => true, rfl, rfl, ht.mono (by omega)⟩ (fun i L as s ⟨r, p, h1, h2, h3⟩ => ?_) ?_
  · simp only [List.length_cons] at h1
    refine spot_wp h3 (by omega) hk B fun y t' ht' => wp_some ⟨r + 1, (fun f c => if f = r then y c else p f c), by omega, ?_, ht'.mono (by omega)⟩
    rw [h2, rowsI_snoc]
  rintro ys t1 ⟨r, p, h1, rfl, ht1⟩
  obtain rfl : r = 2 := by simpa using h1
  refine pick_wp ht1 (by omega) (by simp) (by simp) fun share t2 hs ht2 => ?_
  have hs : 1 ≤ share ∧ share ≤ 12 := by simp at hs; omega
  refine wp_rng1 rfl (by omega) ?_
  refine wp_loopR (fun j (s : Tp × List (List Int)) => ∃ x, s.2 = rowsI j k x ∧ TpOk (b + 203 + 103 * j) s.1) ⟨fun _ _ => true, rfl, ht2.mono (by omega)⟩ (fun j s hj ⟨x, e, ht3⟩ => ?_) fun s ⟨x, e, ht3⟩ => ?_
  · obtain ⟨t3, found⟩ := s
    simp only at e ht3
    subst e
    have hlen : (rowsI j k x).length = j := by simp [rowsI]
    have fin : ∀ (y : Nat → Bool) t5, TpOk (b + 203 + 103 * j + 103) t5 → Wp ((pushO (rowsI j k x) (rowI k y)).bind fun found1 => some (t5, found1)) fun s : Tp × List (List Int) => ∃ x, s.2 = rowsI (j + 1) k x ∧ TpOk (b + 203 + 103 * ((j + 1 : Nat) : Int)) s.1 := fun y t5 ht5 =>
      wp_push (by omega) (wp_some ⟨_, rowsI_snoc, ht5.mono (by omega)⟩)
    refine draw_wp ht3 (by omega) (by omega) (by omega) fun r t4 _ _ ht4 => wp_ite (fun _ => ?_) fun _ => ?_
    · refine spot_wp ht4 (by omega) hk B fun y t5 ht5 => ?_
      refine wp_rep (n := 3) rfl (by omega) (by simp) ?_
      have hcl := cut_len (rowsI j k x) (some (-1)) none
      refine wp_cat (by rw [hlen] at hcl; simp; omega) ?_
      refine pick_wp ht5 (by omega) (by simp) (by rw [hlen] at hcl; simp; omega) fun d t6 hd ht6 => ?_
      obtain ⟨y2, rfl⟩ : ∃ y, d = rowI k y := by
        rcases List.mem_append.mp hd with hd | hd
        · have := cut_mem hd
          unfold rowsI at this
          obtain ⟨f, _, rfl⟩ := List.mem_map.mp this
          exact ⟨_, rfl⟩
        · simp at hd
          exact ⟨y, hd⟩
      exact fin y2 t6 (ht6.mono (by omega))
    · have hp2 : (j : Int) % 2 = ((j % 2 : Nat) : Int) := by omega
      have h2 : j % 2 < 2 := by omega
      refine wp_step (a := rowI k (p (j % 2))) (by rw [hp2]; exact at_nat (by unfold rowsI; simp [h2])) ?_
      exact fin _ t4 (ht4.mono (by omega))
  · obtain ⟨t3, found⟩ := s
    simp only at e ht3
    subst e
    exact wp_some (q x t3 (ht3.mono (by omega)))
end
end TT

/-! Q3: the beats, plainly -/
namespace TT
open PySem PySem.Spec PyProof.Rows L2
theorem rowsI_at {n m f : Nat} {x : Nat → Nat → Bool} (hf : f < n) : atI (rowsI n m x) (f : Nat) = some (rowI m (x f)) := at_nat (by unfold rowsI; simp [hf])
theorem rowI_at {m c : Nat} {y : Nat → Bool} (hc : c < m) : atI (rowI m y) (c : Nat) = some (sg c (y c)) := at_nat (by unfold rowI; simp [hc])
theorem rowI_at1 {m c : Nat} {y : Nat → Bool} (hc : c < m) : atI (rowI m y) ((c : Int) + 1 - 1) = some (sg c (y c)) := by rw [Int.add_sub_cancel]; exact rowI_at hc
@[simp] theorem rowsI_length (n m : Nat) (x : Nat → Nat → Bool) : (rowsI n m x).length = n := by simp [rowsI]
theorem rowI_congr {m : Nat} {y z : Nat → Bool} (h : ∀ c, c < m → y c = z c) : rowI m y = rowI m z := List.map_congr_left fun c hc => by rw [h c (List.mem_range.mp hc)]
theorem rowsI_congr {n m : Nat} {x y : Nat → Nat → Bool} (h : ∀ f c, f < n → c < m → x f c = y f c) : rowsI n m x = rowsI n m y := List.map_congr_left fun f hf => rowI_congr fun c hc => h f c (List.mem_range.mp hf) hc
theorem sg_inj {c : Nat} {a b : Bool} : sg c a = sg c b ↔ a = b := by
  have := sg_eq c a b
  rw [Bool.eq_iff_iff] at this
  simpa using this
theorem prd_mod {n f : Nat} (hf : f < n) : ((f : Nat) - 1 : Int) % (n : Nat) = (prd n f : Nat) := by
  unfold prd
  split
  · rename_i z; subst z
    rw [show (((0 : Nat) : Int) - 1) = ((n - 1 : Nat) : Int) + (-1) * n by omega, Int.add_mul_emod_self_right]
    exact Int.emod_eq_of_lt (by omega) (by omega)
  · rw [show ((f : Int) - 1) = ((f - 1 : Nat) : Int) by omega]
    exact Int.emod_eq_of_lt (by omega) (by omega)
theorem neighbours_eq {n f : Nat} {ring : Bool} (hf : f < n) : m_neighbours (n : Nat) (f : Nat) ring = some (natI (nearN n ring f)) := by
  unfold m_neighbours
  cases ring with
  | true =>
    rw [if_pos rfl, guard_pos (show (0 : Int) < (n : Nat) by omega)]
    simp only [bsome]
    rw [prd_mod hf, suc_mod hf]; rfl
  | false =>
    rw [if_neg (by decide)]
    unfold cfltT
    rw [if_pos (size_le (by simp))]
    simp only [bsome, Option.some.injEq]
    unfold nearN natI
    have e1 : (decide ((0 : Int) ≤ (f : Int) - 1) && decide ((f : Int) - 1 < (n : Nat))) = decide (0 < f) := by
      rw [← Bool.decide_and]; exact decide_eq_decide.mpr (by omega)
    have e2 : (decide ((0 : Int) ≤ (f : Int) + 1) && decide ((f : Int) + 1 < (n : Nat))) = decide (f + 1 < n) := by
      rw [← Bool.decide_and]; exact decide_eq_decide.mpr (by omega)
    rw [List.filter_cons, List.filter_cons, List.filter_nil, e1, e2]
    by_cases c1 : 0 < f <;> by_cases c2 : f + 1 < n <;> simp [c1, c2] <;> omega
theorem near_len {n f : Nat} {ring : Bool} : (nearN n ring f).length ≤ 2 := by
  unfold nearN
  split
  · simp
  · rw [List.length_append]
    have : (if 0 < f then [f - 1] else []).length ≤ 1 := by split <;> simp
    have : (if f + 1 < n then [f + 1] else []).length ≤ 1 := by split <;> simp
    omega
theorem natI_mapP {β : Type} {f : Int → Option β} {g : Nat → β} {l : List Nat} (hl : l.length ≤ 100000) (h : ∀ a, a ∈ l → f (a : Nat) = some (g a)) : cmapP f (natI l) = some (l.map g) := by
  have := cmapP_eq (f := f) (g := fun i => g i.toNat) (xs := natI l) (by simpa using hl) fun a ha => by
    unfold natI at ha
    obtain ⟨i, hi, rfl⟩ := List.mem_map.mp ha
    simpa using h i hi
  rw [this]
  unfold natI
  rw [List.map_map]
  exact congrArg _ (List.map_congr_left fun a _ => by simp)
section
variable {n m c f k : Nat} {x : Nat → Nat → Bool} {ring : Bool}
theorem is_held_eq (hc : c < m) (hf : f < n) (hn : n ≤ 1000) : m_is_held (rowsI n m x) ((c : Int) + 1) (f : Nat) ring = some (heldB n ring (col x c) f) := by
  unfold m_is_held
  rw [rowsI_length, neighbours_eq hf]
  simp only [bsome, natI_length]
  by_cases h : (nearN n ring f).length < 2
  · rw [if_pos (by simp; omega)]
    rw [show heldB n ring (col x c) f = true from held_iff.mpr (.inl h)]; rfl
  · rw [if_neg (by simp; omega)]
    rw [natI_mapP (g := fun g => x g c == x f c) (by have := near_len (n := n) (f := f) (ring := ring); omega) fun g hg => ?_]
    · simp only [bsome, List.any_map]
      unfold heldB
      rw [decide_eq_false (by omega), Bool.false_or]
      rfl
    · have hgn := near_lt hf hg
      rw [rowsI_at hgn, rowsI_at hf]
      simp only [bsome]
      rw [rowI_at1 hc, rowI_at1 hc]
      simp only [bsome, sg_eq]
def farI (n : Nat) (a : Nat → Nat) : List Int := (List.range n).map fun f => (a f : Int)
def farO (n : Nat) (ring : Bool) (x : Cfg) : Option (List Int) := if anyHeld n ring x = true then some (farI n (farP n ring x)) else none
@[simp] theorem farI_length (n : Nat) (a : Nat → Nat) : (farI n a).length = n := by simp [farI]
theorem farI_at {a : Nat → Nat} (hf : f < n) : atI (farI n a) (f : Nat) = some (a f : Int) := at_nat (by unfold farI; simp [hf])
theorem farI_prd {a : Nat → Nat} (hf : f < n) : atI (farI n a) ((f : Nat) - 1) = some ((a (prd n f) : Nat) : Int) := by
  by_cases h : f = 0
  · subst h
    unfold atI ixN
    rw [if_neg (by omega), farI_length, if_pos (by omega)]
    have e : (((0 : Nat) : Int) - 1 + (n : Nat)).toNat = n - 1 := by omega
    rw [e]
    unfold farI prd
    simp [hf, show n - 1 < n by omega]
  · have e : ((f : Nat) : Int) - 1 = ((f - 1 : Nat) : Int) := by omega
    rw [e, farI_at (show f - 1 < n by omega)]
    unfold prd
    rw [if_neg h]
theorem farI_set {a b : Nat → Nat} {v : Int} (hf : f < n) (hb : ∀ j, j ≠ f → b j = a j) (hv : ((b f : Nat) : Int) = v) : setO (farI n a) (f : Nat) v = some (farI n b) := by
  unfold setO
  rw [farI_length, ixN_of (by omega) (by omega)]
  refine congrArg some (List.ext_getElem? fun i => ?_)
  rw [List.getElem?_set, Int.toNat_natCast]
  unfold farI
  by_cases e : f = i
  · subst e
    simp [hf, hv]
  · rw [if_neg e]
    by_cases hi : i < n
    · simp [hi, hb i (Ne.symm e)]
    · simp [hi]
/-- a sweep of lowerings -/
theorem sweep_wp {stepf : Int → List Int → Option (List Int)} {p : Nat → Nat} {ok : Nat → Bool} (hs : ∀ j a, j < n → stepf (j : Nat) (farI n a) = some (farI n (low n p ok a j))) : ∀ (l : List Nat) (a : Nat → Nat), (∀ j ∈ l, j < n) → loopS stepf (natI l) (farI n a) = some (farI n (l.foldl (low n p ok) a))
  | [], a, _ => rfl
  | j :: l, a, h => by
    show (stepf (j : Nat) (farI n a)).bind (loopS stepf (natI l)) = _
    rw [hs j a (h j List.mem_cons_self)]
    exact sweep_wp hs l _ fun i hi => h i (List.mem_cons_of_mem _ hi)
theorem distances_eq (hc : c < m) (hn0 : 0 < n) (hn : n ≤ 1000) : m_distances (rowsI n m x) ((c : Int) + 1) ring = some (farO n ring (col x c)) := by
  unfold m_distances
  rw [rowsI_length, rng1_nat rfl (by omega)]
  simp only [bsome]
  rw [natI_mapP (g := fun f => ((far0 n ring (col x c) f : Nat) : Int)) (by simp; omega) fun f hf => ?_]
  rotate_left
  · have hf : f < n := List.mem_range.mp hf
    rw [is_held_eq hc hf hn]
    simp only [bsome]
    unfold far0
    split <;> rfl
  simp only [bsome]
  have e0 : (List.range n).map (fun f => ((far0 n ring (col x c) f : Nat) : Int)) = farI n (far0 n ring (col x c)) := rfl
  rw [e0]
  have ha : decide ((0 : Int) ∈ farI n (far0 n ring (col x c))) = anyHeld n ring (col x c) := by
    rw [Bool.eq_iff_iff, decide_eq_true_eq]
    unfold anyHeld far0 farI
    rw [List.any_eq_true, List.mem_map]
    refine exists_congr fun f => ?_
    rw [List.mem_range]
    refine and_congr_right fun _ => ?_
    show ((if heldB n ring (col x c) f = true then 0 else n : Nat) : Int) = 0 ↔ _
    split <;> simp_all
    omega
  rw [ha]
  unfold farO
  cases hh : anyHeld n ring (col x c) with
  | false => rfl
  | true =>
    rw [if_neg (by decide), lrgQ (by omega) (by omega) (by omega) (by omega), lrgQ (by omega) (by omega) (by omega) (by omega)]
    simp only [bsome]
    have e1 : rngI 1 ((n : Int) - 1).toNat ++ repB (rngI 0 ((n : Int) - 0).toNat) ring = natI (on1 n ring) := by
      rw [rngI1, show ((n : Int) - 1).toNat = n - 1 by omega, rngI0, show ((n : Int) - 0).toNat = n by omega]
      unfold on1 natI repB
      cases ring <;> simp
    have lr : (rngI 1 ((n : Int) - 1).toNat).length + (repB (rngI 0 ((n : Int) - 0).toNat) ring).length ≤ 100000 := by
      unfold repB rngI
      split <;> simp <;> omega
    rw [cat_ok lr, e1]
    simp only [bsome]
    have l1 : ∀ f ∈ on1 n ring, f < n := fun f hf => by
      unfold on1 at hf
      rw [List.mem_append] at hf
      rcases hf with h | h
      · exact (range'_lt h).2
      · split at h
        · exact List.mem_range.mp h
        · cases h
    have l2 : ∀ f ∈ back1 n, f < n := fun f hf => by
      unfold back1 at hf
      simpa using hf
    rw [sweep_wp (p := prd n) (ok := fun f => ring || decide (0 < f)) ?_ (on1 n ring) _ l1]
    rotate_left
    · intro j a hj
      rw [farI_at hj, farI_prd hj]
      simp only [bsome]
      by_cases hr : (ring || decide (0 < (j : Int))) = true
      · rw [if_pos hr]
        simp only [bsome]
        rw [farI_set hj (b := low n (prd n) (fun f => ring || decide (0 < f)) a j) (fun i hi => by unfold low; rw [if_neg hi]) ?_]
        · rfl
        · unfold low
          have : (ring || decide (0 < j)) = true := by simpa using hr
          rw [if_pos rfl, if_pos this]
          omega
      · rw [if_neg hr]
        simp only [bsome]
        rw [farI_set hj (b := low n (prd n) (fun f => ring || decide (0 < f)) a j) (fun i hi => by unfold low; rw [if_neg hi]) ?_]
        · rfl
        · unfold low
          have : ¬ (ring || decide (0 < j)) = true := by simpa using hr
          rw [if_pos rfl, if_neg this]
          omega
    simp only [bsome]
    have hrep : repO (rngI 0 ((n : Int) - 0).toNat) 2 = some (List.replicate 2 (rngI 0 ((n : Int) - 0).toNat)).flatten := repQ (n := 2) rfl (by omega) (by rw [show ((n : Int) - 0).toNat = n by omega, rngI0]; simp; omega)
    rw [hrep]
    simp only [bsome]
    have e2 : (List.replicate 2 (rngI 0 ((n : Int) - 0).toNat)).flatten.reverse = natI (back1 n) := by
      rw [show ((n : Int) - 0).toNat = n by omega, rngI0]
      unfold back1 natI
      simp [List.replicate]
    rw [e2, sweep_wp (p := suc n) (ok := fun f => ring || decide (f + 1 < n)) ?_ (back1 n) _ l2]
    · rfl
    · intro j a hj
      rw [farI_at hj, suc_mod hj, farI_at (suc_lt hj), guard_pos (show (0 : Int) < (n : Nat) by omega)]
      simp only [bsome]
      by_cases hr : (ring || decide ((j : Int) < (n : Nat) - 1)) = true
      · rw [if_pos hr]
        simp only [bsome]
        rw [farI_set hj (b := low n (suc n) (fun f => ring || decide (f + 1 < n)) a j) (fun i hi => by unfold low; rw [if_neg hi]) ?_]
        · rfl
        · unfold low
          have : (ring || decide (j + 1 < n)) = true := by
            rw [Bool.or_eq_true, decide_eq_true_eq] at hr ⊢
            exact hr.imp id fun h => by omega
          rw [if_pos rfl, if_pos this]
          omega
      · rw [if_neg hr]
        simp only [bsome]
        rw [farI_set hj (b := low n (suc n) (fun f => ring || decide (f + 1 < n)) a j) (fun i hi => by unfold low; rw [if_neg hi]) ?_]
        · rfl
        · unfold low
          have : ¬ (ring || decide (j + 1 < n)) = true := by
            rw [Bool.or_eq_true, decide_eq_true_eq] at hr ⊢
            exact fun z => hr (z.imp id fun h => by omega)
          rw [if_pos rfl, if_neg this]
          omega
theorem side_eq (hc : c < m) (hf : f < n) : m_side_behind (rowsI n m x) ((c : Int) + 1) (f : Nat) (k : Nat) (farO n ring (col x c)) = some (sg c (itB n ring k (col x c) f)) := by
  unfold m_side_behind
  have hq : ∀ t : Nat, itB n ring k (col x c) f = (x f c != odd t) → (if decide (Builtin.bitAnd (t : Int) 1 = 0) = true then sg c (x f c) else -sg c (x f c)) = sg c (itB n ring k (col x c) f) := fun t h => by
    rw [h, bitAnd_m1]
    by_cases ht : (t : Int) % 2 = 0
    · rw [if_pos (decide_eq_true ht), (odd_int t).mp ht, Bool.bne_false]
    · rw [if_neg (by simpa using ht), sg_neg]
      have : odd t = true := by
        cases e : odd t with
        | true => rfl
        | false => exact absurd ((odd_int t).mpr e) ht
      rw [this, Bool.bne_true]
  rw [rowsI_at hf]
  simp only [bsome]
  rw [rowI_at1 hc]
  simp only [bsome]
  unfold farO
  by_cases ha : anyHeld n ring (col x c) = true
  · have hF : Far n ring (col x c) (farP n ring (col x c)) := farP_far (by omega) (by simpa [anyHeld] using ha)
    rw [if_pos ha]
    simp only [optE_some]
    rw [farI_at hf]
    simp only [bsome]
    rw [show min (k : Int) (farP n ring (col x c) f : Nat) = ((min k (farP n ring (col x c) f) : Nat) : Int) by omega]
    exact congrArg some (hq _ (itB_far hF k f hf))
  · rw [if_neg ha]
    simp only [optE_none, bsome]
    refine congrArg some (hq k (itB_free (fun g hg => ?_) k f hf))
    cases e : heldB n ring (col x c) g with
    | false => rfl
    | true => exact absurd (by unfold anyHeld; rw [List.any_eq_true]; exact ⟨g, by simp [hg], e⟩) ha
end
end TT

/-! Q4: the beats, plainly (2) -/
namespace TT
open PySem PySem.Spec PyProof.Rows L2
section
variable {n m c f k : Nat} {x : Nat → Nat → Bool} {ring : Bool}
theorem all_distances_eq (hn0 : 0 < n) (hn : n ≤ 1000) (hm : m ≤ 1000) : m_all_distances (rowsI n m x) ring = some ((List.range m).map fun c => farO n ring (col x c)) := by
  unfold m_all_distances
  rw [show (0 : Int) = ((0 : Nat) : Int) from rfl, rowsI_at hn0]
  simp only [bsome, rowI_length]
  rw [rng2_nat (n := m + 1) rfl (by omega) (by omega)]
  simp only [bsome]
  have e : natI (List.range' 1 (m + 1 - 1)) = (natI (List.range m)).map fun i => i + 1 := by
    unfold natI
    rw [List.range'_eq_map_range, List.map_map, List.map_map, Nat.add_sub_cancel]
    exact List.map_congr_left fun i _ => by show ((1 + i : Nat) : Int) = (i : Int) + 1; omega
  rw [e, cmapP_eq (g := fun i => farO n ring (col x (i - 1).toNat)) (by simp; omega) fun a ha => ?_]
  · simp only [bsome]
    unfold natI
    rw [List.map_map, List.map_map]
    exact congrArg some (List.map_congr_left fun i _ => by simp)
  · unfold natI at ha
    rw [List.map_map] at ha
    obtain ⟨i, hi, rfl⟩ := List.mem_map.mp ha
    have hi : i < m := List.mem_range.mp hi
    show (m_distances (rowsI n m x) ((i : Int) + 1) ring).bind _ = _
    rw [distances_eq hi hn0 hn]
    simp
theorem spot_eq (hf : f < n) (hm : m ≤ 1000) : m_spot_behind (rowsI n m x) (f : Nat) (k : Nat) ((List.range m).map fun c => farO n ring (col x c)) = some (rowI m fun c => itB n ring k (col x c) f) := by
  unfold m_spot_behind
  rw [enumI_range, cmapP_eq (g := fun p => sg p.1.toNat (itB n ring k (col x p.1.toNat) f)) (by simp; omega) fun a ha => ?_]
  · simp only [bsome, List.map_map]
    exact congrArg some (List.map_congr_left fun i _ => by simp)
  · obtain ⟨i, hi, rfl⟩ := List.mem_map.mp ha
    have hi : i < m := List.mem_range.mp hi
    show (m_side_behind (rowsI n m x) ((i : Int) + 1) (f : Nat) (k : Nat) (farO n ring (col x i))).bind _ = _
    rw [side_eq hi hf]
    simp
theorem behind_eq (hn0 : 0 < n) (hn : n ≤ 1000) (hm : m ≤ 1000) : m_behind (rowsI n m x) (k : Nat) ring = some (rowsI n m (beatsX n ring k x)) := by
  unfold m_behind
  rw [all_distances_eq hn0 hn hm]
  simp only [bsome]
  rw [rng1_nat (n := n) (by simp) (by omega)]
  simp only [bsome]
  rw [natI_mapP (g := fun f => rowI m fun c => itB n ring k (col x c) f) (by simp; omega) fun f hf => ?_]
  · rfl
  · have hf : f < n := List.mem_range.mp hf
    rw [spot_eq hf hm]; rfl
/-! the rule itself -/
theorem maj_sg {c : Nat} {a b d : Bool} : (if decide (sg c a ∈ [sg c b, sg c d]) = true then sg c a else sg c b) = sg c (if (a == b || a == d) = true then a else b) := by
  have : decide (sg c a ∈ [sg c b, sg c d]) = (a == b || a == d) := by
    rw [Bool.eq_iff_iff, decide_eq_true_eq]
    simp [sg_inj]
  rw [this]
  split <;> rfl
def majB (a b d : Bool) : Bool := if (a == b || a == d) = true then a else b
theorem zip3_range {α β γ : Type} (f : Nat → α) (g : Nat → β) (h : Nat → γ) (l : List Nat) : zip3 (l.map f) (l.map g) (l.map h) = l.map fun i => (f i, g i, h i) := by
  induction l with
  | nil => rfl
  | cons i l ih => rw [List.map_cons, List.map_cons, List.map_cons, zip3, ih]; rfl
theorem meet_eq {y1 y2 y3 : Nat → Bool} (hm : m ≤ 1000) : m_meet (rowI m y1) (rowI m y2) (rowI m y3) = some (rowI m fun c => majB (y1 c) (y2 c) (y3 c)) := by
  unfold m_meet rowI
  rw [zip3_range]
  unfold cmapT
  rw [if_pos (size_le (by simp; omega)), List.map_map]
  exact congrArg some (List.map_congr_left fun i _ => maj_sg)
theorem law_meet_eq {y1 y2 y3 : Nat → Bool} (hm : m ≤ 1000) : m__law_meet (rowI m y1) (rowI m y2) (rowI m y3) = some (rowI m fun c => majB (y1 c) (y2 c) (y3 c)) := by
  unfold m__law_meet
  rw [rowI_length, rng1_nat rfl (by omega)]
  simp only [bsome]
  rw [natI_mapP (g := fun c => sg c (majB (y1 c) (y2 c) (y3 c))) (by simp; omega) fun c hc => ?_]
  · rfl
  · have hc : c < m := List.mem_range.mp hc
    rw [rowI_at hc, rowI_at hc, rowI_at hc]
    simp only [bsome]
    rw [← apply_ite some, maj_sg]
    rfl
/-- a beat, at one who has two beside him -/
theorem maj_step {y : Cfg} {g h : Nat} (e : nearN n ring f = [g, h]) : majB (y g) (y f) (y h) = stepB n ring y f := by
  unfold stepB majB
  have : heldB n ring y f = (y g == y f || y h == y f) := by
    unfold heldB
    rw [e]
    simp
  rw [this]
  cases y g <;> cases y f <;> cases y h <;> rfl
theorem one_step {y : Cfg} (e : (nearN n ring f).length < 2) : y f = stepB n ring y f := by
  unfold stepB
  rw [if_pos (held_iff.mpr (.inl e))]
theorem beat_eq (hn : n ≤ 1000) (hm : m ≤ 1000) : m_beat (rowsI n m x) ring = some (rowsI n m (beatsX n ring 1 x)) := by
  unfold m_beat
  rw [show enumI 0 (rowsI n m x) = (List.range n).map fun (i : Nat) => ((i : Int), rowI m (x i)) from enumI_range _ _]
  rw [loop_push (g := fun p => rowI m (beatsX n ring 1 x p.1.toNat)) (by simp; omega) fun p hp acc ha => ?_]
  · rw [bsome, List.nil_append, List.map_map]; rfl
  · obtain ⟨f, hf, rfl⟩ := List.mem_map.mp hp
    have hf := List.mem_range.mp hf
    show (m_neighbours (rowsI n m x).length (f : Nat) ring).bind _ = _
    rw [rowsI_length, neighbours_eq hf]
    simp only [bsome]
    rw [natI_mapP (g := fun g => rowI m (x g)) (by have := near_len (n := n) (f := f) (ring := ring); omega) fun g hg => by rw [rowsI_at (near_lt hf hg)]; rfl]
    simp only [bsome]
    have hv : (if (decide ((((nearN n ring f).map fun g => rowI m (x g)).length : Int) = 2)) = true then (atI ((nearN n ring f).map fun g => rowI m (x g)) 0).bind fun x1 => (atI ((nearN n ring f).map fun g => rowI m (x g)) 1).bind fun x2 => (m_meet x1 (rowI m (x f)) x2).bind fun r1 => some r1 else some (rowI m (x f))) = some (rowI m (beatsX n ring 1 x f)) := by
      match e : nearN n ring f with
      | [] => exact congrArg some (rowI_congr fun c _ => one_step (y := col x c) (by rw [e]; decide))
      | [g] => exact congrArg some (rowI_congr fun c _ => one_step (y := col x c) (by rw [e]; simp))
      | [g, h] =>
        rw [if_pos (by simp)]
        show (m_meet (rowI m (x g)) (rowI m (x f)) (rowI m (x h))).bind _ = _
        rw [meet_eq hm]
        exact congrArg some (rowI_congr fun c _ => maj_step (y := col x c) e)
      | g :: h :: i :: r =>
        have := near_len (n := n) (f := f) (ring := ring)
        rw [e] at this
        simp at this
    rw [hv]
    simp only [bsome]
    rw [push_ok ha]
    rfl
theorem law_beat_eq (hn : n ≤ 1000) (hm : m ≤ 1000) : m__law_beat (rowsI n m x) ring = some (rowsI n m (beatsX n ring 1 x)) := by
  unfold m__law_beat
  rw [rowsI_length, rng1_nat rfl (by omega), bsome]
  rw [loop_push (g := fun i => rowI m (beatsX n ring 1 x i.toNat)) (by simp; omega) fun p hp acc ha => ?_]
  · rw [bsome, List.nil_append]
    unfold natI rowsI
    rw [List.map_map]; rfl
  · unfold natI at hp
    obtain ⟨f, hf, rfl⟩ := List.mem_map.mp hp
    have hf := List.mem_range.mp hf
    have h0 : (0 : Int) < (n : Nat) := by omega
    have two : ∀ g h, nearN n ring f = [g, h] → ((m__law_meet (rowI m (x g)) (rowI m (x f)) (rowI m (x h))).bind fun r1 => (pushO acc r1).bind fun found1 => some found1) = some (acc ++ [rowI m (beatsX n ring 1 x f)]) := fun g h e => by
      rw [law_meet_eq hm, bsome, push_ok ha, bsome]
      exact congrArg (fun r => some (acc ++ [r])) (rowI_congr fun c _ => maj_step (y := col x c) e)
    rw [Int.toNat_natCast]
    by_cases hc : (ring || (decide (0 < (f : Int)) && decide ((f : Int) < (n : Nat) - 1))) = true
    · rw [if_pos hc, guard_pos h0, bsome]
      have e1 : ((f : Int) + (n : Nat) - 1) % (n : Nat) = (prd n f : Nat) := by
        rw [show (f : Int) + (n : Nat) - 1 = ((f : Int) - 1) + 1 * (n : Nat) by omega, Int.add_mul_emod_self_right, prd_mod hf]
      rw [e1, rowsI_at (prd_lt hf), bsome, rowsI_at hf, bsome, bsome, suc_mod hf, rowsI_at (suc_lt hf), bsome]
      refine two _ _ ?_
      unfold nearN
      by_cases hr : ring = true
      · rw [if_pos hr]
      · rw [if_neg hr]
        have hr : ring = false := by simpa using hr
        rw [hr] at hc
        have hc : 0 < f ∧ (f : Int) < (n : Nat) - 1 := by simpa using hc
        unfold prd suc
        rw [if_pos hc.1, if_pos (show f + 1 < n by omega), if_neg (by omega), if_neg (by omega)]; rfl
    · rw [if_neg hc, rowsI_at hf, bsome, push_ok ha, bsome]
      refine congrArg (fun r => some (acc ++ [r])) (rowI_congr fun c _ => one_step (y := col x c) ?_)
      have hr : ring = false := by
        cases ring with
        | false => rfl
        | true => exact absurd rfl hc
      rw [hr] at hc
      have hc : 0 < f → ¬ (f : Int) < (n : Nat) - 1 := by simpa using hc
      unfold nearN
      rw [hr, if_neg (by decide)]
      by_cases c1 : 0 < f
      · have := hc c1
        rw [if_pos c1, if_neg (by omega)]; simp
      · rw [if_neg c1]
        split <;> simp
theorem beatsX_add (j k : Nat) : beatsX n ring k (beatsX n ring j x) = beatsX n ring (k + j) x := by
  funext f c
  exact (congrFun (itB_add (n := n) (ring := ring) (x := col x c) j k) f).symm
theorem beatsX_zero : beatsX n ring 0 x = x := rfl
end
end TT

/-! Q5: how long the shown texts are -/
namespace TT
open PySem PySem.Spec PyProof.Rows L2
section
variable {α β γ δ : Type} {e : α → D} {P : α → Prop} {k : Nat} {o : Bool}
/-- such data can be shown, in at most k signs -/
def SB (e : α → D) (P : α → Prop) (k : Nat) : Prop := ∀ a, P a → (e a).py.showable = true ∧ (e a).py.shown.length ≤ k
theorem SB.shown (h : SB e P k) {a : α} (ha : P a) (hk : k ≤ 100000 := by decide) : shownO (e a) = some (e a).py.shown := by
  unfold shownO
  rw [if_pos ⟨(h a ha).1, size_le (Nat.le_trans (h a ha).2 hk)⟩]
theorem SB.mono {j : Nat} {R : α → Prop} (h : SB e P k) (hk : k ≤ j) (hr : ∀ a, R a → P a) : SB e R j := fun a ha => ⟨(h a (hr a ha)).1, Nat.le_trans (h a (hr a ha)).2 hk⟩
theorem sbI (k : Nat) (h0 : 0 < k := by decide) (h1 : k ≤ 500 := by decide) : SB D.int (fun i => i.natAbs < 10 ^ k) (k + 1) := fun i hi => by
  rw [py_int]
  refine ⟨?_, ?_⟩
  · simp only [PyData.showable, decide_eq_true_eq]
    by_cases h : i.natAbs = 0
    · rw [h]; decide
    · refine (Nat.log2_lt h).mpr (Nat.lt_of_lt_of_le hi (Nat.le_trans (Nat.pow_le_pow_right (by decide) h1) ?_))
      have : 10 ^ 500 ≤ 2 ^ 1920 := by decide +kernel
      exact this
  · simp only [PyData.shown]
    rw [PySem.ofString_length]
    exact int_text_length_le10 h0 hi
theorem sbB : SB D.bl (fun _ => True) 5 := fun b _ => by
  rw [py_bl]
  refine ⟨by simp only [PyData.showable], ?_⟩
  simp only [PyData.shown]
  cases b <;> decide
theorem sbN : SB eN (fun _ => True) 4 := fun _ _ => by
  show D.non.py.showable = true ∧ D.non.py.shown.length ≤ 4
  rw [D.py]
  exact ⟨by simp only [PyData.showable], by simp only [PyData.shown]; decide⟩
theorem sb_all (h : SB e P k) : ∀ xs : List α, (∀ x, x ∈ xs → P x) → PyData.showableAll (pyL (xs.map e)) = true ∧ ((PyData.shownAll (pyL (xs.map e))).map (·.length)).sum ≤ k * xs.length ∧ (PyData.shownAll (pyL (xs.map e))).length = xs.length
  | [], _ => by simp [pyL, PyData.showableAll, PyData.shownAll]
  | x :: xs, hp => by
    obtain ⟨h1, h2, h3⟩ := sb_all h xs fun y hy => hp y (List.mem_cons_of_mem _ hy)
    obtain ⟨g1, g2⟩ := h x (hp x List.mem_cons_self)
    simp only [List.map_cons, pyL, PyData.showableAll, PyData.shownAll, List.sum_cons, List.length_cons, h1, g1, Nat.mul_add, h3]
    exact ⟨rfl, by omega, trivial⟩
theorem sbL (n : Nat) (h : SB e P k) : SB (eL o e) (fun xs => xs.length ≤ n ∧ ∀ x, x ∈ xs → P x) ((k + 2) * n + 3) := fun xs hp => by
  obtain ⟨h1, h2, h3⟩ := sb_all h xs hp.2
  unfold eL
  rw [py_lst]
  refine ⟨by simp only [PyData.showable]; exact h1, ?_⟩
  simp only [PyData.shown]
  have := listText_len_le (PyData.shownAll (pyL (xs.map e)))
  rw [h3] at this
  have : k * xs.length ≤ k * n := Nat.mul_le_mul_left k hp.1
  rw [Nat.add_mul]
  have := hp.1
  omega
theorem sbT (n : Nat) (h : SB e P k) : SB (eT e) (fun xs => xs.length ≤ n ∧ ∀ x, x ∈ xs → P x) ((k + 2) * n + 3) := fun xs hp => by
  obtain ⟨h1, h2, h3⟩ := sb_all h xs hp.2
  unfold eT
  rw [py_tup]
  refine ⟨by simp only [PyData.showable]; exact h1, ?_⟩
  simp only [PyData.shown]
  have := tupleText_len_le (PyData.shownAll (pyL (xs.map e)))
  rw [h3] at this
  have : k * xs.length ≤ k * n := Nat.mul_le_mul_left k hp.1
  rw [Nat.add_mul]
  have := hp.1
  omega
theorem sbO (h : SB e P k) (hk : 4 ≤ k) : SB (eO e) (fun x => ∀ a, x = some a → P a) k := fun x hp => by
  cases x with
  | none =>
    show D.non.py.showable = true ∧ D.non.py.shown.length ≤ k
    rw [D.py]
    refine ⟨by simp only [PyData.showable], ?_⟩
    simp only [PyData.shown]
    exact Nat.le_trans (show (("None" : String) : Str).length ≤ 4 by decide) hk
  | some a => exact h a (hp a rfl)
variable {ea : α → D} {eb : β → D} {ec : γ → D} {Pa : α → Prop} {Pb : β → Prop} {Pc : γ → Prop} {ka kb kc : Nat}
theorem sb2 (ha : SB ea Pa ka) (hb : SB eb Pb kb) : SB (e2 ea eb) (fun p => Pa p.1 ∧ Pb p.2) (ka + kb + 7) := fun p hp => by
  obtain ⟨a1, a2⟩ := ha p.1 hp.1
  obtain ⟨b1, b2⟩ := hb p.2 hp.2
  unfold e2
  rw [py_tup]
  simp only [pyL, PyData.showable, PyData.showableAll, PyData.shown, PyData.shownAll, a1, b1]
  refine ⟨rfl, ?_⟩
  have := tupleText_len_le [(ea p.1).py.shown, (eb p.2).py.shown]
  simp at this
  omega
theorem sb3 (ha : SB ea Pa ka) (hb : SB eb Pb kb) (hc : SB ec Pc kc) : SB (e3 ea eb ec) (fun p => Pa p.1 ∧ Pb p.2.1 ∧ Pc p.2.2) (ka + kb + kc + 9) := fun p hp => by
  obtain ⟨a1, a2⟩ := ha p.1 hp.1
  obtain ⟨b1, b2⟩ := hb p.2.1 hp.2.1
  obtain ⟨c1, c2⟩ := hc p.2.2 hp.2.2
  unfold e3
  rw [py_tup]
  simp only [pyL, PyData.showable, PyData.showableAll, PyData.shown, PyData.shownAll, a1, b1, c1]
  refine ⟨rfl, ?_⟩
  have := tupleText_len_le [(ea p.1).py.shown, (eb p.2.1).py.shown, (ec p.2.2).py.shown]
  simp at this
  omega
/-- who owns a list doesn't show -/
theorem py_eL (o : Bool) (xs : List α) : (eL o e xs).py = (eL false e xs).py := by
  unfold eL
  rw [py_lst, py_lst]
theorem shown_eL (o : Bool) (xs : List α) : shownO (eL o e xs) = shownO (eL false e xs) := by
  unfold shownO
  rw [py_eL]
theorem wp_shown {f : Str → Option β} {K : β → Prop} {a : α} (h : SB e P k) (ha : P a) (hk : k ≤ 100000) (q : Wp (f (e a).py.shown) K) : Wp ((shownO (e a)).bind f) K := wp_step (h.shown ha hk) q
end
/-- stands -/
theorem sbSt {o : Bool} : SB (eL o (eT D.int)) (fun rows => rows.length ≤ 100 ∧ ∀ row, row ∈ rows → row.length ≤ 100 ∧ ∀ i, i ∈ row → i.natAbs < 10 ^ 4) 70803 := (sbL 100 (sbT 100 (sbI 4))).mono (by decide) fun _ h => h
theorem rowsI_sb {n m : Nat} {x : Nat → Nat → Bool} (hn : n ≤ 100) (hm : m ≤ 100) : (rowsI n m x).length ≤ 100 ∧ ∀ row, row ∈ rowsI n m x → row.length ≤ 100 ∧ ∀ i, i ∈ row → i.natAbs < 10 ^ 4 := by
  refine ⟨by rw [rowsI_length]; exact hn, fun row hr => ?_⟩
  unfold rowsI at hr
  obtain ⟨f, _, rfl⟩ := List.mem_map.mp hr
  refine ⟨by rw [rowI_length]; exact hm, fun i hi => ?_⟩
  unfold rowI at hi
  obtain ⟨c, hc, rfl⟩ := List.mem_map.mp hi
  have hc := List.mem_range.mp hc
  unfold sg
  split <;> omega
def shSt (rows : List (List Int)) : Str := ((eL false (eT D.int)) rows).py.shown
theorem shSt_eq {o : Bool} {n m : Nat} {x : Nat → Nat → Bool} (hn : n ≤ 100) (hm : m ≤ 100) : shownO ((eL o (eT D.int)) (rowsI n m x)) = some (shSt (rowsI n m x)) := by
  rw [shown_eL]
  exact sbSt.shown (rowsI_sb hn hm)
/-- what the law must promise, from a promise that holds -/
theorem law_spG {sp : TX} (h : ∀ env Q, spLaw env Q → sp env Q) {K : PySem.W.Frag} {H : Hp} {a : Addr} {ns : List Int} (hl : ns.length ≤ 63) (ho : Only H) (hs : SqL K H a (ns.map V.int)) : liftSp K 1 sp [.ref a] H (fun v _ => v = .bl true) (fun _ _ _ => False) := by
  obtain ⟨h1, S, Qt, e, s, q, k⟩ := law_sp (K := K) hl ho hs
  exact ⟨h1, S, Qt, e, s, h _ _ q, k⟩
end TT

/-! Q6: when all rest, plainly -/
namespace TT
open PySem PySem.Spec PyProof.Rows L2
section
variable {n m k c f : Nat} {ring : Bool}
section
variable {x : Cfg}
theorem far_of (hn : 0 < n) (ha : anyHeld n ring x = true) : Far n ring x (farP n ring x) := farP_far hn (by simpa [anyHeld] using ha)
theorem none_held (ha : anyHeld n ring x = false) (hf : f < n) : heldB n ring x f = false := by
  cases e : heldB n ring x f with
  | false => rfl
  | true =>
    have : anyHeld n ring x = true := by unfold anyHeld; rw [List.any_eq_true]; exact ⟨f, by simp [hf], e⟩
    rw [ha] at this
    cases this
theorem held_fix : heldB n ring x f = true ↔ stepB n ring x f = x f := by
  unfold stepB
  cases heldB n ring x f <;> cases x f <;> simp
theorem it_far (hn : 0 < n) (ha : anyHeld n ring x = true) (hf : f < n) : itB n ring k x f = (x f != odd (min k (farP n ring x f))) := itB_far (far_of hn ha) k f hf
theorem it_free (ha : anyHeld n ring x = false) (hf : f < n) : itB n ring k x f = (x f != odd k) := itB_free (fun g hg => none_held ha hg) k f hf
theorem held_ge (hn : 0 < n) (ha : anyHeld n ring x = true) (hf : f < n) (hk : farP n ring x f ≤ k) : heldB n ring (itB n ring k x) f = true := by
  refine held_fix.mpr ?_
  show itB n ring (k + 1) x f = itB n ring k x f
  rw [it_far hn ha hf, it_far hn ha hf, Nat.min_eq_right hk, Nat.min_eq_right (by omega)]
theorem free_it (ha : anyHeld n ring x = false) (hf : f < n) : heldB n ring (itB n ring k x) f = false := by
  cases e : heldB n ring (itB n ring k x) f with
  | false => rfl
  | true =>
    have h : itB n ring (k + 1) x f = itB n ring k x f := held_fix.mp e
    rw [it_free ha hf, it_free ha hf, odd_succ] at h
    revert h
    cases x f <;> cases odd k <;> simp
theorem anyHeld_it (hn : 0 < n) : anyHeld n ring (itB n ring k x) = anyHeld n ring x := by
  cases ha : anyHeld n ring x with
  | false =>
    cases e : anyHeld n ring (itB n ring k x) with
    | false => rfl
    | true =>
      unfold anyHeld at e
      rw [List.any_eq_true] at e
      obtain ⟨f, hf, e⟩ := e
      rw [free_it ha (List.mem_range.mp hf)] at e
      cases e
  | true =>
    have ha' := ha
    unfold anyHeld at ha'
    rw [List.any_eq_true] at ha'
    obtain ⟨f, hf, e⟩ := ha'
    have hf' := List.mem_range.mp hf
    unfold anyHeld
    rw [List.any_eq_true]
    exact ⟨f, hf, held_ge hn ha hf' (by rw [((far_of hn ha).zero f hf').mpr e]; omega)⟩
theorem far_le (hf : f < n) : farP n ring x f ≤ farTop n ring x := topN_ge (List.mem_map_of_mem (List.mem_range.mpr hf))
theorem farTop_it (hn : 0 < n) (ha : anyHeld n ring x = true) (hk : farTop n ring x ≤ k) : farTop n ring (itB n ring k x) = 0 := by
  refine Nat.le_zero.mp (topN_le fun a h => ?_)
  obtain ⟨f, hf, rfl⟩ := List.mem_map.mp h
  have hf := List.mem_range.mp hf
  have ha2 : anyHeld n ring (itB n ring k x) = true := by rw [anyHeld_it hn]; exact ha
  rw [((far_of hn ha2).zero f hf).mpr (held_ge hn ha hf (Nat.le_trans (far_le hf) hk))]
  exact Nat.le_refl _
end
variable {x : Nat → Nat → Bool}
theorem col_it : col (beatsX n ring k x) c = itB n ring k (col x c) := rfl
theorem farTop_le (hc : c < m) (ha : anyHeld n ring (col x c) = true) : farTop n ring (col x c) ≤ latest n m ring x := topN_ge (List.mem_map_of_mem (List.mem_filter.mpr ⟨List.mem_range.mpr hc, ha⟩))
theorem swings_it (hn : 0 < n) : swings n m ring (beatsX n ring k x) = swings n m ring x := List.filter_congr fun c _ => by rw [col_it, anyHeld_it hn]
theorem latest_it (hn : 0 < n) (hk : latest n m ring x ≤ k) : latest n m ring (beatsX n ring k x) = 0 := by
  refine Nat.le_zero.mp (topN_le fun a h => ?_)
  obtain ⟨c, hc, rfl⟩ := List.mem_map.mp h
  obtain ⟨hc, ha⟩ := List.mem_filter.mp hc
  have hc := List.mem_range.mp hc
  rw [col_it, anyHeld_it hn] at ha
  rw [col_it, farTop_it hn ha (Nat.le_trans (farTop_le hc ha) hk)]
  exact Nat.le_refl _
theorem mem_swings : c ∈ swings n m ring x ↔ c < m ∧ anyHeld n ring (col x c) = false := by
  unfold swings
  rw [List.mem_filter, List.mem_range]
  simp
/-- nothing moves at a beat just if all rest at once -/
theorem still_iff (hn : 0 < n) : (∀ f c, f < n → c < m → beatsX n ring 1 x f c = x f c) ↔ latest n m ring x = 0 ∧ swings n m ring x = [] := by
  constructor
  · intro h
    have hh : ∀ f c, f < n → c < m → heldB n ring (col x c) f = true := fun f c hf hc => held_fix.mpr (h f c hf hc)
    have ha : ∀ c, c < m → anyHeld n ring (col x c) = true := fun c hc => by
      unfold anyHeld
      rw [List.any_eq_true]
      exact ⟨0, List.mem_range.mpr hn, hh 0 c hn hc⟩
    refine ⟨Nat.le_zero.mp (topN_le fun a h => ?_), ?_⟩
    · obtain ⟨c, hc, rfl⟩ := List.mem_map.mp h
      have hc := List.mem_range.mp (List.mem_filter.mp hc).1
      refine topN_le fun a h => ?_
      obtain ⟨f, hf, rfl⟩ := List.mem_map.mp h
      have hf := List.mem_range.mp hf
      rw [((far_of hn (ha c hc)).zero f hf).mpr (hh f c hf hc)]
      exact Nat.le_refl _
    · cases e : swings n m ring x with
      | nil => rfl
      | cons c r =>
        have : c ∈ swings n m ring x := by rw [e]; exact List.mem_cons_self
        obtain ⟨hc, h2⟩ := mem_swings.mp this
        rw [ha c hc] at h2
        cases h2
  · rintro ⟨h1, h2⟩ f c hf hc
    have ha : anyHeld n ring (col x c) = true := by
      cases e : anyHeld n ring (col x c) with
      | true => rfl
      | false =>
        have : c ∈ swings n m ring x := mem_swings.mpr ⟨hc, e⟩
        rw [h2] at this
        cases this
    refine held_fix.mp (((far_of hn ha).zero f hf).mp ?_)
    have := farTop_le (m := m) hc ha
    have := far_le (ring := ring) (x := col x c) hf
    omega
/-! the program's own -/
theorem topO_nat {ns : List Nat} (h : ns ≠ []) : topO true (natI ns) = some (topN ns : Int) := by
  refine top_of (List.mem_map_of_mem (topN_mem h)) fun y hy => ?_
  rw [if_pos rfl]
  obtain ⟨a, ha, rfl⟩ := List.mem_map.mp hy
  have := topN_ge ha
  omega
theorem fmP_map {α β γ : Type} {g : γ → α} {f : α → Option (Option β)} {p : γ → Bool} {v : γ → β} : ∀ {l : List γ}, (∀ a, a ∈ l → f (g a) = some (if p a = true then some (v a) else none)) → fmP f (l.map g) = some ((l.filter p).map v)
  | [], _ => rfl
  | a :: l, h => by
    rw [List.map_cons, fmP, h a List.mem_cons_self, bsome, fmP_map fun b hb => h b (List.mem_cons_of_mem _ hb), bsome, List.filter_cons]
    cases p a <;> rfl
theorem cfmP_map {α β γ : Type} {g : γ → α} {f : α → Option (Option β)} (p : γ → Bool) (v : γ → β) {l : List γ} (hl : l.length ≤ 100000) (h : ∀ a, a ∈ l → f (g a) = some (if p a = true then some (v a) else none)) : cfmP f (l.map g) = some ((l.filter p).map v) := by
  unfold cfmP
  rw [if_pos (size_le (by simpa using hl)), fmP_map h]
theorem latest_of_eq (hn0 : 0 < n) (hm : m ≤ 1000) : m_latest_of ((List.range m).map fun c => farO n ring (col x c)) = some (latest n m ring x : Int) := by
  unfold m_latest_of
  rw [cfmP_map (fun c => anyHeld n ring (col x c)) (fun c => (farTop n ring (col x c) : Int)) (by simp; omega) fun c hc => ?_]
  · rw [bsome]
    have e : ((List.range m).filter fun c => anyHeld n ring (col x c)).map (fun c => (farTop n ring (col x c) : Int)) = natI (((List.range m).filter fun c => anyHeld n ring (col x c)).map fun c => farTop n ring (col x c)) := by
      unfold natI
      rw [List.map_map]; rfl
    rw [e]
    by_cases h : ((List.range m).filter fun c => anyHeld n ring (col x c)).map (fun c => farTop n ring (col x c)) = []
    · rw [h]
      unfold latest
      rw [h]; rfl
    · rw [topO_nat h]; rfl
  · unfold farO
    by_cases ha : anyHeld n ring (col x c) = true
    · rw [if_pos ha, if_pos ha, optE_some]
      have e : farI n (farP n ring (col x c)) = natI ((List.range n).map (farP n ring (col x c))) := by
        unfold farI natI
        rw [List.map_map]; rfl
      rw [e, topO_nat (by simp; omega)]; rfl
    · rw [if_neg ha, if_neg ha, optE_none]
theorem rest_eq (hn0 : 0 < n) (hn : n ≤ 1000) (hm : m ≤ 1000) : m_rest (rowsI n m x) ring = some ((latest n m ring x : Int), natI ((swings n m ring x).map (· + 1))) := by
  unfold m_rest
  rw [all_distances_eq hn0 hn hm, bsome, latest_of_eq hn0 hm, bsome, enumI_range]
  unfold cfltT
  rw [if_pos (size_le (by simp; omega)), bsome]
  refine congrArg (fun l => some ((latest n m ring x : Int), l)) ?_
  unfold swings natI
  rw [List.filter_map, List.map_map, List.map_map]
  have e : ((List.range m).filter ((fun (p : Int × Option (List Int)) => p.2.isNone) ∘ fun (i : Nat) => ((i : Int), farO n ring (col x i)))) = (List.range m).filter fun c => !anyHeld n ring (col x c) := List.filter_congr fun c _ => by
    show (farO n ring (col x c)).isNone = !anyHeld n ring (col x c)
    unfold farO
    cases anyHeld n ring (col x c) <;> rfl
  refine Eq.trans (congrArg _ e) (List.map_congr_left fun c _ => ?_)
  show (c : Int) + 1 = ((c + 1 : Nat) : Int)
  omega
theorem rowI_inj {y z : Nat → Bool} (h : rowI m y = rowI m z) (hc : c < m) : y c = z c := by
  have := congrArg (fun l => l[c]?) h
  simp only [rowI, List.getElem?_map, List.getElem?_range hc, Option.map_some, Option.some.injEq] at this
  exact sg_inj.mp this
theorem rowsI_inj {y z : Nat → Nat → Bool} (h : rowsI n m y = rowsI n m z) (hf : f < n) (hc : c < m) : y f c = z f c := by
  have := congrArg (fun l => l[f]?) h
  simp only [rowsI, List.getElem?_map, List.getElem?_range hf, Option.map_some, Option.some.injEq] at this
  exact rowI_inj this hc
theorem rowsI_eq {y z : Nat → Nat → Bool} : rowsI n m y = rowsI n m z ↔ ∀ f c, f < n → c < m → y f c = z f c := ⟨fun h f c hf hc => rowsI_inj h hf hc, rowsI_congr⟩
theorem at_rest_eq (hn0 : 0 < n) (hn : n ≤ 1000) (hm : m ≤ 1000) : m_is_at_rest (rowsI n m x) ring = some (decide (latest n m ring x = 0 ∧ swings n m ring x = [])) := by
  unfold m_is_at_rest
  rw [beat_eq hn hm, bsome]
  exact congrArg some (decide_eq_decide.mpr (rowsI_eq.trans (still_iff hn0)))
theorem held_eq (hc : c < m) (hn : n ≤ 1000) : m_held (rowsI n m x) ((c : Int) + 1) ring = some (natI ((List.range n).filter fun f => heldB n ring (col x c) f)) := by
  unfold m_held
  rw [rowsI_length, rng1_nat rfl (by omega), bsome]
  unfold natI
  rw [cfmP_map (fun f => heldB n ring (col x c) f) (fun f => (f : Int)) (by simp; omega) fun f hf => ?_]
  · rw [bsome]
  · rw [is_held_eq hc (List.mem_range.mp hf) hn, bsome]
    split <;> rfl
end
end TT

/-! Q7: nobody is farther than half the row -/
namespace TT
section
variable {n f : Nat} {ring : Bool} {x : Cfg}
theorem far_half_row (H : Far n false x far) (hf : f < n) : 2 * far f ≤ n - 1 := by
  have h0 : heldB n false x 0 = true := held_iff.mpr (.inl (by
    unfold nearN
    rw [if_neg (by decide), if_neg (by omega)]
    split <;> simp))
  have h1 : heldB n false x (n - 1) = true := held_iff.mpr (.inl (by
    unfold nearN
    rw [if_neg (by decide), if_neg (show ¬ n - 1 + 1 < n by omega)]
    split <;> simp))
  have up : ∀ f, f < n → far f ≤ f := by
    intro f
    induction f with
    | zero => intro hf; rw [(H.zero 0 hf).mpr h0]; exact Nat.le_refl _
    | succ f ih =>
      intro hf
      have := H.lip (f + 1) f hf ((near_mem hf).mpr (.inr ⟨rfl, .inl ⟨by omega, by omega⟩⟩))
      have := ih (by omega)
      omega
  have down : ∀ j, j < n → far (n - 1 - j) ≤ j := by
    intro j
    induction j with
    | zero => intro hj; rw [Nat.sub_zero, (H.zero (n - 1) (by omega)).mpr h1]; exact Nat.le_refl _
    | succ j ih =>
      intro hj
      have h := H.lip (n - 1 - (j + 1)) (n - 1 - j) (by omega) ((near_mem (by omega)).mpr (.inr ⟨rfl, .inr ⟨by omega, by omega⟩⟩))
      have := ih (by omega)
      omega
  have a := up f hf
  have b := down (n - 1 - f) (by omega)
  rw [show n - 1 - (n - 1 - f) = f by omega] at b
  omega
theorem far_half_ring (H : Far n true x far) (hn : 2 < n) (ha : ∃ p, p < n ∧ heldB n true x p = true) (hf : f < n) : 2 * far f ≤ n - 1 := by
  obtain ⟨q, hq, h1, h2⟩ : ∃ q, q < n ∧ heldB n true x q = true ∧ heldB n true x (suc n q) = true := by
    obtain ⟨p, hp, h⟩ := ha
    rcases held_iff.mp h with h3 | ⟨g, hg, e⟩
    · unfold nearN at h3
      simp at h3
    · have hgn := near_lt hp hg
      have hh : heldB n true x g = true := held_iff.mpr (.inr ⟨p, near_sym hp hg, e.symm⟩)
      rcases (near_mem hp).mp hg with ⟨_, rfl | rfl⟩ | ⟨z, _⟩
      · refine ⟨_, hgn, hh, ?_⟩
        have : suc n (prd n p) = p := by unfold suc prd; split <;> split <;> omega
        rw [this]; exact h
      · exact ⟨p, hp, h, hh⟩
      · cases z
  have up : ∀ i, i < n → far ((q + 1 + i) % n) ≤ i := by
    intro i
    induction i with
    | zero =>
      intro _
      have e : (q + 1 + 0) % n = suc n q := by
        unfold suc
        split
        · rename_i z; rw [Nat.add_zero, z, Nat.mod_self]
        · rw [Nat.add_zero]; exact Nat.mod_eq_of_lt (by omega)
      rw [e, (H.zero _ (by unfold suc; split <;> omega)).mpr h2]
      exact Nat.le_refl _
    | succ i ih =>
      intro hi
      have hm : (q + 1 + i) % n < n := Nat.mod_lt _ (by omega)
      have e : (q + 1 + (i + 1)) % n = suc n ((q + 1 + i) % n) := by
        rw [show q + 1 + (i + 1) = (q + 1 + i) + 1 by omega, Nat.add_mod]
        unfold suc
        split
        · rename_i z; rw [Nat.mod_eq_of_lt (show 1 < n by omega), z, Nat.mod_self]
        · rw [Nat.mod_eq_of_lt (show 1 < n by omega)]; exact Nat.mod_eq_of_lt (by omega)
      have hs : suc n ((q + 1 + i) % n) < n := by unfold suc; split <;> omega
      have := H.lip (suc n ((q + 1 + i) % n)) ((q + 1 + i) % n) hs (near_sym hm ((near_mem hm).mpr (.inl ⟨rfl, .inr rfl⟩)))
      have := ih (by omega)
      rw [e]
      omega
  have down : ∀ i, i < n → far ((q + (n - i)) % n) ≤ i := by
    intro i
    induction i with
    | zero =>
      intro _
      rw [Nat.sub_zero, Nat.add_mod_right, Nat.mod_eq_of_lt hq, (H.zero q hq).mpr h1]
      exact Nat.le_refl _
    | succ i ih =>
      intro hi
      have hm : (q + (n - (i + 1))) % n < n := Nat.mod_lt _ (by omega)
      have e : (q + (n - i)) % n = suc n ((q + (n - (i + 1))) % n) := by
        rw [show q + (n - i) = (q + (n - (i + 1))) + 1 by omega, Nat.add_mod]
        unfold suc
        split
        · rename_i z; rw [Nat.mod_eq_of_lt (show 1 < n by omega), z, Nat.mod_self]
        · rw [Nat.mod_eq_of_lt (show 1 < n by omega)]; exact Nat.mod_eq_of_lt (by omega)
      have := H.lip _ _ hm ((near_mem hm).mpr (.inl ⟨rfl, .inr rfl⟩))
      have := ih (by omega)
      rw [e] at this
      omega
  obtain ⟨i, hi, e⟩ : ∃ i, i < n ∧ f = (q + 1 + i) % n := by
    by_cases h : q + 1 ≤ f
    · exact ⟨f - (q + 1), by omega, by rw [show q + 1 + (f - (q + 1)) = f by omega, Nat.mod_eq_of_lt hf]⟩
    · exact ⟨f + n - (q + 1), by omega, by rw [show q + 1 + (f + n - (q + 1)) = f + n by omega, Nat.add_mod_right, Nat.mod_eq_of_lt hf]⟩
  have a := up i hi
  have b := down (n - 1 - i) (by omega)
  rw [show q + (n - (n - 1 - i)) = q + 1 + i by omega, ← e] at b
  rw [← e] at a
  omega
theorem farTop_half (hn : 0 < n) (hr : ring = true → 2 < n) (ha : anyHeld n ring x = true) : 2 * farTop n ring x ≤ n - 1 := by
  have : farTop n ring x ∈ (List.range n).map (farP n ring x) := topN_mem (by simp; omega)
  obtain ⟨f, hf, e⟩ := List.mem_map.mp this
  have hf := List.mem_range.mp hf
  rw [← e]
  have H := far_of hn ha
  cases ring with
  | false => exact far_half_row H hf
  | true => exact far_half_ring H (hr rfl) (by simpa [anyHeld] using ha) hf
theorem latest_half {m : Nat} {x : Nat → Nat → Bool} (hn : 0 < n) (hr : ring = true → 2 < n) : 2 * latest n m ring x ≤ n - 1 := by
  by_cases h : ((List.range m).filter fun c => anyHeld n ring (col x c)).map (fun c => farTop n ring (col x c)) = []
  · unfold latest
    rw [h]
    exact Nat.zero_le _
  · obtain ⟨c, hc, e⟩ := List.mem_map.mp (topN_mem h)
    unfold latest
    rw [← e]
    exact farTop_half hn hr (List.mem_filter.mp hc).2
end
open PySem PySem.Spec PyProof.Rows L2 in
/-- texts are alike where the data are -/
theorem shown_py {d d' : D} (h : d.py = d'.py) : shownO d = shownO d' := by
  unfold shownO
  rw [h]
section
variable {n f g : Nat} {ring : Bool} {x : Cfg}
theorem near_two (hf : f < n) (hc : (ring || (decide (0 < (f : Int)) && decide ((f : Int) < (n : Nat) - 1))) = true) : nearN n ring f = [prd n f, suc n f] := by
  unfold nearN
  by_cases hr : ring = true
  · rw [if_pos hr]
  · rw [if_neg hr]
    have hr : ring = false := by simpa using hr
    rw [hr] at hc
    have hc : 0 < f ∧ (f : Int) < (n : Nat) - 1 := by simpa using hc
    unfold prd suc
    rw [if_pos hc.1, if_pos (show f + 1 < n by omega), if_neg (by omega), if_neg (by omega)]; rfl
theorem near_one (hf : f < n) (hc : ¬ (ring || (decide (0 < (f : Int)) && decide ((f : Int) < (n : Nat) - 1))) = true) : (nearN n ring f).length < 2 := by
  have hr : ring = false := by
    cases ring with
    | false => rfl
    | true => exact absurd rfl hc
  rw [hr] at hc
  have hc : 0 < f → ¬ (f : Int) < (n : Nat) - 1 := by simpa using hc
  unfold nearN
  rw [hr, if_neg (by decide)]
  by_cases c1 : 0 < f
  · have := hc c1
    rw [if_pos c1, if_neg (by omega)]; simp
  · rw [if_neg c1]
    split <;> simp
theorem held_two {h : Nat} (e : nearN n ring f = [g, h]) : heldB n ring x f = (x f == x g || x f == x h) := by
  unfold heldB
  rw [e]
  have e2 : [g, h].any (fun g => x g == x f) = (x g == x f || x h == x f) := by simp
  rw [e2, decide_eq_false (by simp)]
  generalize x f = a
  generalize x g = b
  generalize x h = c
  cases a <;> cases b <;> cases c <;> rfl
/-- how far apart two stand -/
def dst (n : Nat) (ring : Bool) (f g : Nat) : Nat := if ring = true then min (f - g + (g - f)) (n - (f - g + (g - f))) else f - g + (g - f)
theorem dst_near {h : Nat} (hf : f < n) (hg : g < n) (hh : h ∈ nearN n ring g) : dst n ring f h ≤ dst n ring f g + 1 := by
  have hn := near_lt hg hh
  rw [near_mem hg] at hh
  unfold prd suc at hh
  unfold dst
  rcases hh with ⟨rfl, h1 | h1⟩ | ⟨rfl, h1⟩
  · rw [if_pos rfl, if_pos rfl]
    split at h1 <;> omega
  · rw [if_pos rfl, if_pos rfl]
    split at h1 <;> omega
  · rw [if_neg (by decide), if_neg (by decide)]
    omega
theorem dst_step (hf : f < n) (hg : g < n) (h : f ≠ g) : ∃ f', f' ∈ nearN n ring f ∧ dst n ring f' g + 1 = dst n ring f g := by
  cases ring with
  | false =>
    rcases Nat.lt_or_gt_of_ne h with h | h
    · refine ⟨f + 1, (near_mem hf).mpr (.inr ⟨rfl, .inr ⟨by omega, rfl⟩⟩), ?_⟩
      unfold dst
      rw [if_neg (by decide), if_neg (by decide)]
      omega
    · refine ⟨f - 1, (near_mem hf).mpr (.inr ⟨rfl, .inl ⟨by omega, rfl⟩⟩), ?_⟩
      unfold dst
      rw [if_neg (by decide), if_neg (by decide)]
      omega
  | true =>
    have up : suc n f ∈ nearN n true f := (near_mem hf).mpr (.inl ⟨rfl, .inr rfl⟩)
    have dn : prd n f ∈ nearN n true f := (near_mem hf).mpr (.inl ⟨rfl, .inl rfl⟩)
    rcases Nat.lt_or_gt_of_ne h with h | h
    · by_cases hd : g - f ≤ n - (g - f)
      · refine ⟨_, up, ?_⟩
        unfold dst suc
        rw [if_pos rfl, if_pos rfl, if_neg (by omega)]
        omega
      · refine ⟨_, dn, ?_⟩
        unfold dst prd
        rw [if_pos rfl, if_pos rfl]
        split <;> omega
    · by_cases hd : f - g ≤ n - (f - g)
      · refine ⟨_, dn, ?_⟩
        unfold dst prd
        rw [if_pos rfl, if_pos rfl, if_neg (by omega)]
        omega
      · refine ⟨_, up, ?_⟩
        unfold dst suc
        rw [if_pos rfl, if_pos rfl]
        split <;> omega
theorem far_dst {far : Nat → Nat} (H : Far n ring x far) (hg : g < n) (h0 : heldB n ring x g = true) : ∀ (d f : Nat), f < n → dst n ring f g = d → far f ≤ d := by
  intro d
  induction d with
  | zero =>
    intro f hf hd
    by_cases e : f = g
    · subst e
      rw [(H.zero f hf).mpr h0]
      exact Nat.le_refl _
    · obtain ⟨f', _, h⟩ := dst_step (ring := ring) hf hg e
      omega
  | succ d ih =>
    intro f hf hd
    by_cases e : f = g
    · subst e
      rw [(H.zero f hf).mpr h0]
      omega
    · obtain ⟨f', h1, h2⟩ := dst_step (ring := ring) hf hg e
      have := ih f' (near_lt hf h1) (by omega)
      have := H.lip f f' hf h1
      omega
theorem far_wit {far : Nat → Nat} (H : Far n ring x far) : ∀ (k f : Nat), f < n → far f = k → ∃ g, g < n ∧ heldB n ring x g = true ∧ dst n ring f g ≤ k := by
  intro k
  induction k with
  | zero =>
    intro f hf hk
    refine ⟨f, hf, (H.zero f hf).mp hk, ?_⟩
    unfold dst
    split <;> omega
  | succ k ih =>
    intro f hf hk
    obtain ⟨f', h1, h2⟩ := H.wit f hf (by omega)
    obtain ⟨g, hg, h0, hd⟩ := ih f' (near_lt hf h1) (by omega)
    refine ⟨g, hg, h0, ?_⟩
    have hsym : ∀ a b, dst n ring a b = dst n ring b a := fun a b => by unfold dst; split <;> omega
    have := dst_near (ring := ring) hg (near_lt hf h1) (near_sym hf h1)
    rw [hsym g f, hsym g f'] at this
    omega
end
end TT

/-! Q8: one beat on -/
namespace TT
open PySem PySem.Spec PyProof.Rows L2
section
variable {n f : Nat} {ring : Bool} {x : Cfg}
theorem far_later {u : Nat} (hn : 0 < n) (ha : anyHeld n ring x = true) (hf : f < n) : farP n ring (itB n ring u x) f = farP n ring x f - u := by
  have ha2 : anyHeld n ring (itB n ring u x) = true := by rw [anyHeld_it hn]; exact ha
  have key : ∀ k, k < farP n ring (itB n ring u x) f ↔ u + k < farP n ring x f := fun k => by
    have e : ∀ k, itB n ring (u + k) x f = itB n ring k (itB n ring u x) f := fun k => by rw [Nat.add_comm, itB_add]
    have e1 := e k
    have e2 := e (k + 1)
    rw [it_far hn ha hf, it_far hn ha2 hf] at e1 e2
    by_cases h1 : k < farP n ring (itB n ring u x) f
    · refine ⟨fun _ => ?_, fun _ => h1⟩
      by_cases h2 : u + k < farP n ring x f
      · exact h2
      · exfalso
        rw [Nat.min_eq_right (by omega), Nat.min_eq_left (by omega)] at e1
        rw [Nat.min_eq_right (by omega), Nat.min_eq_left (by omega), odd_succ] at e2
        rw [e1] at e2
        revert e2
        generalize odd k = p
        generalize itB n ring u x f = s
        cases s <;> cases p <;> simp
    · refine ⟨fun z => absurd z h1, fun h2 => ?_⟩
      exfalso
      rw [Nat.min_eq_left (by omega), Nat.min_eq_right (by omega)] at e1
      rw [Nat.min_eq_left (by omega), Nat.min_eq_right (by omega), show u + (k + 1) = (u + k) + 1 by omega, odd_succ] at e2
      rw [← e1] at e2
      revert e2
      generalize odd (u + k) = p
      cases x f <;> cases p <;> simp
  have a := key (farP n ring (itB n ring u x) f)
  have b := key (farP n ring x f - u)
  by_cases hb : farP n ring (itB n ring u x) f = 0
  · rw [hb] at a b ⊢
    omega
  · have c := key (farP n ring (itB n ring u x) f - 1)
    omega
/-- who is held a beat on: the held, and who stands beside one of them -/
theorem held_next (hn : 0 < n) (hf : f < n) : heldB n ring (itB n ring 1 x) f = true ↔ heldB n ring x f = true ∨ ∃ g, g ∈ nearN n ring f ∧ heldB n ring x g = true := by
  cases ha : anyHeld n ring x with
  | false =>
    rw [free_it ha hf]
    constructor
    · intro h; cases h
    · rintro (h | ⟨g, hg, h⟩)
      · rw [none_held ha hf] at h; cases h
      · rw [none_held ha (near_lt hf hg)] at h; cases h
  | true =>
    have ha2 : anyHeld n ring (itB n ring 1 x) = true := by rw [anyHeld_it hn]; exact ha
    have H := far_of hn ha
    rw [← (far_of hn ha2).zero f hf, far_later hn ha hf, ← H.zero f hf]
    constructor
    · intro h
      by_cases h0 : farP n ring x f = 0
      · exact .inl h0
      · obtain ⟨g, hg, e⟩ := H.wit f hf (by omega)
        exact .inr ⟨g, hg, (H.zero g (near_lt hf hg)).mp (by omega)⟩
    · rintro (h | ⟨g, hg, h⟩)
      · omega
      · have := H.lip f g hf hg
        rw [(H.zero g (near_lt hf hg)).mpr h] at this
        omega
/-- the held stay as they are -/
theorem held_stays (hn : 0 < n) (hf : f < n) (h : heldB n ring x f = true) (k : Nat) : itB n ring k x f = x f := by
  have ha : anyHeld n ring x = true := by
    unfold anyHeld
    rw [List.any_eq_true]
    exact ⟨f, List.mem_range.mpr hf, h⟩
  rw [it_far hn ha hf, ((far_of hn ha).zero f hf).mpr h, Nat.min_zero]
  show (x f != false) = x f
  cases x f <;> rfl
end
end TT

/-! Q9: who walks how much, and comes how often -/
namespace TT
open PySem PySem.Spec PyProof.Rows L2
section
variable {n m f : Nat} {ring : Bool}
def flips (n : Nat) (ring : Bool) (x : Cfg) (f k : Nat) : Nat := if anyHeld n ring x = true then min k (farP n ring x f) else k
theorem it_flips {x : Cfg} {k : Nat} (hn : 0 < n) (hf : f < n) : itB n ring k x f = (x f != odd (flips n ring x f k)) := by
  unfold flips
  cases ha : anyHeld n ring x with
  | true => rw [if_pos rfl]; exact it_far hn ha hf
  | false => rw [if_neg (by decide)]; exact it_free ha hf
theorem far_after {x : Cfg} {u : Nat} (hn : 0 < n) (ha : anyHeld n ring x = true) (hf : f < n) : farP n ring (itB n ring u x) f = farP n ring x f - u := by
  have ha2 : anyHeld n ring (itB n ring u x) = true := by rw [anyHeld_it hn]; exact ha
  have key : ∀ k, k < farP n ring (itB n ring u x) f ↔ u + k < farP n ring x f := fun k => by
    have e : ∀ k, itB n ring (u + k) x f = itB n ring k (itB n ring u x) f := fun k => by rw [Nat.add_comm, itB_add]
    have e1 := e k
    have e2 := e (k + 1)
    rw [it_far hn ha hf, it_far hn ha2 hf] at e1 e2
    by_cases h1 : k < farP n ring (itB n ring u x) f
    · refine ⟨fun _ => ?_, fun _ => h1⟩
      by_cases h2 : u + k < farP n ring x f
      · exact h2
      · exfalso
        rw [Nat.min_eq_right (by omega), Nat.min_eq_left (by omega)] at e1
        rw [Nat.min_eq_right (by omega), Nat.min_eq_left (by omega), odd_succ] at e2
        rw [e1] at e2
        revert e2
        generalize odd k = p
        generalize itB n ring u x f = s
        cases s <;> cases p <;> simp
    · refine ⟨fun z => absurd z h1, fun h2 => ?_⟩
      exfalso
      rw [Nat.min_eq_left (by omega), Nat.min_eq_right (by omega)] at e1
      rw [Nat.min_eq_left (by omega), Nat.min_eq_right (by omega), show u + (k + 1) = (u + k) + 1 by omega, odd_succ] at e2
      rw [← e1] at e2
      revert e2
      generalize odd (u + k) = p
      cases x f <;> cases p <;> simp
  have a := key (farP n ring (itB n ring u x) f)
  have b := key (farP n ring x f - u)
  by_cases hb : farP n ring (itB n ring u x) f = 0
  · rw [hb] at a b ⊢
    omega
  · have c := key (farP n ring (itB n ring u x) f - 1)
    omega
theorem flips_add {x : Cfg} {u k : Nat} (hn : 0 < n) (hf : f < n) : flips n ring x f (u + k) = flips n ring x f u + flips n ring (itB n ring u x) f k := by
  unfold flips
  rw [anyHeld_it hn]
  cases ha : anyHeld n ring x with
  | true =>
    rw [if_pos rfl, if_pos rfl, if_pos rfl, far_after hn ha hf]
    omega
  | false => rfl
variable {x : Nat → Nat → Bool}
theorem walked_eq {k : Nat} (hn0 : 0 < n) (hn : n ≤ 1000) (hm : m ≤ 1000) (hf : f < n) : m_walked (rowsI n m x) (f : Nat) (k : Nat) ring = some (((List.range m).map fun c => flips n ring (col x c) f k).sum : Nat) := by
  unfold m_walked
  rw [all_distances_eq hn0 hn hm, bsome]
  have : ∀ l : List Nat, mapP (fun (far : (Option (List Int))) => (optE far (some (k : Int)) (fun far1 => (atI far1 (f : Nat)).bind fun x => some (min (k : Int) x))).bind fun t => some t) (l.map fun c => farO n ring (col x c)) = some (l.map fun c => (flips n ring (col x c) f k : Int)) := by
    intro l
    induction l with
    | nil => rfl
    | cons c l ih =>
      rw [List.map_cons, mapP, ih]
      have e : optE (farO n ring (col x c)) (some (k : Int)) (fun far1 => (atI far1 (f : Nat)).bind fun x => some (min (k : Int) x)) = some (flips n ring (col x c) f k : Int) := by
        unfold farO flips
        cases ha : anyHeld n ring (col x c) with
        | true =>
          rw [if_pos rfl, if_pos rfl, optE_some, farI_at hf, bsome]
          exact congrArg some (by omega)
        | false => rfl
      rw [e, bsome, bsome, bsome]; rfl
  unfold cmapP
  rw [if_pos (size_le (by simp; omega)), this, bsome]
  congr 1
  generalize List.range m = l
  induction l with
  | nil => rfl
  | cons c l ih => rw [List.map_cons, List.map_cons, List.sum_cons, List.sum_cons, ih]; omega
theorem sum_add {α : Type} (f g : α → Nat) : ∀ l : List α, (l.map fun a => f a + g a).sum = (l.map f).sum + (l.map g).sum
  | [] => rfl
  | a :: l => by
    rw [List.map_cons, List.map_cons, List.map_cons, List.sum_cons, List.sum_cons, List.sum_cons, sum_add f g l]
    omega
/-! comings -/
def cnt (P : Nat → Bool) : Nat → Nat
  | 0 => 0
  | n + 1 => cnt P n + (P n).toNat
theorem cnt_add (P : Nat → Bool) (u : Nat) : ∀ k, cnt P (u + k) = cnt P u + cnt (fun j => P (u + j)) k
  | 0 => rfl
  | k + 1 => by
    show cnt P (u + k) + (P (u + k)).toNat = cnt P u + (cnt (fun j => P (u + j)) k + (P (u + k)).toNat)
    rw [cnt_add P u k]
    omega
theorem cnt_congr {P R : Nat → Bool} : ∀ {k : Nat}, (∀ j, j < k → P j = R j) → cnt P k = cnt R k
  | 0, _ => rfl
  | k + 1, h => by
    show cnt P k + _ = cnt R k + _
    rw [cnt_congr fun j hj => h j (by omega), h k (by omega)]
theorem per_two {P : Nat → Bool} (h : ∀ j, P (j + 2) = P j) : ∀ r, cnt P r = (r / 2) * ((P 0).toNat + (P 1).toNat) + (r % 2) * (P 0).toNat
  | 0 => by simp [cnt]
  | 1 => by simp [cnt]
  | r + 2 => by
    have e : ∀ r, (P r).toNat = if r % 2 = 0 then (P 0).toNat else (P 1).toNat := by
      intro r
      induction r using Nat.strongRecOn with
      | _ r ih =>
        match r with
        | 0 => rfl
        | 1 => rfl
        | r + 2 =>
          rw [h, ih r (by omega)]
          have : (r + 2) % 2 = r % 2 := by omega
          rw [this]
    show (cnt P r + (P r).toNat) + (P (r + 1)).toNat = _
    rw [per_two h r, e r, e (r + 1)]
    have e1 : (r + 2) / 2 = r / 2 + 1 := by omega
    have e2 : (r + 2) % 2 = r % 2 := by omega
    rw [e1, e2, Nat.add_mul]
    rcases Nat.mod_two_eq_zero_or_one r with h | h
    · rw [if_pos h, if_neg (by omega), h]; omega
    · rw [if_neg (by omega), if_pos (by omega), h]; omega
theorem cnt_period {P : Nat → Bool} {l r : Nat} (h : ∀ j, l ≤ j → P (j + 2) = P j) : cnt P (l + r) = cnt P l + (r / 2) * ((P l).toNat + (P (l + 1)).toNat) + (r % 2) * (P l).toNat := by
  rw [cnt_add, per_two (P := fun j => P (l + j)) (fun j => h (l + j) (by omega)) r, Nat.add_assoc]; rfl
abbrev Sd := List (Nat × Bool)
def sdI (S : Sd) : List Int := S.map fun s => sg s.1 s.2
def onB (n : Nat) (ring : Bool) (x : Nat → Nat → Bool) (f : Nat) (S : Sd) (k : Nat) : Bool := S.all fun s => itB n ring k (col x s.1) f == s.2
def come (n : Nat) (ring : Bool) (x : Nat → Nat → Bool) (f : Nat) (S : Sd) (j : Nat) : Bool := onB n ring x f S (j + 1) && !onB n ring x f S j
theorem is_on_eq {y : Nat → Bool} {S : Sd} (hS : ∀ s ∈ S, s.1 < m) (hl : S.length ≤ 1000) : m_is_on (rowI m y) (sdI S) = some (S.all fun s => y s.1 == s.2) := by
  unfold m_is_on
  have : ∀ l : Sd, (∀ s ∈ l, s.1 < m) → mapP (fun (side : Int) => (atI (rowI m y) ((absI side) - 1)).bind fun x => some (decide (x = side))) (l.map fun s => sg s.1 s.2) = some (l.map fun s => y s.1 == s.2) := by
    intro l
    induction l with
    | nil => intro _; rfl
    | cons s l ih =>
      intro h
      have e : absI (sg s.1 s.2) - 1 = ((s.1 : Nat) : Int) := by
        have e : absI (sg s.1 s.2) = ((s.1 : Nat) : Int) + 1 := sg_abs s.1 s.2
        rw [e]; omega
      rw [List.map_cons, mapP, e, rowI_at (h s List.mem_cons_self), bsome, bsome, ih fun s hs => h s (List.mem_cons_of_mem _ hs), bsome, sg_eq]; rfl
  unfold cmapP sdI
  rw [if_pos (size_le (by simp; omega)), this S hS, bsome, List.all_map]
  rfl
theorem on_per {S : Sd} (hn : 0 < n) (hf : f < n) (hS : ∀ s ∈ S, s.1 < m) {j : Nat} (hj : latest n m ring x ≤ j) : onB n ring x f S (j + 2) = onB n ring x f S j := by
  have e : ∀ c, c < m → itB n ring (j + 2) (col x c) f = itB n ring j (col x c) f := fun c hc => by
    cases ha : anyHeld n ring (col x c) with
    | true =>
      have h1 := farTop_le (m := m) hc ha
      have h2 := far_le (ring := ring) (x := col x c) hf
      rw [it_far hn ha hf, it_far hn ha hf, Nat.min_eq_right (by omega), Nat.min_eq_right (by omega)]
    | false =>
      rw [it_free ha hf, it_free ha hf, show odd (j + 2) = odd j by unfold odd; rw [show (j + 2) % 2 = j % 2 by omega]]
  unfold onB
  rw [Bool.eq_iff_iff, List.all_eq_true, List.all_eq_true]
  exact forall_congr' fun s => ⟨fun h hs => by rw [← e s.1 (hS s hs)]; exact h hs, fun h hs => by rw [e s.1 (hS s hs)]; exact h hs⟩
theorem on_shift {S : Sd} {u k : Nat} : onB n ring (beatsX n ring u x) f S k = onB n ring x f S (u + k) := by
  unfold onB
  have e : ∀ c, itB n ring k (col (beatsX n ring u x) c) f = itB n ring (u + k) (col x c) f := fun c => by
    rw [col_it, Nat.add_comm u k, itB_add]
  rw [Bool.eq_iff_iff, List.all_eq_true, List.all_eq_true]
  exact forall_congr' fun s => by rw [e s.1]
theorem b2i_nat (b : Bool) : TT.b2i b = (b.toNat : Int) := by cases b <;> rfl
theorem flt_cnt (P : Nat → Bool) : ∀ k, (((List.range k).map P).filter fun one => one).length = cnt P k
  | 0 => rfl
  | k + 1 => by
    rw [List.range_succ, List.map_append, List.filter_append, List.length_append, flt_cnt P k]
    show _ = cnt P k + (P k).toNat
    cases h : P k <;> simp [h]
theorem comings_eq {S : Sd} {k : Nat} (hn0 : 0 < n) (hn : n ≤ 1000) (hm : m ≤ 1000) (hf : f < n) (hS : ∀ s ∈ S, s.1 < m) (hSl : S.length ≤ 1000) (hla : latest n m ring x ≤ 1000) : m_comings (rowsI n m x) (f : Nat) (sdI S) (k : Nat) ring = some (cnt (come n ring x f S) k : Int) := by
  unfold m_comings
  rw [all_distances_eq hn0 hn hm, bsome, latest_of_eq hn0 hm, bsome]
  generalize hl : latest n m ring x + 2 = l
  have el : ((latest n m ring x : Nat) : Int) + 2 = (l : Int) := by omega
  rw [el, rng1_nat (n := l + 3) (by omega) (by omega), bsome]
  rw [natI_mapP (g := onB n ring x f S) (by simp; omega) fun b hb => ?_]
  rotate_left
  · rw [spot_eq hf hm, bsome, is_on_eq hS hSl, bsome]; rfl
  rw [bsome, rng2_nat (n := l + 3) rfl (by omega) (by omega), bsome]
  have hat : ∀ j, j < l + 3 → atI ((List.range (l + 3)).map (onB n ring x f S)) (j : Nat) = some (onB n ring x f S j) := fun j hj => at_nat (by simp [hj])
  have e5 : List.range' 1 (l + 3 - 1) = (List.range (l + 2)).map fun j => j + 1 := by
    rw [List.range'_eq_map_range]
    exact List.map_congr_left fun j _ => Nat.add_comm 1 j
  rw [natI_mapP (g := fun b => come n ring x f S (b - 1)) (by simp; omega) fun b hb => ?_]
  rotate_left
  · rw [e5] at hb
    obtain ⟨j, hj, rfl⟩ := List.mem_map.mp hb
    have hj := List.mem_range.mp hj
    rw [hat (j + 1) (by omega), bsome, show ((j + 1 : Nat) : Int) - 1 = (j : Nat) by omega, hat j (by omega), bsome]
    show (if onB n ring x f S (j + 1) = true then some (!onB n ring x f S j) else some false).bind _ = some (come n ring x f S j)
    unfold come
    cases onB n ring x f S (j + 1) <;> rfl
  have e6 : (List.range' 1 (l + 3 - 1)).map (fun b => come n ring x f S (b - 1)) = (List.range (l + 2)).map (come n ring x f S) := by
    rw [e5, List.map_map]; rfl
  rw [bsome, e6]
  have emin : min (k : Int) (l : Int) = ((min k l : Nat) : Int) := by omega
  have hcut : cutL ((List.range (l + 2)).map (come n ring x f S)) none (some (min (k : Int) (l : Int))) = (List.range (min k l)).map (come n ring x f S) := by
    rw [emin, cut_to, ← List.map_take, List.take_range]
    congr 2
    omega
  rw [hcut]
  have hc : cfltT (fun (one : Bool) => one) (fun (one : Bool) => one) ((List.range (min k l)).map (come n ring x f S)) = some ((((List.range (min k l)).map (come n ring x f S)).filter fun one => one).map fun one => one) := by
    unfold cfltT
    rw [if_pos (size_le (by simp; omega))]
  rw [hc, bsome, show (l : Int) + 1 = ((l + 1 : Nat) : Int) by omega]
  have h1 : atI ((List.range (l + 2)).map (come n ring x f S)) (l : Nat) = some (come n ring x f S l) := at_nat (by simp)
  have h2 : atI ((List.range (l + 2)).map (come n ring x f S)) ((l + 1 : Nat) : Int) = some (come n ring x f S (l + 1)) := at_nat (by simp)
  rw [h1, bsome, h2, bsome]
  have hb2 : ∀ b : Bool, 0 ≤ TT.b2i b ∧ TT.b2i b ≤ 1 := fun b => by cases b <;> decide
  have g1 := hb2 (come n ring x f S l)
  have g2 := hb2 (come n ring x f S (l + 1))
  rw [guard_pos (.inr (by omega)), bsome, bsome, guard_pos (.inr (by omega)), bsome]
  congr 1
  rw [List.length_map, flt_cnt, emin, show (k : Int) - ((min k l : Nat) : Int) = ((k - l : Nat) : Int) by omega, bitAnd_m1, b2i_nat, b2i_nat]
  have hper : ∀ j, l ≤ j → come n ring x f S (j + 2) = come n ring x f S j := fun j hj => by
    unfold come
    have a1 := on_per hn0 hf hS (show latest n m ring x ≤ j by omega)
    have a2 := on_per hn0 hf hS (show latest n m ring x ≤ j + 1 by omega)
    rw [a1, show j + 2 + 1 = (j + 1) + 2 by omega, a2]
  by_cases hk : k ≤ l
  · rw [Nat.min_eq_left hk, Nat.sub_eq_zero_of_le hk]
    simp
  · have e := cnt_period (l := l) (r := k - l) hper
    rw [show l + (k - l) = k by omega] at e
    rw [Nat.min_eq_right (by omega), e]
    simp only [Int.natCast_add, Int.natCast_mul, Int.natCast_ediv, Int.natCast_emod]
    rfl
end
end TT

namespace K14
open PySem PySem.Spec PyProof.Rows L2 TT
section
variable {m : Nat} {y z w : Nat → Bool}
def ap (m : Nat) (y z : Nat → Bool) : Nat := ((List.range m).filter fun c => !(y c == z c)).length
theorem ap_comm : ap m y z = ap m z y := by
  unfold ap
  congr 2
  funext c
  cases y c <;> cases z c <;> rfl
theorem ap_add {P Q R : Nat → Bool} (h : ∀ c, (P c).toNat + (Q c).toNat = (R c).toNat) : ∀ l : List Nat, (l.filter P).length + (l.filter Q).length = (l.filter R).length
  | [] => rfl
  | c :: l => by
    have ih := ap_add h l
    have := h c
    rw [List.filter_cons, List.filter_cons, List.filter_cons]
    revert this
    cases P c <;> cases Q c <;> cases R c <;> simp <;> omega
theorem ap_le : ap m y z ≤ m := Nat.le_trans (List.length_filter_le _ _) (by simp)
theorem apart_eq (hm : m ≤ 1000) : m_apart (rowI m y) (rowI m z) = some (ap m y z : Int) := by
  unfold m_apart
  have e : List.zip (rowI m y) (rowI m z) = (List.range m).map fun c => (sg c (y c), sg c (z c)) := by
    unfold rowI
    generalize List.range m = l
    induction l with
    | nil => rfl
    | cons c l ih => rw [List.map_cons, List.map_cons, List.map_cons, List.zip_cons_cons, ih]
  rw [e]
  unfold cfltT
  rw [if_pos (size_le (by simp; omega)), bsome, List.length_map, List.filter_map, List.length_map]
  unfold ap
  refine congrArg (fun l : List Nat => some (l.length : Int)) (List.filter_congr fun c _ => ?_)
  show (!decide (sg c (y c) = sg c (z c))) = _
  rw [sg_eq]
theorem between_eq (hm : m ≤ 1000) : m_is_between (rowI m y) (rowI m w) (rowI m z) = some (decide (ap m y w + ap m w z = ap m y z)) := by
  unfold m_is_between
  rw [apart_eq hm, bsome, apart_eq hm, bsome, apart_eq hm, bsome]
  exact congrArg some (decide_eq_decide.mpr (by omega))
theorem maj_comm (a b d : Bool) : majB d a b = majB a b d ∧ majB b a d = majB a b d := by cases a <;> cases b <;> cases d <;> decide
theorem maj_between {v : Nat → Bool} (h : ∀ c, v c = y c ∨ v c = z c) : ap m y v + ap m v z = ap m y z := by
  refine ap_add (fun c => ?_) _
  rcases h c with e | e <;> rw [e] <;> cases y c <;> cases z c <;> rfl
theorem mid (c : Nat) (a b d : Bool) : (sortI [sg c a, sg c b, sg c d])[1]? = some (sg c (majB a b d)) := by
  have key : ∀ l : List Int, l.Perm [sg c a, sg c b, sg c d] → l.Pairwise (· ≤ ·) → l[1]? = some (sg c (majB a b d)) → (sortI [sg c a, sg c b, sg c d])[1]? = some (sg c (majB a b d)) := fun l h1 h2 h3 => by rw [← sortI_of h1 h2]; exact h3
  have lo : sg c false ≤ sg c true := by
    show -((c : Int) + 1) ≤ (c : Int) + 1
    omega
  have r : ∀ b, sg c b ≤ sg c b := fun b => Int.le_refl _
  cases a <;> cases b <;> cases d
  · exact key [sg c false, sg c false, sg c false] (.refl _) (by simp) rfl
  · exact key [sg c false, sg c false, sg c true] (.refl _) (by simp [lo]) rfl
  · exact key [sg c false, sg c false, sg c true] (.cons _ (.swap _ _ _)) (by simp [lo]) rfl
  · exact key [sg c false, sg c true, sg c true] (.refl _) (by simp [lo]) rfl
  · exact key [sg c false, sg c false, sg c true] ((List.Perm.cons _ (.swap _ _ _)).trans (.swap _ _ _)) (by simp [lo]) rfl
  · exact key [sg c false, sg c true, sg c true] (.swap _ _ _) (by simp [lo]) rfl
  · exact key [sg c false, sg c true, sg c true] ((List.Perm.swap _ _ _).trans (.cons _ (.swap _ _ _))) (by simp [lo]) rfl
  · exact key [sg c true, sg c true, sg c true] (.refl _) (by simp) rfl
theorem sh_row {o : Unit} (hm : m ≤ 100) : shownO ((eT D.int) (rowI m y)) = some ((eT D.int) (rowI m y)).py.shown := by
  refine (sbT 100 (sbI 4)).shown ⟨by rw [rowI_length]; exact hm, fun i hi => ?_⟩
  unfold rowI at hi
  obtain ⟨c, hc, rfl⟩ := List.mem_map.mp hi
  have hc := List.mem_range.mp hc
  unfold sg
  split <;> omega
theorem unlike_eq (hm : m ≤ 1000) : ((rng1 ((rowI m y).length : Int)).bind fun r10 => (cfmP (fun (k1 : Int) => (atI (rowI m y) k1).bind fun x1 => (atI (rowI m z) k1).bind fun x2 => if (!decide (x1 = x2)) = true then some (some k1) else some none) r10).bind fun ys1 => some (ys1.length : Int)) = some (ap m y z : Int) := by
  rw [rowI_length, rng1_nat rfl (by omega), bsome]
  unfold natI
  rw [cfmP_map (fun c => !(y c == z c)) (fun c : Nat => (c : Int)) (by simp; omega) fun c hc => ?_]
  · rw [bsome, List.length_map]; rfl
  · have hc := List.mem_range.mp hc
    rw [rowI_at hc, bsome, rowI_at hc, bsome, sg_eq]
    split <;> rfl
end
theorem law_true (ns : List Int) : Wp (m_law ns) (fun b => b = true) := by
  unfold m_law
  refine begun_wp fun t0 ht0 => ?_
  refine wp_rng1 (n := 3) rfl (by omega) ?_
  refine wp_loopJ (fun L t => TpOk (200000 * (3 - L.length)) t) (ht0.mono (by simp [natI])) (fun turn L t ht => ?_) fun t _ => wp_some rfl
  have hL : 0 ≤ (L.length : Int) := by omega
  simp only [List.length_cons] at ht
  have hb : (200000 * (3 - ((L.length + 1 : Nat) : Int))) ≤ 400000 := by omega
  generalize hB : 200000 * (3 - ((L.length + 1 : Nat) : Int)) = b at ht hb
  refine draw_wp ht (by omega) (by omega) (by omega) fun r1 t1 a0 a1 ht1 => ?_
  refine draw_wp ht1 (by omega) (by omega) (by omega) fun r2 t2 b0 b1 ht2 => ?_
  refine pick_wp ht2 (by omega) (by simp) (by simp) fun m t3 hmm ht3 => ?_
  have hm0 : 0 ≤ m ∧ m ≤ 60 := by
    simp only [List.mem_cons, List.not_mem_nil, or_false] at hmm
    rcases hmm with rfl | rfl | rfl
    · omega
    · omega
    · split <;> omega
  obtain ⟨m, rfl⟩ := Int.eq_ofNat_of_zero_le hm0.1
  have hm : m ≤ 1000 := by omega
  refine book_wp ht3 (by omega) (by omega) fun bk t4 B ht4 => ?_
  refine wp_rng1 (n := 3) rfl (by omega) ?_
  refine wp_cmapS (by simp) (fun L as s => ∃ ps : List (Nat → Bool), as = ps.map (rowI m) ∧ L.length + ps.length = 3 ∧ TpOk (b + 40000 + 200 * ps.length) s) ⟨[], rfl, rfl, ht4.mono (by simp; omega)⟩ (fun a L as s ⟨ps, e1, e2, e3⟩ => ?_) fun as t5 ⟨ps, e1, e2, ht5⟩ => ?_
  · simp only [List.length_cons] at e2
    refine spot_wp e3 (by omega) (by omega) B fun y t6 ht6 => wp_some ⟨ps ++ [y], by rw [e1]; simp, by simp; omega, ht6.mono (by simp; omega)⟩
  obtain ⟨y1, y2, y3, rfl⟩ : ∃ y1 y2 y3, ps = [y1, y2, y3] := by
    match ps, e2 with
    | [y1, y2, y3], _ => exact ⟨y1, y2, y3, rfl⟩
  subst e1
  clear e2
  have ht5 : TpOk (b + 40600) t5 := ht5.mono (by simp only [List.length_cons, List.length_nil]; omega)
  refine wp_step (a := rowI m y3) rfl ?_
  refine wp_step (a := [rowI m y3, rowI m y3, rowI m y3]) (repQ (n := 3) rfl (by omega) (by simp)) ?_
  refine wp_cat (by simp) (pick_wp ht5 (by omega) (by simp) (by simp) fun row t6 hrow ht6 => ?_)
  obtain ⟨y4, rfl⟩ : ∃ y, row = rowI m y := by
    simp at hrow
    rcases hrow with rfl | rfl | rfl
    · exact ⟨_, rfl⟩
    · exact ⟨_, rfl⟩
    · exact ⟨_, rfl⟩
  refine wp_step (a := [rowI m y1, rowI m y2, rowI m y4]) rfl ?_
  refine wp_step (a := (rowI m y1, rowI m y2, rowI m y4)) rfl ?_
  refine wp_step (a := [(ap m y1 y2 : Int), (ap m y2 y4 : Int), (ap m y1 y4 : Int)]) ?_ ?_
  · unfold cmapP
    rw [if_pos (size_le (by simp))]
    simp only [mapP]
    rw [unlike_eq hm, unlike_eq hm, unlike_eq hm]; rfl
  refine wp_step (apart_eq hm) (wp_step (apart_eq hm) (wp_step (apart_eq hm) ?_))
  refine wp_bind ((?_ : Wp _ fun t => t = false).mono fun t e => ?_)
  · rw [if_neg (by simp [ap_comm (y := y4)])]
    exact wp_step (apart_eq hm) (wp_some rfl)
  subst e
  rw [if_neg (by decide)]
  have shB : ∀ v : Bool, shownO (D.bl v) = some (D.bl v).py.shown := fun v => sbB.shown trivial
  refine wp_step (between_eq hm) (wp_step (shB _) ?_)
  refine wp_step (a := (ap m y1 y2 : Int)) rfl (wp_step (a := (ap m y2 y4 : Int)) rfl (wp_step (a := (ap m y1 y4 : Int)) rfl (wp_step (shB _) ?_)))
  have ed : decide (ap m y1 y2 + ap m y2 y4 = ap m y1 y4) = decide ((ap m y1 y2 : Int) + (ap m y2 y4 : Int) = (ap m y1 y4 : Int)) := decide_eq_decide.mpr (by omega)
  rw [ed, if_neg (by simp)]
  refine wp_rng1 (n := m) (by rw [rowI_length]) (by omega) ?_
  refine wp_step (a := rowI m fun c => majB (y1 c) (y2 c) (y4 c)) ?_ ?_
  · refine natI_mapP (by simp; omega) fun c hc => ?_
    have hc := List.mem_range.mp hc
    rw [rowI_at hc, bsome, rowI_at hc, bsome, rowI_at hc, bsome]
    exact wp_eq (wp_step (at_nat (j := 1) (mid c _ _ _)) (wp_some rfl))
  refine wp_step (meet_eq hm) (wp_step (sh_row (o := ()) (by omega)) (wp_step (sh_row (o := ()) (by omega)) ?_))
  refine wp_bind ((?_ : Wp _ fun t => t = false).mono fun t e => ?_)
  · rw [if_neg (by simp)]
    refine wp_step (meet_eq hm) ?_
    have e1 : (fun c => majB (y4 c) (y1 c) (y2 c)) = fun c => majB (y1 c) (y2 c) (y4 c) := by
      funext c
      exact (maj_comm _ _ _).1
    have e2 : (fun c => majB (y2 c) (y1 c) (y4 c)) = fun c => majB (y1 c) (y2 c) (y4 c) := by
      funext c
      exact (maj_comm _ _ _).2
    rw [e1]
    refine wp_bind ?_
    rw [if_neg (by simp)]
    refine wp_step (meet_eq hm) (wp_some (wp_some ?_))
    rw [e2]
    simp
  subst e
  rw [if_neg (by decide)]
  have b1 : ∀ y z : Nat → Bool, (∀ c, majB (y1 c) (y2 c) (y4 c) = y c ∨ majB (y1 c) (y2 c) (y4 c) = z c) → m_is_between (rowI m y) (rowI m fun c => majB (y1 c) (y2 c) (y4 c)) (rowI m z) = some true := fun y z h => by
    rw [between_eq hm, maj_between h]
    simp
  have mm : ∀ a b d : Bool, (majB a b d = a ∨ majB a b d = b) ∧ (majB a b d = b ∨ majB a b d = d) ∧ (majB a b d = d ∨ majB a b d = a) := by
    intro a b d
    cases a <;> cases b <;> cases d <;> decide
  refine wp_step (b1 y1 y2 fun c => (mm _ _ _).1) ?_
  refine wp_bind ((?_ : Wp _ fun t => t = false).mono fun t e => ?_)
  · rw [if_neg (by decide)]
    refine wp_step (b1 y2 y4 fun c => (mm _ _ _).2.1) (wp_bind ?_)
    rw [if_neg (by decide)]
    exact wp_step (b1 y4 y1 fun c => (mm _ _ _).2.2) (wp_some (wp_some rfl))
  subst e
  rw [if_neg (by decide)]
  exact wp_some (ht6.mono (by omega))
end K14

/-! meetrow_k14_between_and_meet: readings; printed by gen.py -/
namespace K14
open PySem PySem.Spec PyProof.Rows L2 TT
/-! apart(one, other) -/
abbrev N_apart : List Str := ["one", "other", "side", "another"]
abbrev P_apart : List Str := ["one", "other"]
def tb_apart : TXS := (sRet (oCall gLen (aCons (oEq (oComp (iEq (iZ2 (aCons (vImm 0) (aCons (vImm 1) aNil)))) (gTp 2 (gsCons (gNm 2) (gsCons (gNm 3) gsNil))) (tBl (oOp rNeI (vImm 2) (vImm 3))) (vImm 2) [2, 3])) aNil)))
abbrev VC_apart : Prop := VC [] N_apart P_apart sp_apart tb_apart
/-! is_between(one, middle, other) -/
abbrev N_is_between : List Str := ["one", "middle", "other"]
abbrev P_is_between : List Str := ["one", "middle", "other"]
def tb_is_between : TXS := (sRet (oEq (oOp rEqI (oOp rAddI (oFn sp_apart 2 false (cVal (vImm 0) (cVal (vImm 1) cNil))) (oFn sp_apart 2 false (cVal (vImm 1) (cVal (vImm 2) cNil)))) (oFn sp_apart 2 false (cVal (vImm 0) (cVal (vImm 2) cNil))))))
abbrev VC_is_between : Prop := VC [] N_is_between P_is_between sp_is_between tb_is_between
/-! meet(one, two, three) -/
abbrev N_meet : List Str := ["one", "two", "three", "a", "b", "c"]
abbrev P_meet : List Str := ["one", "two", "three"]
def tb_meet : TXS := (sRet (oEq (oCall gTuple (aCons (oEq (oComp (iEq (iZ3 (aCons (vImm 0) (aCons (vImm 1) (aCons (vImm 2) aNil))))) (gTp 3 (gsCons (gNm 3) (gsCons (gNm 4) (gsCons (gNm 5) gsNil)))) tYesT (oIf2 (tBl (oOp (rInT false) (vImm 3) (oEq (oTup (aCons (vImm 4) (aCons (vImm 5) aNil)))))) (vImm 3) (vImm 4)) [3, 4, 5])) aNil))))
abbrev VC_meet : Prop := VC [] N_meet P_meet sp_meet tb_meet
/-! _law_begun(_law_script) -/
abbrev N__law_begun : List Str := ["_law_script"]
abbrev P__law_begun : List Str := ["_law_script"]
def tb__law_begun : TXS := (sRet (oEq (oDisp (dCons (cD (.str "cells")) (oOrT2 (oEq (oSl (vImm 0) pNone (pSome (cD (.int 63))))) (oEq (oLst (aCons (cD (.int 0)) aNil)))) (dCons (cD (.str "spot")) (cD (.int 0)) (dCons (cD (.str "left")) (cD (.int 0)) dNil))))))
abbrev VC__law_begun : Prop := VC [] N__law_begun P__law_begun sp__law_begun tb__law_begun
/-! _law_draw(_law_tape, _law_many) -/
abbrev N__law_draw : List Str := ["_law_tape", "_law_many", "_law_spot_here", "_law_most", "_law_cell", "_law_found"]
abbrev P__law_draw : List Str := ["_law_tape", "_law_many"]
def tb__law_draw : TXS := (sSeq (sIf (tBl (oOp rLtI (oImm (oDGet (vView 0) (cD (.str "left")))) (vImm 1))) (sSeq (sPar 2 3 (aCons (oImm (oDGet (vView 0) (cD (.str "spot")))) (aCons (oCall gLen (aCons (oDGet (vView 0) (cD (.str "cells"))) aNil)) aNil)))
    (sSeq (sAsgT (oEq (oTup (aCons (oImm (oIx (oDGet (vView 0) (cD (.str "cells"))) (oOp rModI (oCall gInt (aCons (vImm 2) aNil)) (vImm 3)))) (aCons (oOp rAddI (vImm 2) (cD (.int 1))) aNil)))) (gTpl 2 (gsCons (gNm 4) (gsCons (gPutD 0 (cD (.str "spot"))) gsNil))))
    (sSeq (sPutD 0 (oOp rModI (oCall gInt (aCons (oEq (oOp rPowI (oOp rAddI (oOp rAddI (oOp rModI (oCall gInt (aCons (vImm 4) aNil)) (cD (.int 2147483647))) (oOp rMulI (cD (.int 69621)) (vImm 2))) (cD (.int 48271))) (cD (.int 17)))) aNil)) (oOp rAddI (oEq (oOp rPowI (cD (.int 10)) (cD (.int 50)))) (cD (.int 151)))) (cD (.str "left")))
    (sIf (tAnd2 (tBl (oOp rGeI (vImm 4) (oEq (oOp rPowI (cD (.int 10)) (cD (.int 18)))))) (tBl (oOp rLtI (vImm 2) (vImm 3)))) (sPutD 0 (oOp rSubI (vImm 4) (oEq (oOp rPowI (cD (.int 10)) (cD (.int 18))))) (cD (.str "left"))) sNext)))) sNext)
    (sSeq (sAsgT (oEq (oTup (aCons (oOp rModI (oCall gInt (aCons (oImm (oDGet (vView 0) (cD (.str "left")))) aNil)) (vImm 1)) (aCons (oOp rFdivW (oImm (oDGet (vView 0) (cD (.str "left")))) (vImm 1)) aNil)))) (gTpl 2 (gsCons (gNm 5) (gsCons (gPutD 0 (cD (.str "left"))) gsNil))))
    (sRet (vImm 5))))
abbrev VC__law_draw : Prop := VC [0] N__law_draw P__law_draw sp__law_draw tb__law_draw
/-! _law_pick(_law_tape, _law_some) -/
abbrev N__law_pick : List Str := ["_law_tape", "_law_some"]
abbrev P__law_pick : List Str := ["_law_tape", "_law_some"]
def tb__law_pick : TXS := (sRet (oIx (vImm 1) (oFn sp__law_draw 2 false (cIo 0 (cVal (oCall gLen (aCons (vImm 1) aNil)) cNil)))))
abbrev VC__law_pick : Prop := VC [0] N__law_pick P__law_pick sp__law_pick tb__law_pick
/-! _law_done(_law_tape, _law_causes, _law_clashes) -/
abbrev N__law_done : List Str := ["_law_tape", "_law_causes", "_law_clashes", "_law_done_here", "_law_share", "_law_deed", "_law_is_let", "_law_one"]
abbrev P__law_done : List Str := ["_law_tape", "_law_causes", "_law_clashes"]
def tb__law_done : TXS := (sSeq (sAsgT (oEq (oTup (aCons (oEq (oLst aNil)) (aCons (oFn sp__law_pick 2 false (cIo 0 (cVal (oEq (oLst (aCons (cD (.int 1)) (aCons (cD (.int 2)) (aCons (cD (.int 3)) aNil))))) cNil))) aNil)))) (gTpl 2 (gsCons (gNm 3) (gsCons (gNm 4) gsNil))))
    (sSeq (sFor (iEq (iR1 (aCons (oCall gLen (aCons (vImm 1) aNil)) aNil))) (gNm 5) (sSeq (sSet 6 (oEq (oOp (rEqT false) (oEq (oComp (iEq (iL (oIx (vImm 1) (vImm 5)))) (gNm 7) (tBl (oOp (rInT true) (vImm 7) (vView 3))) (vImm 7) [7])) (oEq (oLst aNil)))))
    (sSeq (sSet 6 (oAnd2 (vImm 6) (oEq (oOp (rEqT false) (oEq (oComp (iEq (iL (oIx (vImm 2) (vImm 5)))) (gNm 7) (tBl (oOp (rInT false) (vImm 7) (vView 3))) (vImm 7) [7])) (oEq (oLst aNil))))))
    (sIf (tAnd2 (tBl (oOp rGtI (oFn sp__law_draw 2 false (cIo 0 (cVal (oOp rAddI (vImm 4) (cD (.int 1))) cNil))) (cD (.int 0)))) (tBl (vImm 6))) (sExpr (oEnv (oApp 3 (vImm 5)))) sNext))))
    (sRet (vMove 3))))
abbrev VC__law_done : Prop := VC [0] N__law_done P__law_done sp__law_done tb__law_done
/-! _law_book(_law_tape, _law_many) -/
abbrev N__law_book : List Str := ["_law_tape", "_law_many", "_law_book_here", "_law_left", "_law_near", "_law_far", "_law_deed", "_law_done_here", "_law_some", "_law_one"]
abbrev P__law_book : List Str := ["_law_tape", "_law_many"]
def tb__law_book : TXS := (sSeq (sAsgT (oEq (oTup (aCons (oEq (oDisp (dCons (cD (.str "causes")) (oEq (oLst aNil)) (dCons (cD (.str "clashes")) (oEq (oLst aNil)) (dCons (cD (.str "undone")) (oEq (oLst aNil)) dNil))))) (aCons (oEq (oLR (gR2 (cD (.int 1)) (oOp rAddI (vImm 1) (cD (.int 1)))))) aNil)))) (gTpl 2 (gsCons (gNm 2) (gsCons (gNm 3) gsNil))))
    (sSeq (sAsgT (oEq (oTup (aCons (oFn sp__law_pick 2 false (cIo 0 (cVal (oEq (oLst (aCons (cD (.int 2)) (aCons (cD (.int 3)) (aCons (cD (.int 5)) aNil))))) cNil))) (aCons (oFn sp__law_pick 2 false (cIo 0 (cVal (oEq (oLst (aCons (cD (.int 2)) (aCons (cD (.int 3)) (aCons (cD (.int 6)) (aCons (cD (.int 99)) aNil)))))) cNil))) aNil)))) (gTpl 2 (gsCons (gNm 4) (gsCons (gNm 5) gsNil))))
    (sSeq (sFor (iEq (iR1 (aCons (vImm 1) aNil))) (gNm 6) (sSeq (sFz 7 (sSet 7 (oFn sp__law_done 3 true (cIo 0 (cVal (oDGet (vView 2) (cD (.str "causes"))) (cVal (oDGet (vView 2) (cD (.str "clashes"))) cNil))))))
    (sSeq (sFz 8 (sSet 8 (oEq (oComp (iEq (iL (vImm 7))) (gNm 9) (tBl (oOp rEqI (oFn sp__law_draw 2 false (cIo 0 (cVal (vImm 4) cNil))) (cD (.int 0)))) (vImm 9) [9]))))
    (sSeq (sFz 8 (sSet 8 (oEq (oOp rCatT (vImm 8) (oEq (oSumL (oEq (oFrz (oEq (oComp (iEq (iL (vImm 8))) (gNm 9) tYesT (oImm (oIx (oDGet (vView 2) (cD (.str "causes"))) (vImm 9))) [9]))))))))))
    (sSeq (sExpr (oEnv (hApp 2 (hKey (hName 2) (cD (.str "causes"))) (oEq (oFrz (oEq (oComp (iEq (iR1 (aCons (vImm 6) aNil))) (gNm 9) (tBl (oOp (rInT false) (vImm 9) (vImm 8))) (vImm 9) [9])))))))
    (sSeq (sExpr (oEnv (hApp 2 (hKey (hName 2) (cD (.str "clashes"))) (oEq (oFrz (oEq (oComp (iEq (iR1 (aCons (vImm 6) aNil))) (gNm 9) (tAnd2 (tBl (oOp (rInT true) (vImm 9) (vImm 8))) (tBl (oOp rEqI (oFn sp__law_draw 2 false (cIo 0 (cVal (vImm 5) cNil))) (cD (.int 0))))) (vImm 9) [9])))))))
    (sExpr (oEnv (hApp 2 (hKey (hName 2) (cD (.str "undone"))) (oOp rMulI (oEnv (hPop 3 (hName 3) (oFn sp__law_draw 2 false (cIo 0 (cVal (oCall gLen (aCons (vView 3) aNil)) cNil))))) (oFn sp__law_pick 2 false (cIo 0 (cVal (oEq (oLst (aCons (cD (.int 1)) (aCons (cD (.int 1)) (aCons (oUn rNegI (cD (.int 1))) aNil))))) cNil)))))))))))))
    (sRet (vMove 2)))))
abbrev VC__law_book : Prop := VC [0] N__law_book P__law_book sp__law_book tb__law_book
/-! _law_spot(_law_tape, _law_book_here) -/
abbrev N__law_spot : List Str := ["_law_tape", "_law_book_here", "_law_done_here", "_law_sides", "_law_deed"]
abbrev P__law_spot : List Str := ["_law_tape", "_law_book_here"]
def tb__law_spot : TXS := (sSeq (sFz 2 (sSet 2 (oFn sp__law_done 3 false (cIo 0 (cVal (oDGet (vImm 1) (cD (.str "causes"))) (cVal (oDGet (vImm 1) (cD (.str "clashes"))) cNil))))))
    (sSeq (sFz 3 (sEnv (sSet 3 (oComp (iEq (iR1 (aCons (oCall gLen (aCons (oDGet (vImm 1) (cD (.str "undone"))) aNil)) aNil))) (gNm 4) tYesT (oIf2 (tBl (oOp (rInT false) (vImm 4) (vImm 2))) (oOp rSubI (cD (.int 0)) (oIx (oDGet (vImm 1) (cD (.str "undone"))) (vImm 4))) (oIx (oDGet (vImm 1) (cD (.str "undone"))) (vImm 4))) [4]))))
    (sRet (oEq (oCall gTuple (aCons (oEq (oSortAbs (vImm 3))) aNil))))))
abbrev VC__law_spot : Prop := VC [0] N__law_spot P__law_spot sp__law_spot tb__law_spot
/-! law(_law_script) -/
abbrev N_law : List Str := ["_law_script", "_law_tape", "_law_turn", "_law_book_here", "_law_some", "_law_one", "_law_two", "_law_three", "_law_pairs", "_law_unlike", "_law_due", "_law_k", "_law_a"]
abbrev P_law : List Str := ["_law_script"]
def tb_law : TXS := (sSeq (sSet 1 (oFn sp__law_begun 1 false (cVal (vImm 0) cNil)))
    (sSeq (sFor (iEq (iR1 (aCons (cD (.int 3)) aNil))) (gNm 2) (sSeq (sFz 3 (sSet 3 (oFn sp__law_book 2 false (cIo 1 (cVal (oFn sp__law_pick 2 false (cIo 1 (cVal (oEq (oLst (aCons (oFn sp__law_draw 2 false (cIo 1 (cVal (cD (.int 10)) cNil))) (aCons (oFn sp__law_draw 2 false (cIo 1 (cVal (cD (.int 20)) cNil))) (aCons (oIf2 (tBl (oOp rEqI (vImm 2) (cD (.int 0)))) (cD (.int 60)) (cD (.int 5))) aNil))))) cNil))) cNil)))))
    (sSeq (sEnv (sSet 4 (oComp (iEq (iR1 (aCons (cD (.int 3)) aNil))) (gNm 11) tYesT (oFn sp__law_spot 2 false (cIo 1 (cVal (vImm 3) cNil))) [11])))
    (sSeq (sEnv (sSetL 4 (oFn sp__law_pick 2 false (cIo 1 (cVal (oEq (oOp rCatT (vView 4) (oEq (oOp rRepT (oEq (oLst (aCons (oImm (oIx (vView 4) (cD (.int 2)))) aNil))) (cD (.int 3)))))) cNil))) (cD (.int 2))))
    (sSeq (sAsgT (vFz 4) (gTlL 3 (gsCons (gNm 5) (gsCons (gNm 6) (gsCons (gNm 7) gsNil)))))
    (sSeq (sFz 8 (sSet 8 (oEq (oLst (aCons (oEq (oTup (aCons (vImm 5) (aCons (vImm 6) aNil)))) (aCons (oEq (oTup (aCons (vImm 6) (aCons (vImm 7) aNil)))) (aCons (oEq (oTup (aCons (vImm 5) (aCons (vImm 7) aNil)))) aNil)))))))
    (sSeq (sFz 9 (sEnv (sSet 9 (oComp (iEq (iL (vImm 8))) (gNm 12) tYesT (oCall gLen (aCons (oEq (oComp (iEq (iR1 (aCons (oCall gLen (aCons (oIx (vImm 12) (cD (.int 0))) aNil)) aNil))) (gNm 11) (tBl (oOp rNeI (oIx (oIx (vImm 12) (cD (.int 0))) (vImm 11)) (oIx (oIx (vImm 12) (cD (.int 1))) (vImm 11)))) (vImm 11) [11])) aNil)) [12]))))
    (sSeq (sIf (tOr2 (tBl (oOp (rEqT true) (oEq (oLst (aCons (oFn sp_apart 2 false (cVal (vImm 5) (cVal (vImm 6) cNil))) (aCons (oFn sp_apart 2 false (cVal (vImm 6) (cVal (vImm 7) cNil))) (aCons (oFn sp_apart 2 false (cVal (vImm 7) (cVal (vImm 5) cNil))) aNil))))) (vImm 9))) (tBl (oCall gIsi (aCons (oFn sp_apart 2 false (cVal (vImm 5) (cVal (vImm 6) cNil))) (aCons (cD (.ty "bool")) aNil))))) (sRet (cD (.bl false))) sNext)
    (sSeq (sIf (tBl (oOp rNeS (oCall gReprX (aCons (oFn sp_is_between 3 false (cVal (vImm 5) (cVal (vImm 6) (cVal (vImm 7) cNil)))) aNil)) (oCall gReprX (aCons (oEq (oOp rEqI (oOp rAddI (oIx (vImm 9) (cD (.int 0))) (oIx (vImm 9) (cD (.int 1)))) (oIx (vImm 9) (cD (.int 2))))) aNil)))) (sRet (cD (.bl false))) sNext)
    (sSeq (sSet 10 (oEq (oCall gTuple (aCons (oEq (oComp (iEq (iR1 (aCons (oCall gLen (aCons (vImm 5) aNil)) aNil))) (gNm 11) tYesT (oIx (oEq (oCall gSortI (aCons (oEq (oLst (aCons (oIx (vImm 5) (vImm 11)) (aCons (oIx (vImm 6) (vImm 11)) (aCons (oIx (vImm 7) (vImm 11)) aNil))))) aNil))) (cD (.int 1))) [11])) aNil))))
    (sSeq (sIf (tOr2 (tBl (oOp rNeS (oCall gReprX (aCons (oFn sp_meet 3 false (cVal (vImm 5) (cVal (vImm 6) (cVal (vImm 7) cNil)))) aNil)) (oCall gReprX (aCons (vImm 10) aNil)))) (tOr2 (tBl (oOp (rEqT true) (oFn sp_meet 3 false (cVal (vImm 7) (cVal (vImm 5) (cVal (vImm 6) cNil)))) (vImm 10))) (tBl (oOp (rEqT true) (oFn sp_meet 3 false (cVal (vImm 6) (cVal (vImm 5) (cVal (vImm 7) cNil)))) (vImm 10))))) (sRet (cD (.bl false))) sNext)
    (sIf (tOr2 (tNotT (tBl (oFn sp_is_between 3 false (cVal (vImm 5) (cVal (vImm 10) (cVal (vImm 6) cNil)))))) (tOr2 (tNotT (tBl (oFn sp_is_between 3 false (cVal (vImm 6) (cVal (vImm 10) (cVal (vImm 7) cNil)))))) (tNotT (tBl (oFn sp_is_between 3 false (cVal (vImm 7) (cVal (vImm 10) (cVal (vImm 5) cNil)))))))) (sRet (cD (.bl false))) sNext))))))))))))
    (sRet (cD (.bl true)))))
abbrev VC_law : Prop := VC [] N_law P_law sp_law tb_law
end K14

namespace K14
open PySem PySem.Spec PyProof.Rows L2 TT
theorem vc_apart : VC_apart := by
  rintro env Qt hl ⟨one, other, rfl, H⟩
  show tb_apart _ [some ((eT D.int) one), some ((eT D.int) other), none, none]
  refine ⟨_, rfl, ((fzT fzI) _), _, rfl, ((fzT fzI) _), _, _, _, _, rfl, rfl, rfl, (frzL_m fzI _), (frzL_m fzI _), (List.map (e2 D.int D.int) (List.zip one other)), (zipL_e _ _ ), bindK H fun ys h1_ H => g_compF (e' := D.int) rfl h1_ rfl ?_ ?_⟩
  rotate_left
  · rintro ⟨side, another⟩ K1 K0 k1 k0
    refine ⟨_, rfl, rfl, _, _, rfl, _, _, rfl, rfl, _, rfl, (fzI _), _, rfl, (fzI _), _, _, rfl, rfl, _, rfl, iteB (fun hb => ?_) (fun hb => ?_)⟩
    · exact ⟨_, rfl, (fzI _), k1 hb _ rfl⟩
    · exact k0 hb _ rfl
  exact ⟨((eL true D.int) ys), (mapE ys), _, rfl, _, (lenL _), (wpSome H :)⟩

theorem vc_meet : VC_meet := by
  rintro env Qt hl ⟨one, two, three, rfl, H⟩
  show tb_meet _ [some ((eT D.int) one), some ((eT D.int) two), some ((eT D.int) three), none, none, none]
  refine ⟨_, rfl, ((fzT fzI) _), _, rfl, ((fzT fzI) _), _, rfl, ((fzT fzI) _), _, _, _, _, _, _, rfl, rfl, rfl, rfl, (frzL_m fzI _), (frzL_m fzI _), (frzL_m fzI _), (List.map (e3 D.int D.int D.int) (zip3 one two three)), (zipL3_e _ _ _ ), bindK H fun ys h1_ H => g_compT (e' := D.int) rfl h1_ rfl ?_ ?_⟩
  rotate_left
  · rintro ⟨a, b, c⟩ K1 k1
    refine ⟨_, rfl, rfl, _, _, rfl, _, _, rfl, _, _, rfl, rfl, _, rfl, (fzI _), _, rfl, (fzI _), _, rfl, (fzI _), ((eT D.int) [b, c]), rfl, _, rfl, (cmpD_py cmpI ((fun _ => rfl) _) ((cmpI.ok) _)), ((cmpT cmpI).cmpD (by decide) _), (decide (a ∈ [b, c])), (cmpI.in2F (fun _ => rfl) _ _), k_if (e := D.int) (x := a) (y := b) ?_ (fun hb Q' J => ?_) (fun hb Q' J => ?_)⟩
    rotate_left
    · exact ⟨_, rfl, (fzI _), J⟩
    · exact ⟨_, rfl, (fzI _), J⟩
    exact k1 _ rfl
  exact ⟨((eL true D.int) ys), (mapE ys), _, rfl, _, rfl, (frzL_m fzI _), ((eT D.int) ys), rfl, (wpSome H :)⟩

theorem vc__law_begun : VC__law_begun := by
  rintro env Qt hl ⟨script, rfl, H⟩
  show tb__law_begun _ [some ((eQ D.int) script)]
  refine ⟨_, rfl, ((fzQ fzI) _), _, rfl, _, rfl, (cut_fz fzI _ _ _), ((eL true D.int) (cutL script none (some 63))), (cutE _ _ _), _, (truL _), k_orT (y := [0]) ((eL true D.int)) rfl ?_ fun hb Q' J => ?_⟩
  rotate_left
  · exact ⟨((eL true D.int) [0]), rfl, J⟩
  exact ⟨_, rfl, _, rfl, _, rfl, (show [(Sum.inr "cells" : Key), (Sum.inr "spot" : Key), (Sum.inr "left" : Key)].Nodup by decide), ((eR3 true "cells" "spot" "left" (eL true D.int) D.int D.int) ((if (!(cutL script none (some 63)).isEmpty) = true then (cutL script none (some 63)) else [0]), 0, 0)), rfl, (wpSome H :)⟩

theorem vc__law_draw : VC__law_draw := by
  rintro env Qt hl ⟨tape, many, rfl, H⟩
  show tb__law_draw _ [some ((eR3 true "cells" "spot" "left" (eL true D.int) D.int D.int) tape), some (D.int many), none, none, none, none]
  refine bindK H fun tape1 h5_ H => ?_
  try refine nxI ?_
  refine g_joinI (fun (tape1 : ((List Int) × Int × Int)) (e_ : TT.Env) => ∃ j j1 j2 : Option D, e_ = [some ((eR3 true "cells" "spot" "left" (eL true D.int) D.int D.int) tape1), some (D.int many), j, j1, j2, none]) h5_ ?_ ?_
  rotate_left
  · intro K H
    refine ⟨_, rfl, _, (gR3_3 _), (fzI _), _, rfl, (fzI _), _, _, rfl, rfl, _, rfl, iteB (fun hb => ?_) (fun hb => ?_)⟩
    · have H := wpT hb H
      refine ⟨_, rfl, _, (gR3_2 _), (fzI _), _, rfl, _, (gR3_1 _), _, rfl, _, (lenL _), _, _, rfl, _, rfl, _, (gR3_1 _), _, rfl, (fzI _), _, rfl, _, rfl, _, rfl, (fzI _), bindK H fun _ h6_ H => ⟨_, _, rfl, rfl, (guard_of h6_), bindK H fun x h7_ H => ⟨_, (atL h7_), (fzI _), _, rfl, (fzI _), _, _, rfl, rfl, ((e2 D.int D.int) (x, (tape.2.1 + 1))), rfl, _, rfl, rfl, _, _, rfl, _, _, rfl, ⟨_, rfl⟩, rfl, _, _, rfl, (pR3_2 _ _), rfl, ?_⟩⟩⟩
      try refine nxI ?_
      refine envI (env' := [some ((eR3 true "cells" "spot" "left" (eL true D.int) D.int D.int) (tape.1, (tape.2.1 + 1), tape.2.2)), some (D.int many), some (D.int tape.2.1), some (D.int (tape.1.length : Int)), some (D.int x), none]) rfl ?_
      refine ⟨_, rfl, (fzI _), _, rfl, _, rfl, _, _, rfl, rfl, (show (0 : Int) < 2147483647 by decide), _, rfl, (fzI _), _, _, rfl, rfl, (.inl ⟨by decide, by decide⟩), _, _, rfl, rfl, _, _, rfl, rfl, bindK H fun _ h8_ H => ⟨_, _, rfl, rfl, (guard_of h8_), (D.int ((((x % 2147483647) + (69621 * tape.2.1)) + 48271) ^ (17 : Int).toNat)), rfl, _, rfl, _, rfl, _, _, rfl, rfl, (by decide), (D.int 100000000000000000000000000000000000000000000000000), (congrArg D.int (show (10 : Int) ^ (50 : Int).toNat = 100000000000000000000000000000000000000000000000000 by decide)), _, _, rfl, rfl, bindK H fun _ h9_ H => ⟨_, _, rfl, rfl, (guard_of h9_), ⟨_, rfl⟩, _, _, rfl, (pR3_3 _ _), _, rfl, (fzI _), _, _, rfl, rfl, (by decide), (D.int 1000000000000000000), (congrArg D.int (show (10 : Int) ^ (18 : Int).toNat = 1000000000000000000 by decide)), _, _, rfl, rfl, _, rfl, k_and (b' := (decide (tape.2.1 < (tape.1.length : Int)))) ?_ fun hb Q' J => ?_⟩⟩⟩
      rotate_left
      · exact ⟨_, rfl, (fzI _), _, rfl, (fzI _), _, _, rfl, rfl, _, rfl, J⟩
      refine iteB (fun hb => ?_) (fun hb => ?_)
      · have H := wpT hb H
        exact ⟨_, rfl, (fzI _), _, _, rfl, rfl, (by decide), (D.int 1000000000000000000), (congrArg D.int (show (10 : Int) ^ (18 : Int).toNat = 1000000000000000000 by decide)), _, _, rfl, rfl, ⟨_, rfl⟩, _, _, rfl, (pR3_3 _ _), nxK H ⟨_, _, _, rfl⟩⟩
      · have H := wpF hb H
        exact nxK H ⟨_, _, _, rfl⟩
    · have H := wpF hb H
      exact nxK H ⟨_, _, _, rfl⟩
  rintro _ ⟨j, j1, j2, rfl⟩
  exact ⟨_, rfl, _, (gR3_3 _), (fzI _), _, rfl, _, rfl, _, rfl, (fzI _), bindK H fun _ h10_ H => ⟨_, _, rfl, rfl, (guard_of h10_), _, rfl, _, (gR3_3 _), (fzI _), _, rfl, (fzI _), bindK H fun _ h11_ H => ⟨_, _, rfl, rfl, (guard_of h11_), ((e2 D.int D.int) ((tape1.2.2 % many), (tape1.2.2 / many))), rfl, _, rfl, rfl, _, _, rfl, _, _, rfl, ⟨_, rfl⟩, rfl, _, _, rfl, (pR3_3 _ _), rfl, _, rfl, (fzI _), (wpSome H :)⟩⟩⟩

theorem vc_is_between : VC_is_between := by
  rintro env Qt hl ⟨one, middle, other, rfl, H⟩
  show tb_is_between _ [some ((eT D.int) one), some ((eT D.int) middle), some ((eT D.int) other)]
  exact ⟨_, rfl, ((fzT fzI) _), _, rfl, ((fzT fzI) _), rfl, bindK H fun r h1_ H => ⟨one, middle, (consE (someE ((fzT fzI) _)) (consE (someE ((fzT fzI) _)) rfl)), _, h1_, (fun z => Bool.noConfusion z), _, rfl, ((fzT fzI) _), _, rfl, ((fzT fzI) _), rfl, bindK H fun r1 h2_ H => ⟨middle, other, (consE (someE ((fzT fzI) _)) (consE (someE ((fzT fzI) _)) rfl)), _, h2_, (fun z => Bool.noConfusion z), _, _, rfl, rfl, _, rfl, ((fzT fzI) _), _, rfl, ((fzT fzI) _), rfl, bindK H fun r2 h3_ H => ⟨one, other, (consE (someE ((fzT fzI) _)) (consE (someE ((fzT fzI) _)) rfl)), _, h3_, (fun z => Bool.noConfusion z), _, _, rfl, rfl, (D.bl (decide ((r + r1) = r2))), rfl, (wpSome H :)⟩⟩⟩⟩

theorem vc__law_pick : VC__law_pick := by
  rintro env Qt hl ⟨α, eα, qα, sqα, zα, tape, some_, rfl, H⟩
  show tb__law_pick _ [some ((eR3 true "cells" "spot" "left" (eL true D.int) D.int D.int) tape), some (qα some_)]
  refine ⟨_, rfl, (sqα.fz _), ⟨_, rfl⟩, _, rfl, (sqα.fz _), _, rfl, _, (sqα.len _), rfl, bindK H fun w_ h1_ H => ?_⟩
  obtain ⟨r, tape1⟩ := w_
  exact ⟨tape, (some_.length : Int), (consE rfl (consE (someE (fzI _)) rfl)), _, h1_, (fun z => Bool.noConfusion z), bindK H fun x h2_ H => ⟨_, (sqα.at_ h2_), (wpSome H :)⟩⟩

theorem vc__law_done : VC__law_done := by
  rintro env Qt hl ⟨tape, causes, clashes, rfl, H⟩
  show tb__law_done _ [some ((eR3 true "cells" "spot" "left" (eL true D.int) D.int D.int) tape), some ((eL false (eL false D.int)) causes), some ((eL false (eL false D.int)) clashes), none, none, none, none, none]
  refine ⟨((eL true D.int) []), rfl, ⟨_, rfl⟩, ((eL true D.int) [1, 2, 3]), rfl, rfl, bindK H fun w_ h1_ H => ?_⟩
  obtain ⟨r, tape1⟩ := w_
  refine ⟨Int, D.int, (eL false D.int), (seL fzI), fzI, tape, [1, 2, 3], (consE rfl (consE (someE ((fzL fzI) _)) rfl)), _, h1_, (fun z => Bool.noConfusion z), ((e2 (eL true D.int) D.int) ([], r)), rfl, _, rfl, rfl, _, _, rfl, _, _, rfl, rfl, ?_⟩
  try refine nxI ?_
  refine envI (env' := [some ((eR3 true "cells" "spot" "left" (eL true D.int) D.int D.int) tape1), some ((eL false (eL false D.int)) causes), some ((eL false (eL false D.int)) clashes), some ((eL true D.int) []), some (D.int r), none, none, none]) rfl ?_
  refine ⟨_, rfl, ((fzL (fzL fzI)) _), _, rfl, _, (lenL _), bindK H fun r1 h2_ H => ⟨_, rfl, (rng_ok h2_).1, (rng_ok h2_).2, (List.map D.int r1), (rngE h2_), bindK H fun w_ h3_ H => ?_⟩⟩
  obtain ⟨tape2, done⟩ := w_
  refine g_for (fun (s_ : ((List Int) × Int × Int) × (List Int)) (e_ : TT.Env) => match s_ with | (tape2, done) => ∃ j j1 : Option D, e_ = [some ((eR3 true "cells" "spot" "left" (eL true D.int) D.int D.int) tape2), some ((eL false (eL false D.int)) causes), some ((eL false (eL false D.int)) clashes), some ((eL true D.int) done), some (D.int r), j, j1, none]) rfl h3_ ⟨_, _, rfl⟩ ?_ ?_
  rotate_left
  · rintro deed ⟨tape2, done⟩ _ K ⟨j, j1, rfl⟩ H
    refine of_gNm ?_
    refine ⟨_, rfl, ((fzL (fzL fzI)) _), _, rfl, (fzI _), bindK H fun x h5_ H => ⟨_, (atL h5_), (List.map D.int x), rfl, (List.map D.int x), (frzL_e fzI _), bindK H fun ys h6_ H => g_compF (e' := D.int) rfl h6_ rfl ?_ ?_⟩⟩
    rotate_left
    · rintro one K1 K0 k1 k0
      refine ⟨_, rfl, (fzI _), _, rfl, _, rfl, (cmpD_py cmpI ((fun _ => rfl) _) ((cmpI.ok) _)), ((cmpL cmpI true).cmpD (by decide) _), (!decide (one ∈ done)), (cmpI.in2N (fun _ => rfl) _ _), iteB (fun hb => ?_) (fun hb => ?_)⟩
      · exact ⟨_, rfl, (fzI _), k1 hb _ rfl⟩
      · exact k0 hb _ rfl
    refine ⟨((eL true D.int) ys), (mapE ys), ((eL true D.int) []), rfl, (cmpD_py (cmpL cmpI false) ((pyLL (fun _ => rfl)) _) ((okL (cmpI.ok)) _)), (cmpD_py (cmpL cmpI false) ((pyLL (fun _ => rfl)) _) ((okL (cmpI.ok)) _)), (D.bl (decide (ys = []))), ((cmpL cmpI false).eqF ((pyLL (fun _ => rfl)) _) ((pyLL (fun _ => rfl)) _)), _, rfl, (fzB _), _, rfl, bindK H fun t h9_ H => k_andVP h9_ ?_ fun hb Q' J H => ?_⟩
    rotate_left
    · refine ⟨_, rfl, ((fzL (fzL fzI)) _), _, rfl, (fzI _), bindK H fun x1 h7_ H => ⟨_, (atL h7_), (List.map D.int x1), rfl, (List.map D.int x1), (frzL_e fzI _), bindK H fun ys1 h8_ H => g_compF (e' := D.int) rfl h8_ rfl ?_ ?_⟩⟩
      rotate_left
      · rintro one1 K1 K0 k1 k0
        refine ⟨_, rfl, (fzI _), _, rfl, _, rfl, (cmpD_py cmpI ((fun _ => rfl) _) ((cmpI.ok) _)), ((cmpL cmpI true).cmpD (by decide) _), (decide (one1 ∈ done)), (cmpI.in2F (fun _ => rfl) _ _), iteB (fun hb => ?_) (fun hb => ?_)⟩
        · exact ⟨_, rfl, (fzI _), k1 hb _ rfl⟩
        · exact k0 hb _ rfl
      exact ⟨((eL true D.int) ys1), (mapE ys1), ((eL true D.int) []), rfl, (cmpD_py (cmpL cmpI false) ((pyLL (fun _ => rfl)) _) ((okL (cmpI.ok)) _)), (cmpD_py (cmpL cmpI false) ((pyLL (fun _ => rfl)) _) ((okL (cmpI.ok)) _)), (D.bl (decide (ys1 = []))), ((cmpL cmpI false).eqF ((pyLL (fun _ => rfl)) _) ((pyLL (fun _ => rfl)) _)), valK H J⟩
    refine ⟨⟨_, rfl⟩, _, rfl, (fzI _), _, _, rfl, rfl, rfl, bindK H fun w_ h10_ H => ?_⟩
    obtain ⟨r2, tape3⟩ := w_
    refine ⟨tape2, (r + 1), (consE rfl (consE (someE (fzI _)) rfl)), _, h10_, (fun z => Bool.noConfusion z), _, _, rfl, rfl, _, rfl, k_and (b' := t) ?_ fun hb Q' J => ?_⟩
    rotate_left
    · exact ⟨_, rfl, (fzB _), _, rfl, J⟩
    refine iteB (fun hb => ?_) (fun hb => ?_)
    · have H := wpT hb H
      exact ⟨⟨_, _, rfl⟩, _, rfl, (fzI _), bindK H fun done1 h11_ H => ⟨_, rfl, (push_lt h11_), _, (setEq (pushE h11_)), nxK H ⟨_, _, rfl⟩⟩⟩
    · have H := wpF hb H
      exact nxK H ⟨_, _, rfl⟩
  rintro _ ⟨j, j1, rfl⟩
  exact ⟨_, rfl, (wpSome H :)⟩

theorem vc__law_book : VC__law_book := by
  rintro env Qt hl ⟨tape, many, rfl, H⟩
  show tb__law_book _ [some ((eR3 true "cells" "spot" "left" (eL true D.int) D.int D.int) tape), some (D.int many), none, none, none, none, none, none, none, none]
  refine ⟨((eL true (eL false D.int)) []), rfl, ((eL true (eL false D.int)) []), rfl, ((eL true D.int) []), rfl, _, rfl, _, rfl, _, rfl, (show [(Sum.inr "causes" : Key), (Sum.inr "clashes" : Key), (Sum.inr "undone" : Key)].Nodup by decide), ((eR3 true "causes" "clashes" "undone" (eL true (eL false D.int)) (eL true (eL false D.int)) (eL true D.int)) ([], [], [])), rfl, _, rfl, (fzI _), _, _, rfl, rfl, _, _, rfl, rfl, bindK H fun r h1_ H => ⟨(lrg_ok h1_), ((eL true D.int) r), (lrgE h1_), ((e2 (eR3 true "causes" "clashes" "undone" (eL true (eL false D.int)) (eL true (eL false D.int)) (eL true D.int)) (eL true D.int)) (([], [], []), r)), rfl, _, rfl, rfl, _, _, rfl, _, _, rfl, rfl, ⟨_, rfl⟩, ((eL true D.int) [2, 3, 5]), rfl, rfl, bindK H fun w_ h2_ H => ?_⟩⟩
  obtain ⟨r1, tape1⟩ := w_
  refine ⟨Int, D.int, (eL false D.int), (seL fzI), fzI, tape, [2, 3, 5], (consE rfl (consE (someE ((fzL fzI) _)) rfl)), _, h2_, (fun z => Bool.noConfusion z), ⟨_, rfl⟩, ((eL true D.int) [2, 3, 6, 99]), rfl, rfl, bindK H fun w_ h3_ H => ?_⟩
  obtain ⟨r2, tape2⟩ := w_
  refine ⟨Int, D.int, (eL false D.int), (seL fzI), fzI, tape1, [2, 3, 6, 99], (consE rfl (consE (someE ((fzL fzI) _)) rfl)), _, h3_, (fun z => Bool.noConfusion z), ((e2 D.int D.int) (r1, r2)), rfl, _, rfl, rfl, _, _, rfl, _, _, rfl, rfl, ?_⟩
  try refine nxI ?_
  refine envI (env' := [some ((eR3 true "cells" "spot" "left" (eL true D.int) D.int D.int) tape2), some (D.int many), some ((eR3 true "causes" "clashes" "undone" (eL true (eL false D.int)) (eL true (eL false D.int)) (eL true D.int)) ([], [], [])), some ((eL true D.int) r), some (D.int r1), some (D.int r2), none, none, none, none]) rfl ?_
  refine ⟨_, rfl, (fzI _), bindK H fun r3 h4_ H => ⟨_, rfl, (rng_ok h4_).1, (rng_ok h4_).2, (List.map D.int r3), (rngE h4_), bindK H fun w_ h5_ H => ?_⟩⟩
  obtain ⟨tape3, book, left⟩ := w_
  refine g_for (fun (s_ : ((List Int) × Int × Int) × ((List (List Int)) × (List (List Int)) × (List Int)) × (List Int)) (e_ : TT.Env) => match s_ with | (tape3, book, left) => ∃ j j1 j2 : Option D, e_ = [some ((eR3 true "cells" "spot" "left" (eL true D.int) D.int D.int) tape3), some (D.int many), some ((eR3 true "causes" "clashes" "undone" (eL true (eL false D.int)) (eL true (eL false D.int)) (eL true D.int)) book), some ((eL true D.int) left), some (D.int r1), some (D.int r2), j, j1, j2, none]) rfl h5_ ⟨_, _, _, rfl⟩ ?_ ?_
  rotate_left
  · rintro deed ⟨tape3, book, left⟩ _ K ⟨j, j1, j2, rfl⟩ H
    refine of_gNm ?_
    refine ⟨⟨_, rfl⟩, _, rfl, _, (gR3_1 _), _, rfl, _, (gR3_2 _), rfl, bindK H fun w_ h7_ H => ?_⟩
    obtain ⟨r4, tape4⟩ := w_
    refine ⟨tape3, book.1, book.2.1, (consE rfl (consE (someE ((fzL (fzL fzI)) _)) (consE (someE ((fzL (fzL fzI)) _)) rfl))), _, h7_, (fun _ => ⟨((nvL nvI) _), (nfEs ((nvR3 (nvL nvI) nvI nvI) _) (nfEn (nfEn nfE0)))⟩), _, _, rfl, ((fzL fzI) _), _, rfl, ((fzL fzI) _), (List.map D.int r4), rfl, (List.map D.int r4), (frzL_e fzI _), bindK H fun w_ h9_ H => ?_⟩
    obtain ⟨ys, tape6⟩ := w_
    refine g_compS (e' := D.int) (fun (s_ : ((List Int) × Int × Int)) (e_ : TT.Env) => match s_ with | tape6 => e_ = [some ((eR3 true "cells" "spot" "left" (eL true D.int) D.int D.int) tape6), some (D.int many), some ((eR3 true "causes" "clashes" "undone" (eL true (eL false D.int)) (eL true (eL false D.int)) (eL true D.int)) book), some ((eL true D.int) left), some (D.int r1), some (D.int r2), some (D.int deed), some ((eL false D.int) r4), j2, none]) rfl h9_ rfl ?_ ?_
    rotate_left
    · rintro one tape6 _ K1 K0 rfl H
      refine ⟨⟨_, rfl⟩, _, rfl, (fzI _), rfl, bindK H fun w_ h10_ H => ?_⟩
      obtain ⟨r6, tape7⟩ := w_
      refine ⟨tape6, r1, (consE rfl (consE (someE (fzI _)) rfl)), _, h10_, (fun z => Bool.noConfusion z), _, _, rfl, rfl, _, rfl, iteB (fun hb => ?_) (fun hb => ?_)⟩
      · have H := wpT hb H
        exact ⟨_, rfl, (fzI _), (wpSome H :) _ rfl⟩
      · have H := wpF hb H
        exact (wpSome H :) _ rfl
    rintro _ rfl
    refine ⟨((eL true D.int) ys), (mapE ys), _, _, rfl, ((fzL fzI) _), ?_⟩
    try refine nxI ?_
    refine envI (env' := [some ((eR3 true "cells" "spot" "left" (eL true D.int) D.int D.int) tape6), some (D.int many), some ((eR3 true "causes" "clashes" "undone" (eL true (eL false D.int)) (eL true (eL false D.int)) (eL true D.int)) book), some ((eL true D.int) left), some (D.int r1), some (D.int r2), some (D.int deed), some ((eL false D.int) r4), some ((eL false D.int) ys), none]) rfl ?_
    refine ⟨_, rfl, ((fzL fzI) _), _, rfl, ((fzL fzI) _), (List.map D.int ys), rfl, (List.map D.int ys), (frzL_e fzI _), bindK H fun ys1 h12_ H => g_compQ (e' := (eL false D.int)) rfl h12_ rfl ?_ ?_⟩
    rotate_left
    · rintro one1 K1 H
      exact ⟨_, rfl, _, (gR3_1 _), _, rfl, (fzI _), bindK H fun x h11_ H => ⟨_, (atL h11_), ((fzL fzI) _), (wpSome H :) _ rfl⟩⟩
    refine ⟨((eL true (eL false D.int)) ys1), (mapE ys1), ((eL false (eL false D.int)) ys1), ((fzL (fzL fzI)) _), bindK H fun sum h13_ H => ⟨_, _, (sumL_it _), (sumL_fz fzI _), (sumL_le h13_), ((eL true D.int) sum), (sumL_e h13_), bindK H fun zs h14_ H => ⟨_, _, _, _, rfl, rfl, (frzL_m fzI _), (frzL_m fzI _), (cat_le h14_), ((eL true D.int) zs), (catE h14_), _, _, rfl, ((fzL fzI) _), _, rfl, rfl, _, _, _, rfl, rfl, lR3_1, (show [(Sum.inr "causes" : Key), (Sum.inr "clashes" : Key), (Sum.inr "undone" : Key)].Nodup by decide), rfl, _, rfl, (fzI _), bindK H fun r7 h15_ H => ⟨_, rfl, (rng_ok h15_).1, (rng_ok h15_).2, (List.map D.int r7), (rngE h15_), bindK H fun ys2 h16_ H => g_compF (e' := D.int) rfl h16_ rfl ?_ ?_⟩⟩⟩⟩
    rotate_left
    · rintro one2 K1 K0 k1 k0
      refine ⟨_, rfl, (fzI _), _, rfl, ((fzL fzI) _), _, rfl, (cmpD_py cmpI ((fun _ => rfl) _) ((cmpI.ok) _)), ((cmpL cmpI false).cmpD (by decide) _), (decide (one2 ∈ zs)), (cmpI.in2F (fun _ => rfl) _ _), iteB (fun hb => ?_) (fun hb => ?_)⟩
      · exact ⟨_, rfl, (fzI _), k1 hb _ rfl⟩
      · exact k0 hb _ rfl
    refine ⟨((eL true D.int) ys2), (mapE ys2), ((eL false D.int) ys2), ((fzL fzI) _), bindK H fun xs h17_ H => ⟨_, rfl, (push_lt h17_), _, (setEq (uR3_1 (p := book) (pushE h17_))), _, rfl, rfl, _, _, _, rfl, rfl, lR3_2, (show [(Sum.inr "causes" : Key), (Sum.inr "clashes" : Key), (Sum.inr "undone" : Key)].Nodup by decide), rfl, _, rfl, (fzI _), bindK H fun r8 h18_ H => ⟨_, rfl, (rng_ok h18_).1, (rng_ok h18_).2, (List.map D.int r8), (rngE h18_), bindK H fun w_ h21_ H => ?_⟩⟩⟩
    obtain ⟨ys3, tape10⟩ := w_
    refine g_compS (e' := D.int) (fun (s_ : ((List Int) × Int × Int)) (e_ : TT.Env) => match s_ with | tape10 => e_ = [some ((eR3 true "cells" "spot" "left" (eL true D.int) D.int D.int) tape10), some (D.int many), some ((eR3 true "causes" "clashes" "undone" (eL true (eL false D.int)) (eL true (eL false D.int)) (eL true D.int)) (xs, book.2.1, book.2.2)), some ((eL true D.int) left), some (D.int r1), some (D.int r2), some (D.int deed), some ((eL false D.int) r4), some ((eL false D.int) zs), none]) rfl h21_ rfl ?_ ?_
    rotate_left
    · rintro one3 tape10 _ K1 K0 rfl H
      refine ⟨_, rfl, (fzI _), _, rfl, ((fzL fzI) _), _, rfl, (cmpD_py cmpI ((fun _ => rfl) _) ((cmpI.ok) _)), ((cmpL cmpI false).cmpD (by decide) _), (!decide (one3 ∈ zs)), (cmpI.in2N (fun _ => rfl) _ _), bindK H fun w_ h23_ H => ?_⟩
      obtain ⟨t1, tape12⟩ := w_
      refine k_andE (fun (s_ : ((List Int) × Int × Int)) => match s_ with | tape12 => [some ((eR3 true "cells" "spot" "left" (eL true D.int) D.int D.int) tape12), some (D.int many), some ((eR3 true "causes" "clashes" "undone" (eL true (eL false D.int)) (eL true (eL false D.int)) (eL true D.int)) (xs, book.2.1, book.2.2)), some ((eL true D.int) left), some (D.int r1), some (D.int r2), some (D.int deed), some ((eL false D.int) r4), some ((eL false D.int) zs), some (D.int one3)]) h23_ rfl ?_ fun hb Q' H => ?_
      rotate_left
      · refine ⟨⟨_, rfl⟩, _, rfl, (fzI _), rfl, bindK H fun w_ h22_ H => ?_⟩
        obtain ⟨r10, tape11⟩ := w_
        exact ⟨tape10, r2, (consE rfl (consE (someE (fzI _)) rfl)), _, h22_, (fun z => Bool.noConfusion z), _, _, rfl, rfl, _, rfl, vtT (en := fun (s_ : ((List Int) × Int × Int)) => match s_ with | tape12 => [some ((eR3 true "cells" "spot" "left" (eL true D.int) D.int D.int) tape12), some (D.int many), some ((eR3 true "causes" "clashes" "undone" (eL true (eL false D.int)) (eL true (eL false D.int)) (eL true D.int)) (xs, book.2.1, book.2.2)), some ((eL true D.int) left), some (D.int r1), some (D.int r2), some (D.int deed), some ((eL false D.int) r4), some ((eL false D.int) zs), some (D.int one3)]) H rfl⟩
      refine iteB (fun hb => ?_) (fun hb => ?_)
      · have H := wpT hb H
        exact ⟨_, rfl, (fzI _), (wpSome H :) _ rfl⟩
      · have H := wpF hb H
        exact (wpSome H :) _ rfl
    rintro _ rfl
    refine ⟨((eL true D.int) ys3), (mapE ys3), ((eL false D.int) ys3), ((fzL fzI) _), bindK H fun xs1 h24_ H => ⟨_, rfl, (push_lt h24_), _, (setEq (uR3_2 (p := (xs, book.2.1, book.2.2)) (pushE h24_))), ?_⟩⟩
    try refine nxI ?_
    refine envI (env' := [some ((eR3 true "cells" "spot" "left" (eL true D.int) D.int D.int) tape10), some (D.int many), some ((eR3 true "causes" "clashes" "undone" (eL true (eL false D.int)) (eL true (eL false D.int)) (eL true D.int)) ((xs, book.2.1, book.2.2).1, xs1, (xs, book.2.1, book.2.2).2.2)), some ((eL true D.int) left), some (D.int r1), some (D.int r2), some (D.int deed), some ((eL false D.int) r4), some ((eL false D.int) zs), none]) rfl ?_
    refine ⟨_, rfl, rfl, _, _, _, rfl, rfl, lR3_3, (show [(Sum.inr "causes" : Key), (Sum.inr "clashes" : Key), (Sum.inr "undone" : Key)].Nodup by decide), rfl, _, rfl, rfl, ⟨_, rfl⟩, _, rfl, _, rfl, _, (lenL _), rfl, bindK H fun w_ h25_ H => ?_⟩
    obtain ⟨r11, tape13⟩ := w_
    refine ⟨tape10, (left.length : Int), (consE rfl (consE (someE (fzI _)) rfl)), _, h25_, (fun z => Bool.noConfusion z), bindK H fun w_ h26_ H => ?_⟩
    obtain ⟨y, xs2⟩ := w_
    refine (popE (e := D.int) h26_).elim fun j_ hj_ => ⟨_, _, _, _, rfl, rfl, (pop_lo h26_), (pop_hi h26_), hj_.1, hj_.2.1, (fzI _), _, (setEq hj_.2.2), ⟨_, rfl⟩, _, rfl, ((eL true D.int) [1, 1, (-1)]), rfl, rfl, bindK H fun w_ h27_ H => ?_⟩
    obtain ⟨r12, tape14⟩ := w_
    exact ⟨Int, D.int, (eL false D.int), (seL fzI), fzI, tape13, [1, 1, (-1)], (consE rfl (consE (someE ((fzL fzI) _)) rfl)), _, h27_, (fun z => Bool.noConfusion z), bindK H fun _ h28_ H => ⟨_, _, rfl, rfl, (guard_of h28_), bindK H fun xs3 h29_ H => ⟨_, rfl, (push_lt h29_), _, (setEq (uR3_3 (p := ((xs, book.2.1, book.2.2).1, xs1, (xs, book.2.1, book.2.2).2.2)) (pushE h29_))), nxK H ⟨_, _, _, rfl⟩⟩⟩⟩
  rintro _ ⟨j, j1, j2, rfl⟩
  exact ⟨_, rfl, (wpSome H :)⟩

theorem vc__law_spot : VC__law_spot := by
  rintro env Qt hl ⟨tape, book, rfl, H⟩
  show tb__law_spot _ [some ((eR3 true "cells" "spot" "left" (eL true D.int) D.int D.int) tape), some ((eR3 false "causes" "clashes" "undone" (eL false (eL false D.int)) (eL false (eL false D.int)) (eL false D.int)) book), none, none, none]
  refine ⟨⟨_, rfl⟩, _, rfl, ((fzR3 (fzL (fzL fzI)) (fzL (fzL fzI)) (fzL fzI)) _), _, (gR3_1 _), _, rfl, ((fzR3 (fzL (fzL fzI)) (fzL (fzL fzI)) (fzL fzI)) _), _, (gR3_2 _), rfl, bindK H fun w_ h1_ H => ?_⟩
  obtain ⟨r, tape1⟩ := w_
  refine ⟨tape, book.1, book.2.1, (consE rfl (consE (someE ((fzL (fzL fzI)) _)) (consE (someE ((fzL (fzL fzI)) _)) rfl))), _, h1_, (fun z => Bool.noConfusion z), _, _, rfl, ((fzL fzI) _), _, rfl, ((fzR3 (fzL (fzL fzI)) (fzL (fzL fzI)) (fzL fzI)) _), _, (gR3_3 _), _, rfl, _, (lenL _), bindK H fun r1 h2_ H => ⟨_, rfl, (rng_ok h2_).1, (rng_ok h2_).2, (List.map D.int r1), (rngE h2_), bindK H fun ys h6_ H => g_compQ (e' := D.int) rfl h6_ rfl ?_ ?_⟩⟩
  rotate_left
  · rintro deed K1 H
    refine ⟨_, rfl, (fzI _), _, rfl, ((fzL fzI) _), _, rfl, (cmpD_py cmpI ((fun _ => rfl) _) ((cmpI.ok) _)), ((cmpL cmpI false).cmpD (by decide) _), (decide (deed ∈ r)), (cmpI.in2F (fun _ => rfl) _ _), bindK H fun t h5_ H => k_ifP (e := D.int) h5_ ?_ (fun hb Q' J H => ?_) (fun hb Q' J H => ?_)⟩
    rotate_left
    · exact ⟨_, rfl, ((fzR3 (fzL (fzL fzI)) (fzL (fzL fzI)) (fzL fzI)) _), _, (gR3_3 _), _, rfl, (fzI _), bindK H fun x h3_ H => ⟨_, (atL h3_), _, _, rfl, rfl, valK (e := D.int) H J⟩⟩
    · exact ⟨_, rfl, ((fzR3 (fzL (fzL fzI)) (fzL (fzL fzI)) (fzL fzI)) _), _, (gR3_3 _), _, rfl, (fzI _), bindK H fun x1 h4_ H => ⟨_, (atL h4_), valK (e := D.int) H J⟩⟩
    exact (wpSome H :) _ rfl
  refine ⟨_, (setEq (mapE ys)), _, _, rfl, ((fzL fzI) _), ?_⟩
  try refine nxI ?_
  refine envI (env' := [some ((eR3 true "cells" "spot" "left" (eL true D.int) D.int D.int) tape1), some ((eR3 false "causes" "clashes" "undone" (eL false (eL false D.int)) (eL false (eL false D.int)) (eL false D.int)) book), some ((eL false D.int) r), some ((eL false D.int) ys), none]) rfl ?_
  exact ⟨_, rfl, ((fzL fzI) _), _, rfl, ((eL true D.int) (byAbs ys)), rfl, _, rfl, _, rfl, (frzL_m fzI _), ((eT D.int) (byAbs ys)), rfl, (wpSome H :)⟩

theorem vc_law : VC_law := by
  rintro env Qt hl ⟨script, rfl, H⟩
  show tb_law _ [some ((eQ D.int) script), none, none, none, none, none, none, none, none, none, none, none, none]
  refine ⟨_, rfl, ((fzQ fzI) _), rfl, bindK H fun r h1_ H => ⟨script, (consE (someE ((fzQ fzI) _)) rfl), _, h1_, (fun z => Bool.noConfusion z), bindK H fun r1 h2_ H => ⟨_, rfl, (rng_ok h2_).1, (rng_ok h2_).2, (List.map D.int r1), (rngE h2_), bindK H fun fl h3_ H => ?_⟩⟩⟩
  have Ho4_ := H
  refine p_forF (fun (tape : ((List Int) × Int × Int)) (e_ : TT.Env) => ∃ j j1 j2 j3 j4 j5 j6 j7 j8 : Option D, e_ = [some ((eQ D.int) script), some ((eR3 true "cells" "spot" "left" (eL true D.int) D.int D.int) tape), j, j1, j2, j3, j4, j5, j6, j7, j8, none, none]) rfl h3_ ⟨_, _, _, _, _, _, _, _, _, rfl⟩ ?_ ?_
  rotate_left
  · rintro turn tape _ K ⟨j, j1, j2, j3, j4, j5, j6, j7, j8, rfl⟩ H
    refine of_gNm ?_
    refine ⟨⟨_, rfl⟩, ⟨_, rfl⟩, ⟨_, rfl⟩, rfl, bindK H fun w_ h5_ H => ?_⟩
    obtain ⟨r2, tape1⟩ := w_
    refine ⟨tape, 10, (consE rfl (consE (someE (fzI _)) rfl)), _, h5_, (fun z => Bool.noConfusion z), ⟨_, rfl⟩, rfl, bindK H fun w_ h6_ H => ?_⟩
    obtain ⟨r3, tape2⟩ := w_
    refine ⟨tape1, 20, (consE rfl (consE (someE (fzI _)) rfl)), _, h6_, (fun z => Bool.noConfusion z), _, rfl, (fzI _), _, _, rfl, rfl, _, rfl, k_if (e := D.int) (x := 60) (y := 5) ?_ (fun hb Q' J => ?_) (fun hb Q' J => ?_)⟩
    rotate_left
    · exact J
    · exact J
    refine ⟨((eL true D.int) [r2, r3, (if (decide (turn = 0)) = true then 60 else 5)]), rfl, rfl, bindK H fun w_ h7_ H => ?_⟩
    obtain ⟨r4, tape3⟩ := w_
    refine ⟨Int, D.int, (eL false D.int), (seL fzI), fzI, tape2, [r2, r3, (if (decide (turn = 0)) = true then 60 else 5)], (consE rfl (consE (someE ((fzL fzI) _)) rfl)), _, h7_, (fun z => Bool.noConfusion z), rfl, bindK H fun w_ h8_ H => ?_⟩
    obtain ⟨r5, tape4⟩ := w_
    refine ⟨tape3, r4, (consE rfl (consE (someE (fzI _)) rfl)), _, h8_, (fun z => Bool.noConfusion z), _, _, rfl, ((fzR3 (fzL (fzL fzI)) (fzL (fzL fzI)) (fzL fzI)) _), bindK H fun r6 h9_ H => ⟨_, rfl, (rng_ok h9_).1, (rng_ok h9_).2, (List.map D.int r6), (rngE h9_), bindK H fun w_ h11_ H => ?_⟩⟩
    obtain ⟨ys, tape6⟩ := w_
    refine g_compM (e' := (eT D.int)) (fun (s_ : ((List Int) × Int × Int)) (e_ : TT.Env) => match s_ with | tape6 => e_ = [some ((eQ D.int) script), some ((eR3 true "cells" "spot" "left" (eL true D.int) D.int D.int) tape6), some (D.int turn), some ((eR3 false "causes" "clashes" "undone" (eL false (eL false D.int)) (eL false (eL false D.int)) (eL false D.int)) r5), j2, j3, j4, j5, j6, j7, j8, none, none]) rfl h11_ rfl ?_ ?_
    rotate_left
    · rintro k tape6 _ K1 rfl H
      refine ⟨⟨_, rfl⟩, _, rfl, ((fzR3 (fzL (fzL fzI)) (fzL (fzL fzI)) (fzL fzI)) _), rfl, bindK H fun w_ h12_ H => ?_⟩
      obtain ⟨r8, tape7⟩ := w_
      exact ⟨tape6, r5, (consE rfl (consE (someE ((fzR3 (fzL (fzL fzI)) (fzL (fzL fzI)) (fzL fzI)) _)) rfl)), _, h12_, (fun z => Bool.noConfusion z), (wpSome H :) _ rfl⟩
    rintro _ rfl
    refine ⟨_, (setEq (mapE ys)), ?_⟩
    try refine nxI ?_
    refine envI (env' := [some ((eQ D.int) script), some ((eR3 true "cells" "spot" "left" (eL true D.int) D.int D.int) tape6), some (D.int turn), some ((eR3 false "causes" "clashes" "undone" (eL false (eL false D.int)) (eL false (eL false D.int)) (eL false D.int)) r5), some ((eL true (eT D.int)) ys), j3, j4, j5, j6, j7, j8, none, none]) rfl ?_
    refine ⟨⟨_, rfl⟩, _, rfl, _, rfl, bindK H fun x h13_ H => ⟨_, (atL h13_), ((fzT fzI) _), ((eL true (eT D.int)) [x]), rfl, bindK H fun zs h14_ H => ⟨_, _, rfl, rfl, (frzL_m (fzT fzI) _), (rep_ok (e := (eT D.int)) h14_).1, (rep_ok (e := (eT D.int)) h14_).2.1, (rep_ok (e := (eT D.int)) h14_).2.2, ((eL true (eT D.int)) zs), (repE h14_), bindK H fun zs1 h15_ H => ⟨_, _, _, _, rfl, rfl, (frzL_m (fzT fzI) _), (frzL_m (fzT fzI) _), (cat_le h15_), ((eL true (eT D.int)) zs1), (catE h15_), rfl, bindK H fun w_ h16_ H => ?_⟩⟩⟩⟩
    obtain ⟨r9, tape8⟩ := w_
    refine ⟨(List Int), (eT D.int), (eL false (eT D.int)), (seL (fzT fzI)), (fzT fzI), tape6, zs1, (consE rfl (consE (someE ((fzL (fzT fzI)) _)) rfl)), _, h16_, (fun z => Bool.noConfusion z), ⟨_, rfl⟩, bindK H fun some_ h17_ H => (setOE (e := (eT D.int)) h17_).elim fun j_ hj_ => ⟨_, _, j_, rfl, rfl, hj_.1, _, (setEq hj_.2), _, _, rfl, ((fzL (fzT fzI)) _), bindK H fun w_ h18_ H => ?_⟩⟩
    obtain ⟨u, u1, u2⟩ := w_
    refine ⟨_, [(eT D.int) u, (eT D.int) u1, (eT D.int) u2], (unp3_d h18_), rfl, _, _, rfl, _, _, rfl, _, _, rfl, rfl, ?_⟩
    try refine nxI ?_
    refine envI (env' := [some ((eQ D.int) script), some ((eR3 true "cells" "spot" "left" (eL true D.int) D.int D.int) tape8), some (D.int turn), some ((eR3 false "causes" "clashes" "undone" (eL false (eL false D.int)) (eL false (eL false D.int)) (eL false D.int)) r5), some ((eL false (eT D.int)) some_), some ((eT D.int) u), some ((eT D.int) u1), some ((eT D.int) u2), j6, j7, j8, none, none]) rfl ?_
    refine ⟨_, rfl, ((fzT fzI) _), _, rfl, ((fzT fzI) _), ((e2 (eT D.int) (eT D.int)) (u, u1)), rfl, _, rfl, ((fzT fzI) _), _, rfl, ((fzT fzI) _), ((e2 (eT D.int) (eT D.int)) (u1, u2)), rfl, _, rfl, ((fzT fzI) _), _, rfl, ((fzT fzI) _), ((e2 (eT D.int) (eT D.int)) (u, u2)), rfl, ((eL true (e2 (eT D.int) (eT D.int))) [(u, u1), (u1, u2), (u, u2)]), rfl, _, _, rfl, ((fzL (fz2 (fzT fzI) (fzT fzI))) _), _, rfl, ((fzL (fz2 (fzT fzI) (fzT fzI))) _), (List.map (e2 (eT D.int) (eT D.int)) [(u, u1), (u1, u2), (u, u2)]), rfl, (List.map (e2 (eT D.int) (eT D.int)) [(u, u1), (u1, u2), (u, u2)]), (frzL_e (fz2 (fzT fzI) (fzT fzI)) _), bindK H fun ys2 h23_ H => g_compQ (e' := D.int) rfl h23_ rfl ?_ ?_⟩
    rotate_left
    · rintro a K1 H
      refine ⟨_, rfl, ((fz2 (fzT fzI) (fzT fzI)) _), _, (ix2_0 _), _, rfl, _, (lenT _), bindK H fun r10 h19_ H => ⟨_, rfl, (rng_ok h19_).1, (rng_ok h19_).2, (List.map D.int r10), (rngE h19_), bindK H fun ys1 h22_ H => g_compP (e' := D.int) rfl h22_ rfl ?_ ?_⟩⟩
      rotate_left
      · rintro k1 K1 K0 H
        refine ⟨_, rfl, ((fz2 (fzT fzI) (fzT fzI)) _), _, (ix2_0 _), _, rfl, (fzI _), bindK H fun x1 h20_ H => ⟨_, (atT h20_), _, rfl, ((fz2 (fzT fzI) (fzT fzI)) _), _, (ix2_1 _), _, rfl, (fzI _), bindK H fun x2 h21_ H => ⟨_, (atT h21_), _, _, rfl, rfl, _, rfl, iteB (fun hb => ?_) (fun hb => ?_)⟩⟩⟩
        · have H := wpT hb H
          exact ⟨_, rfl, (fzI _), (wpSome H :) _ rfl⟩
        · have H := wpF hb H
          exact (wpSome H :) _ rfl
      exact ⟨((eL true D.int) ys1), (mapE ys1), _, rfl, _, (lenL _), (wpSome H :) _ rfl⟩
    refine ⟨_, (setEq (mapE ys2)), _, _, rfl, ((fzL fzI) _), _, rfl, ((fzT fzI) _), _, rfl, ((fzT fzI) _), rfl, bindK H fun r11 h24_ H => ⟨u, u1, (consE (someE ((fzT fzI) _)) (consE (someE ((fzT fzI) _)) rfl)), _, h24_, (fun z => Bool.noConfusion z), _, rfl, ((fzT fzI) _), _, rfl, ((fzT fzI) _), rfl, bindK H fun r12 h25_ H => ⟨u1, u2, (consE (someE ((fzT fzI) _)) (consE (someE ((fzT fzI) _)) rfl)), _, h25_, (fun z => Bool.noConfusion z), _, rfl, ((fzT fzI) _), _, rfl, ((fzT fzI) _), rfl, bindK H fun r13 h26_ H => ⟨u2, u, (consE (someE ((fzT fzI) _)) (consE (someE ((fzT fzI) _)) rfl)), _, h26_, (fun z => Bool.noConfusion z), ((eL true D.int) [r11, r12, r13]), rfl, _, rfl, ((fzL fzI) _), (cmpD_py (cmpL cmpI false) ((pyLL (fun _ => rfl)) _) ((okL (cmpI.ok)) _)), (cmpD_py (cmpL cmpI false) ((fun _ => rfl) _) (((cmpL cmpI false).ok) _)), (!decide ([r11, r12, r13] = ys2)), ((cmpL cmpI false).eqN ((pyLL (fun _ => rfl)) _) ((fun _ => rfl) _)), bindK H fun t h28_ H => k_orP h28_ ?_ fun hb Q' J H => ?_⟩⟩⟩⟩
    rotate_left
    · exact ⟨_, rfl, ((fzT fzI) _), _, rfl, ((fzT fzI) _), rfl, bindK H fun r14 h27_ H => ⟨u, u1, (consE (someE ((fzT fzI) _)) (consE (someE ((fzT fzI) _)) rfl)), _, h27_, (fun z => Bool.noConfusion z), _, _, _, false, rfl, rfl, (by decide +kernel), _, rfl, valB H J⟩⟩
    refine iteB (fun hb => ?_) (fun hb => ?_)
    · have H := wpT hb H
      have H := retK H
      rw [H] at Ho4_
      have H := Ho4_
      exact (wpSome H :)
    · have H := wpF hb H
      refine ⟨_, rfl, ((fzT fzI) _), _, rfl, ((fzT fzI) _), _, rfl, ((fzT fzI) _), rfl, bindK H fun r15 h29_ H => ⟨u, u1, u2, (consE (someE ((fzT fzI) _)) (consE (someE ((fzT fzI) _)) (consE (someE ((fzT fzI) _)) rfl))), _, h29_, (fun z => Bool.noConfusion z), bindK H fun text h30_ H => ⟨_, rfl, (cmpD_py cmpB ((fun _ => rfl) _) ((cmpB.ok) _)), _, h30_, _, rfl, ((fzL fzI) _), bindK H fun x3 h31_ H => ⟨_, (atL h31_), _, rfl, ((fzL fzI) _), bindK H fun x4 h32_ H => ⟨_, (atL h32_), _, _, rfl, rfl, _, rfl, ((fzL fzI) _), bindK H fun x5 h33_ H => ⟨_, (atL h33_), _, _, rfl, rfl, (D.bl (decide ((x3 + x4) = x5))), rfl, bindK H fun text1 h34_ H => ⟨_, rfl, (cmpD_py cmpB ((fun _ => rfl) _) ((cmpB.ok) _)), _, h34_, _, _, rfl, rfl, _, rfl, iteB (fun hb => ?_) (fun hb => ?_)⟩⟩⟩⟩⟩⟩⟩
      · have H := wpT hb H
        have H := retK H
        rw [H] at Ho4_
        have H := Ho4_
        exact (wpSome H :)
      · have H := wpF hb H
        refine ⟨_, rfl, ((fzT fzI) _), _, rfl, _, (lenT _), bindK H fun r16 h35_ H => ⟨_, rfl, (rng_ok h35_).1, (rng_ok h35_).2, (List.map D.int r16), (rngE h35_), bindK H fun ys3 h40_ H => g_compQ (e' := D.int) rfl h40_ rfl ?_ ?_⟩⟩
        rotate_left
        · rintro k2 K1 H
          exact ⟨_, rfl, ((fzT fzI) _), _, rfl, (fzI _), bindK H fun x6 h36_ H => ⟨_, (atT h36_), _, rfl, ((fzT fzI) _), _, rfl, (fzI _), bindK H fun x7 h37_ H => ⟨_, (atT h37_), _, rfl, ((fzT fzI) _), _, rfl, (fzI _), bindK H fun x8 h38_ H => ⟨_, (atT h38_), ((eL true D.int) [x6, x7, x8]), rfl, _, rfl, _, _, rfl, ((eL true D.int) (sortI [x6, x7, x8])), rfl, bindK H fun x9 h39_ H => ⟨_, (atL h39_), (wpSome H :) _ rfl⟩⟩⟩⟩⟩
        refine ⟨((eL true D.int) ys3), (mapE ys3), _, rfl, _, rfl, (frzL_m fzI _), ((eT D.int) ys3), rfl, _, rfl, ((fzT fzI) _), _, rfl, ((fzT fzI) _), _, rfl, ((fzT fzI) _), rfl, bindK H fun r17 h41_ H => ⟨u, u1, u2, (consE (someE ((fzT fzI) _)) (consE (someE ((fzT fzI) _)) (consE (someE ((fzT fzI) _)) rfl))), _, h41_, (fun z => Bool.noConfusion z), bindK H fun text2 h42_ H => ⟨_, rfl, (cmpD_py (cmpT cmpI) ((fun _ => rfl) _) (((cmpT cmpI).ok) _)), _, h42_, _, rfl, ((fzT fzI) _), bindK H fun text3 h43_ H => ⟨_, rfl, (cmpD_py (cmpT cmpI) ((fun _ => rfl) _) (((cmpT cmpI).ok) _)), _, h43_, _, _, rfl, rfl, _, rfl, bindK H fun t2 h47_ H => k_orP h47_ ?_ fun hb Q' J H => ?_⟩⟩⟩⟩
        rotate_left
        · refine ⟨_, rfl, ((fzT fzI) _), _, rfl, ((fzT fzI) _), _, rfl, ((fzT fzI) _), rfl, bindK H fun r18 h44_ H => ⟨u2, u, u1, (consE (someE ((fzT fzI) _)) (consE (someE ((fzT fzI) _)) (consE (someE ((fzT fzI) _)) rfl))), _, h44_, (fun z => Bool.noConfusion z), _, rfl, ((fzT fzI) _), (cmpD_py (cmpT cmpI) ((fun _ => rfl) _) (((cmpT cmpI).ok) _)), (cmpD_py (cmpT cmpI) ((fun _ => rfl) _) (((cmpT cmpI).ok) _)), (!decide (r18 = ys3)), ((cmpT cmpI).eqN ((fun _ => rfl) _) ((fun _ => rfl) _)), bindK H fun t1 h46_ H => k_orP h46_ ?_ fun hb Q' J H => ?_⟩⟩
          rotate_left
          · exact ⟨_, rfl, ((fzT fzI) _), _, rfl, ((fzT fzI) _), _, rfl, ((fzT fzI) _), rfl, bindK H fun r19 h45_ H => ⟨u1, u, u2, (consE (someE ((fzT fzI) _)) (consE (someE ((fzT fzI) _)) (consE (someE ((fzT fzI) _)) rfl))), _, h45_, (fun z => Bool.noConfusion z), _, rfl, ((fzT fzI) _), (cmpD_py (cmpT cmpI) ((fun _ => rfl) _) (((cmpT cmpI).ok) _)), (cmpD_py (cmpT cmpI) ((fun _ => rfl) _) (((cmpT cmpI).ok) _)), (!decide (r19 = ys3)), ((cmpT cmpI).eqN ((fun _ => rfl) _) ((fun _ => rfl) _)), valB H J⟩⟩
          exact valB H J
        refine iteB (fun hb => ?_) (fun hb => ?_)
        · have H := wpT hb H
          have H := retK H
          rw [H] at Ho4_
          have H := Ho4_
          exact (wpSome H :)
        · have H := wpF hb H
          refine ⟨_, rfl, ((fzT fzI) _), _, rfl, ((fzT fzI) _), _, rfl, ((fzT fzI) _), rfl, bindK H fun r20 h48_ H => ⟨u, ys3, u1, (consE (someE ((fzT fzI) _)) (consE (someE ((fzT fzI) _)) (consE (someE ((fzT fzI) _)) rfl))), _, h48_, (fun z => Bool.noConfusion z), _, rfl, bindK H fun t4 h52_ H => k_orP h52_ ?_ fun hb Q' J H => ?_⟩⟩
          rotate_left
          · refine ⟨_, rfl, ((fzT fzI) _), _, rfl, ((fzT fzI) _), _, rfl, ((fzT fzI) _), rfl, bindK H fun r21 h49_ H => ⟨u1, ys3, u2, (consE (someE ((fzT fzI) _)) (consE (someE ((fzT fzI) _)) (consE (someE ((fzT fzI) _)) rfl))), _, h49_, (fun z => Bool.noConfusion z), _, rfl, bindK H fun t3 h51_ H => k_orP h51_ ?_ fun hb Q' J H => ?_⟩⟩
            rotate_left
            · exact ⟨_, rfl, ((fzT fzI) _), _, rfl, ((fzT fzI) _), _, rfl, ((fzT fzI) _), rfl, bindK H fun r22 h50_ H => ⟨u2, ys3, u, (consE (someE ((fzT fzI) _)) (consE (someE ((fzT fzI) _)) (consE (someE ((fzT fzI) _)) rfl))), _, h50_, (fun z => Bool.noConfusion z), _, rfl, valB H J⟩⟩
            exact valB H J
          refine iteB (fun hb => ?_) (fun hb => ?_)
          · have H := wpT hb H
            have H := retK H
            rw [H] at Ho4_
            have H := Ho4_
            exact (wpSome H :)
          · have H := wpF hb H
            exact goK H ⟨_, _, _, _, _, _, _, _, _, rfl⟩
  rintro tape hfl_ _ ⟨j, j1, j2, j3, j4, j5, j6, j7, j8, rfl⟩
  rw [hfl_] at Ho4_
  have H := Ho4_
  exact (wpSome H :)
end K14

/-! meetrow_k14_between_and_meet: derivations; printed by gen.py -/
namespace K14
open PySem PySem.Spec PyProof.Rows L2 TT
def top (i : Nat) : Stmt := PySem.Challenge.pw_meetrow_k14_between_and_meet.main.body.getD i (.Pass ⟨0, 0, 0, 0⟩)
structure Gs (mg : Str → Option Value) : Prop where
  abs : mg "abs" = none
  bool : mg "bool" = none
  int : mg "int" = none
  isinstance : mg "isinstance" = none
  len : mg "len" = none
  list : mg "list" = none
  range : mg "range" = none
  repr : mg "repr" = none
  sorted : mg "sorted" = none
  sum : mg "sum" = none
  tuple : mg "tuple" = none
  zip : mg "zip" = none
abbrev s_apart : Stmt := top 1
theorem sc_apart : FnScope N_apart P_apart (defScope s_apart) := ⟨rfl, rfl, rfl, by decide +kernel, rfl, by decide +kernel, by decide +kernel⟩
abbrev cs_apart_1 : Scope := { kind := .function, names := [(PySem.Str.ofString ".0", .local), (PySem.Str.ofString "side", .local), (PySem.Str.ofString "another", .local)], isGenerator := false, isCoroutine := false, more := [] }
theorem ok_apart {P : Program} {w : World} {K : PySem.W.Frag} {mg : Str → Option Value} {base : Heap} {f : Addr} {fd : FuncData} (F : FunD K "apart" "apart" (defArgs s_apart) (defBody s_apart) (defScope s_apart) [] [] f fd) (G : Gs mg)
     (vc : VC_apart) : FnOk P w K mg base CX0 1 f fd P_apart (liftSp K 2 sp_apart) :=
  fn_ok (k := 0) (io := []) F sc_apart (fun cdv A outer s H E hr =>
    (xs_one (s_ret (x_callB c_len (by rfl) G.len (by decide +kernel) (xa_cons (x_eq (x_comp rfl sc_apart.nd (xi_eq (xi_zip2 (by rfl) G.zip (xa_cons (x_imm (pv 0)) (xa_cons (x_imm (pv 1)) xa_nil)))) (blkOk_by (N := N_apart) (sc := defScope s_apart) (scope := cs_apart_1) (own := [("side", 2), ("another", 3)]) (by decide +kernel)) (by decide) (fun _ _ _ _ _ => (pg_tup rfl (pgs_cons (pg_name (i := 2) sc_apart.nd rfl (Or.inl rfl)) (pgs_cons (pg_name (i := 3) sc_apart.nd rfl (Or.inl rfl)) pgs_nil)))) (gok_tup (gsok_cons (gok_name 2) (gsok_cons (gok_name 3) gsok_nil))) (fun _ _ _ _ _ => (xts_one (xt_cmp o_neI (x_imm (pv 2)) (x_imm (pv 3))))) (fun _ _ _ _ _ => (x_imm (pv 2))))) xa_nil))))) rfl vc
abbrev s_is_between : Stmt := top 2
theorem sc_is_between : FnScope N_is_between P_is_between (defScope s_is_between) := ⟨rfl, rfl, rfl, by decide +kernel, rfl, by decide +kernel, by decide +kernel⟩
theorem ok_is_between {P : Program} {w : World} {K : PySem.W.Frag} {mg : Str → Option Value} {base : Heap} {f : Addr} {fd : FuncData} (F : FunD K "is_between" "is_between" (defArgs s_is_between) (defBody s_is_between) (defScope s_is_between) [] [] f fd) (G : Gs mg)
    (G_apart : FnAt P w K mg base "apart" 1 P_apart sp_apart) (vc : VC_is_between) : FnOk P w K mg base CX0 2 f fd P_is_between (liftSp K 3 sp_is_between) :=
  fn_ok (k := 1) (io := []) F sc_is_between (fun cdv A outer s H E hr =>
    (xs_one (s_ret (x_eq (x_cmp o_eqI (x_op o_add (x_fn false G_apart (hr.mono (by decide)) (by rfl) (xc_val (x_imm (pv 0)) (xc_val (x_imm (pv 1)) xc_nil))) (x_fn false G_apart (hr.mono (by decide)) (by rfl) (xc_val (x_imm (pv 1)) (xc_val (x_imm (pv 2)) xc_nil)))) (x_fn false G_apart (hr.mono (by decide)) (by rfl) (xc_val (x_imm (pv 0)) (xc_val (x_imm (pv 2)) xc_nil)))))))) rfl vc
abbrev s_meet : Stmt := top 3
theorem sc_meet : FnScope N_meet P_meet (defScope s_meet) := ⟨rfl, rfl, rfl, by decide +kernel, rfl, by decide +kernel, by decide +kernel⟩
abbrev cs_meet_1 : Scope := { kind := .function, names := [(PySem.Str.ofString ".0", .local), (PySem.Str.ofString "a", .local), (PySem.Str.ofString "b", .local), (PySem.Str.ofString "c", .local)], isGenerator := false, isCoroutine := false, more := [] }
theorem ok_meet {P : Program} {w : World} {K : PySem.W.Frag} {mg : Str → Option Value} {base : Heap} {f : Addr} {fd : FuncData} (F : FunD K "meet" "meet" (defArgs s_meet) (defBody s_meet) (defScope s_meet) [] [] f fd) (G : Gs mg)
     (vc : VC_meet) : FnOk P w K mg base CX0 1 f fd P_meet (liftSp K 3 sp_meet) :=
  fn_ok (k := 0) (io := []) F sc_meet (fun cdv A outer s H E hr =>
    (xs_one (s_ret (x_eq (x_callTy c_tuple (by rfl) G.tuple (by decide +kernel) (xa_cons (x_eq (x_comp rfl sc_meet.nd (xi_eq (xi_zip3 (by rfl) G.zip (xa_cons (x_imm (pv 0)) (xa_cons (x_imm (pv 1)) (xa_cons (x_imm (pv 2)) xa_nil))))) (blkOk_by (N := N_meet) (sc := defScope s_meet) (scope := cs_meet_1) (own := [("a", 3), ("b", 4), ("c", 5)]) (by decide +kernel)) (by decide) (fun _ _ _ _ _ => (pg_tup rfl (pgs_cons (pg_name (i := 3) sc_meet.nd rfl (Or.inl rfl)) (pgs_cons (pg_name (i := 4) sc_meet.nd rfl (Or.inl rfl)) (pgs_cons (pg_name (i := 5) sc_meet.nd rfl (Or.inl rfl)) pgs_nil))))) (gok_tup (gsok_cons (gok_name 3) (gsok_cons (gok_name 4) (gsok_cons (gok_name 5) gsok_nil)))) (fun _ _ _ _ _ => xts_nil) (fun _ _ _ _ _ => (x_if20 (xt_cmp (o_in (hu65 hr)) (x_imm (pv 3)) (x_eq (x_tup (xl_cons (x_imm (pv 4)) (xl_cons (x_imm (pv 5)) xl_nil))))) (x_imm (pv 3)) (x_imm (pv 4)))))) xa_nil)))))) rfl vc
abbrev s__law_begun : Stmt := top 5
theorem sc__law_begun : FnScope N__law_begun P__law_begun (defScope s__law_begun) := ⟨rfl, rfl, rfl, by decide +kernel, rfl, by decide +kernel, by decide +kernel⟩
theorem ok__law_begun {P : Program} {w : World} {K : PySem.W.Frag} {mg : Str → Option Value} {base : Heap} {f : Addr} {fd : FuncData} (F : FunD K "_law_begun" "_law_begun" (defArgs s__law_begun) (defBody s__law_begun) (defScope s__law_begun) [] [] f fd) (G : Gs mg)
     (vc : VC__law_begun) : FnOk P w K mg base CX0 1 f fd P__law_begun (liftSp K 1 sp__law_begun) :=
  fn_ok (k := 0) (io := []) F sc__law_begun (fun cdv A outer s H E hr =>
    (xs_one (s_ret (x_eq (x_disp (xd_cons x_str (x_orT20 (x_eq (x_slice (x_imm (pv 0)) xo_none (xo_some x_int))) (x_one (x_eq (x_lst (xl_cons x_int xl_nil))))) (xd_cons x_str x_int (xd_cons x_str x_int xd_nil)))))))) rfl vc
abbrev s__law_draw : Stmt := top 6
theorem sc__law_draw : FnScope N__law_draw P__law_draw (defScope s__law_draw) := ⟨rfl, rfl, rfl, by decide +kernel, rfl, by decide +kernel, by decide +kernel⟩
theorem ok__law_draw {P : Program} {w : World} {K : PySem.W.Frag} {mg : Str → Option Value} {base : Heap} {f : Addr} {fd : FuncData} (F : FunD K "_law_draw" "_law_draw" (defArgs s__law_draw) (defBody s__law_draw) (defScope s__law_draw) [] [] f fd) (G : Gs mg)
     (vc : VC__law_draw) : FnOk P w K mg base CX0 1 f fd P__law_draw (liftSp K 2 sp__law_draw) :=
  fn_ok (k := 0) (io := [0]) F sc__law_draw (fun cdv A outer s H E hr =>
    (xs_cons (s_if (xt_cmp o_lt (x_toimm (x_dget (hu_of hr) (x_view (pv 0)) x_str)) (x_imm (pv 1))) (xs_cons (s_par (i := 2) (j := 3) rfl sc__law_draw.nd rfl rfl (by decide) rfl rfl (xl_cons (x_toimm (x_dget (hu_of hr) (x_view (pv 0)) x_str)) (xl_cons (x_callB c_len (by rfl) G.len (by decide +kernel) (xa_cons (x_dget (hu_of hr) (x_view (pv 0)) x_str) xa_nil)) xl_nil)))
    (xs_cons (s_asgT (x_eq (x_tup (xl_cons (x_toimm (x_ix (x_dget (hu_of hr) (x_view (pv 0)) x_str) (x_op o_mod (x_callTy c_int (by rfl) G.int (by decide +kernel) (xa_cons (x_imm (pv 2)) xa_nil)) (x_imm (pv 3))))) (xl_cons (x_op o_add (x_imm (pv 2)) x_int) xl_nil)))) (ga_tup rfl (gas_cons (ga_name (i := 4) sc__law_draw.nd rfl (Or.inl rfl)) (gas_cons (ga_dput (hu_of hr) (pv 0) x_str) gas_nil))))
    (xs_cons (s_dput (hu_of hr) (pv 0) (x_op o_mod (x_callTy c_int (by rfl) G.int (by decide +kernel) (xa_cons (x_eq (x_op o_powW (x_op o_add (x_op o_add (x_op o_mod (x_callTy c_int (by rfl) G.int (by decide +kernel) (xa_cons (x_imm (pv 4)) xa_nil)) x_int) (x_op o_mul x_int (x_imm (pv 2)))) x_int) x_int)) xa_nil)) (x_op o_add (x_eq (x_op o_powW x_int x_int)) x_int)) x_str)
    (xs_one (s_if (XW.pt (xw_and2 (xt_cmp o_ge (x_imm (pv 4)) (x_eq (x_op o_powW x_int x_int))) (xw_and1 (xt_cmp o_lt (x_imm (pv 2)) (x_imm (pv 3)))))) (xs_one (s_dput (hu_of hr) (pv 0) (x_op o_sub (x_imm (pv 4)) (x_eq (x_op o_powW x_int x_int))) x_str)) xs_nil))))) xs_nil)
    (xs_cons (s_asgT (x_eq (x_tup (xl_cons (x_op o_mod (x_callTy c_int (by rfl) G.int (by decide +kernel) (xa_cons (x_toimm (x_dget (hu_of hr) (x_view (pv 0)) x_str)) xa_nil)) (x_imm (pv 1))) (xl_cons (x_op o_fdivW (x_toimm (x_dget (hu_of hr) (x_view (pv 0)) x_str)) (x_imm (pv 1))) xl_nil)))) (ga_tup rfl (gas_cons (ga_name (i := 5) sc__law_draw.nd rfl (Or.inl rfl)) (gas_cons (ga_dput (hu_of hr) (pv 0) x_str) gas_nil))))
    (xs_one (s_ret (x_imm (pv 5))))))) rfl vc
abbrev s__law_pick : Stmt := top 7
theorem sc__law_pick : FnScope N__law_pick P__law_pick (defScope s__law_pick) := ⟨rfl, rfl, rfl, by decide +kernel, rfl, by decide +kernel, by decide +kernel⟩
theorem ok__law_pick {P : Program} {w : World} {K : PySem.W.Frag} {mg : Str → Option Value} {base : Heap} {f : Addr} {fd : FuncData} (F : FunD K "_law_pick" "_law_pick" (defArgs s__law_pick) (defBody s__law_pick) (defScope s__law_pick) [] [] f fd) (G : Gs mg)
    (G__law_draw : FnAt P w K mg base "_law_draw" 1 P__law_draw sp__law_draw) (vc : VC__law_pick) : FnOk P w K mg base CX0 2 f fd P__law_pick (liftSp K 2 sp__law_pick) :=
  fn_ok (k := 1) (io := [0]) F sc__law_pick (fun cdv A outer s H E hr =>
    (xs_one (s_ret (x_ix (x_imm (pv 1)) (x_fn false G__law_draw (hr.mono (by decide)) (by rfl) (xc_io (pv 0) (xc_val (x_callB c_len (by rfl) G.len (by decide +kernel) (xa_cons (x_imm (pv 1)) xa_nil)) xc_nil))))))) rfl vc
abbrev s__law_done : Stmt := top 8
theorem sc__law_done : FnScope N__law_done P__law_done (defScope s__law_done) := ⟨rfl, rfl, rfl, by decide +kernel, rfl, by decide +kernel, by decide +kernel⟩
abbrev cs__law_done_1 : Scope := { kind := .function, names := [(PySem.Str.ofString ".0", .local), (PySem.Str.ofString "_law_one", .local), (PySem.Str.ofString "_law_done_here", .free)], isGenerator := false, isCoroutine := false, more := [] }
abbrev cs__law_done_2 : Scope := { kind := .function, names := [(PySem.Str.ofString ".0", .local), (PySem.Str.ofString "_law_one", .local), (PySem.Str.ofString "_law_done_here", .free)], isGenerator := false, isCoroutine := false, more := [] }
theorem ok__law_done {P : Program} {w : World} {K : PySem.W.Frag} {mg : Str → Option Value} {base : Heap} {f : Addr} {fd : FuncData} (F : FunD K "_law_done" "_law_done" (defArgs s__law_done) (defBody s__law_done) (defScope s__law_done) [] [] f fd) (G : Gs mg)
    (G__law_draw : FnAt P w K mg base "_law_draw" 1 P__law_draw sp__law_draw) (G__law_pick : FnAt P w K mg base "_law_pick" 2 P__law_pick sp__law_pick) (vc : VC__law_done) : FnOk P w K mg base CX0 3 f fd P__law_done (liftSp K 3 sp__law_done) :=
  fn_ok (k := 2) (io := [0]) F sc__law_done (fun cdv A outer s H E hr =>
    (xs_cons (s_asgT (x_eq (x_tup (xl_cons (x_eq (x_lst xl_nil)) (xl_cons (x_fn false G__law_pick (hr.mono (by decide)) (by rfl) (xc_io (pv 0) (xc_val (x_eq (x_lst (xl_cons x_int (xl_cons x_int (xl_cons x_int xl_nil))))) xc_nil))) xl_nil)))) (ga_tup rfl (gas_cons (ga_name (i := 3) sc__law_done.nd rfl (Or.inr rfl)) (gas_cons (ga_name (i := 4) sc__law_done.nd rfl (Or.inl rfl)) gas_nil))))
    (xs_cons (s_for PassesOwn.never rfl (xi_eq (xi_range1 (by rfl) G.range (xa_cons (x_callB c_len (by rfl) G.len (by decide +kernel) (xa_cons (x_imm (pv 1)) xa_nil)) xa_nil))) (pg_name (i := 5) sc__law_done.nd rfl (Or.inl rfl)) (gok_name 5) (xs_cons (s_set (i := 6) sc__law_done.nd rfl (Or.inl rfl) (x_eq (x_cmp (o_eq hr.units) (x_eq (x_comp rfl sc__law_done.nd (xi_eq (xi_list (x_ix (x_imm (pv 1)) (x_imm (pv 5))))) (blkOk_by (N := N__law_done) (sc := defScope s__law_done) (scope := cs__law_done_1) (own := [("_law_one", 7)]) (by decide +kernel)) (by decide) (fun _ _ _ _ _ => (pg_name (i := 7) sc__law_done.nd rfl (Or.inl rfl))) (gok_name 7) (fun _ _ _ _ _ => (xts_one (xt_cmp (o_nin (hu65 hr)) (x_imm (pv 7)) (x_view (pv 3))))) (fun _ _ _ _ _ => (x_imm (pv 7))))) (x_eq (x_lst xl_nil)))))
    (xs_cons (s_set (i := 6) sc__law_done.nd rfl (Or.inl rfl) (x_and2 (x_imm (pv 6)) (x_one (x_eq (x_cmp (o_eq hr.units) (x_eq (x_comp rfl sc__law_done.nd (xi_eq (xi_list (x_ix (x_imm (pv 2)) (x_imm (pv 5))))) (blkOk_by (N := N__law_done) (sc := defScope s__law_done) (scope := cs__law_done_2) (own := [("_law_one", 7)]) (by decide +kernel)) (by decide) (fun _ _ _ _ _ => (pg_name (i := 7) sc__law_done.nd rfl (Or.inl rfl))) (gok_name 7) (fun _ _ _ _ _ => (xts_one (xt_cmp (o_in (hu65 hr)) (x_imm (pv 7)) (x_view (pv 3))))) (fun _ _ _ _ _ => (x_imm (pv 7))))) (x_eq (x_lst xl_nil)))))))
    (xs_one (s_if (XW.pt (xw_and2 (xt_cmp o_gt (x_fn false G__law_draw (hr.mono (by decide)) (by rfl) (xc_io (pv 0) (xc_val (x_op o_add (x_imm (pv 4)) x_int) xc_nil))) x_int) (xw_and1 (xt_val (x_imm (pv 6)))))) (xs_one (s_expr (x_env (x_append (pv 3) (x_imm (pv 5)))))) xs_nil)))))
    (xs_one (s_ret (x_move (pv 3))))))) rfl vc
abbrev s__law_book : Stmt := top 9
theorem sc__law_book : FnScope N__law_book P__law_book (defScope s__law_book) := ⟨rfl, rfl, rfl, by decide +kernel, rfl, by decide +kernel, by decide +kernel⟩
abbrev cs__law_book_1 : Scope := { kind := .function, names := [(PySem.Str.ofString ".0", .local), (PySem.Str.ofString "_law_one", .local), (PySem.Str.ofString "_law_draw", .globalImplicit), (PySem.Str.ofString "_law_near", .free), (PySem.Str.ofString "_law_tape", .free)], isGenerator := false, isCoroutine := false, more := [] }
abbrev cs__law_book_2 : Scope := { kind := .function, names := [(PySem.Str.ofString ".0", .local), (PySem.Str.ofString "_law_one", .local), (PySem.Str.ofString "_law_book_here", .free)], isGenerator := false, isCoroutine := false, more := [] }
abbrev cs__law_book_3 : Scope := { kind := .function, names := [(PySem.Str.ofString ".0", .local), (PySem.Str.ofString "_law_one", .local), (PySem.Str.ofString "_law_some", .free)], isGenerator := false, isCoroutine := false, more := [] }
abbrev cs__law_book_4 : Scope := { kind := .function, names := [(PySem.Str.ofString ".0", .local), (PySem.Str.ofString "_law_one", .local), (PySem.Str.ofString "_law_draw", .globalImplicit), (PySem.Str.ofString "_law_far", .free), (PySem.Str.ofString "_law_some", .free), (PySem.Str.ofString "_law_tape", .free)], isGenerator := false, isCoroutine := false, more := [] }
theorem ok__law_book {P : Program} {w : World} {K : PySem.W.Frag} {mg : Str → Option Value} {base : Heap} {f : Addr} {fd : FuncData} (F : FunD K "_law_book" "_law_book" (defArgs s__law_book) (defBody s__law_book) (defScope s__law_book) [] [] f fd) (G : Gs mg)
    (G__law_done : FnAt P w K mg base "_law_done" 3 P__law_done sp__law_done) (G__law_draw : FnAt P w K mg base "_law_draw" 1 P__law_draw sp__law_draw) (G__law_pick : FnAt P w K mg base "_law_pick" 2 P__law_pick sp__law_pick) (vc : VC__law_book) : FnOk P w K mg base CX0 4 f fd P__law_book (liftSp K 2 sp__law_book) :=
  fn_ok (k := 3) (io := [0]) F sc__law_book (fun cdv A outer s H E hr =>
    (xs_cons (s_asgT (x_eq (x_tup (xl_cons (x_eq (x_disp (xd_cons x_str (x_eq (x_lst xl_nil)) (xd_cons x_str (x_eq (x_lst xl_nil)) (xd_cons x_str (x_eq (x_lst xl_nil)) xd_nil))))) (xl_cons (x_eq (x_listRg rfl (by rfl) G.list (xr_2 (by rfl) G.range x_int (x_op o_add (x_imm (pv 1)) x_int)))) xl_nil)))) (ga_tup rfl (gas_cons (ga_name (i := 2) sc__law_book.nd rfl (Or.inr rfl)) (gas_cons (ga_name (i := 3) sc__law_book.nd rfl (Or.inl rfl)) gas_nil))))
    (xs_cons (s_asgT (x_eq (x_tup (xl_cons (x_fn false G__law_pick (hr.mono (by decide)) (by rfl) (xc_io (pv 0) (xc_val (x_eq (x_lst (xl_cons x_int (xl_cons x_int (xl_cons x_int xl_nil))))) xc_nil))) (xl_cons (x_fn false G__law_pick (hr.mono (by decide)) (by rfl) (xc_io (pv 0) (xc_val (x_eq (x_lst (xl_cons x_int (xl_cons x_int (xl_cons x_int (xl_cons x_int xl_nil)))))) xc_nil))) xl_nil)))) (ga_tup rfl (gas_cons (ga_name (i := 4) sc__law_book.nd rfl (Or.inr rfl)) (gas_cons (ga_name (i := 5) sc__law_book.nd rfl (Or.inr rfl)) gas_nil))))
    (xs_cons (s_for PassesOwn.never rfl (xi_eq (xi_range1 (by rfl) G.range (xa_cons (x_imm (pv 1)) xa_nil))) (pg_name (i := 6) sc__law_book.nd rfl (Or.inl rfl)) (gok_name 6) (xs_cons (s_fz (i := 7) (s_set (i := 7) sc__law_book.nd rfl (Or.inl rfl) (x_fn true G__law_done (hr.mono (by decide)) (by rfl) (xc_io (pv 0) (xc_val (x_dget (hu_of hr) (x_view (pv 2)) x_str) (xc_val (x_dget (hu_of hr) (x_view (pv 2)) x_str) xc_nil))))))
    (xs_cons (s_fz (i := 8) (s_set (i := 8) sc__law_book.nd rfl (Or.inr rfl) (x_eq (x_comp rfl sc__law_book.nd (xi_eq (xi_list (x_imm (pv 7)))) (blkOk_by (N := N__law_book) (sc := defScope s__law_book) (scope := cs__law_book_1) (own := [("_law_one", 9)]) (by decide +kernel)) (by decide) (fun _ _ _ _ _ => (pg_name (i := 9) sc__law_book.nd rfl (Or.inl rfl))) (gok_name 9) (fun _ _ _ _ _ => (xts_one (xt_cmp o_eqI (x_fn false G__law_draw (hr.mono (by decide)) (by rfl) (xc_io (pv 0) (xc_val (x_imm (pv 4)) xc_nil))) x_int))) (fun _ _ _ _ _ => (x_imm (pv 9)))))))
    (xs_cons (s_fz (i := 8) (s_set (i := 8) sc__law_book.nd rfl (Or.inr rfl) (x_eq (x_op o_cat (x_imm (pv 8)) (x_eq (x_sumL rfl (by rfl) G.sum (x_eq (x_frzv (x_eq (x_comp rfl sc__law_book.nd (xi_eq (xi_list (x_imm (pv 8)))) (blkOk_by (N := N__law_book) (sc := defScope s__law_book) (scope := cs__law_book_2) (own := [("_law_one", 9)]) (by decide +kernel)) (by decide) (fun _ _ _ _ _ => (pg_name (i := 9) sc__law_book.nd rfl (Or.inl rfl))) (gok_name 9) (fun _ _ _ _ _ => xts_nil) (fun _ _ _ _ _ => (x_toimm (x_ix (x_dget (hu_of hr) (x_view (pv 2)) x_str) (x_imm (pv 9)))))))))))))))
    (xs_cons (s_expr (x_env (xp_append (xp_key (hu_of hr) (xp_name (pv 2)) x_str) (x_eq (x_frzv (x_eq (x_comp rfl sc__law_book.nd (xi_eq (xi_range1 (by rfl) G.range (xa_cons (x_imm (pv 6)) xa_nil))) (blkOk_by (N := N__law_book) (sc := defScope s__law_book) (scope := cs__law_book_3) (own := [("_law_one", 9)]) (by decide +kernel)) (by decide) (fun _ _ _ _ _ => (pg_name (i := 9) sc__law_book.nd rfl (Or.inl rfl))) (gok_name 9) (fun _ _ _ _ _ => (xts_one (xt_cmp (o_in (hu65 hr)) (x_imm (pv 9)) (x_imm (pv 8))))) (fun _ _ _ _ _ => (x_imm (pv 9))))))))))
    (xs_cons (s_expr (x_env (xp_append (xp_key (hu_of hr) (xp_name (pv 2)) x_str) (x_eq (x_frzv (x_eq (x_comp rfl sc__law_book.nd (xi_eq (xi_range1 (by rfl) G.range (xa_cons (x_imm (pv 6)) xa_nil))) (blkOk_by (N := N__law_book) (sc := defScope s__law_book) (scope := cs__law_book_4) (own := [("_law_one", 9)]) (by decide +kernel)) (by decide) (fun _ _ _ _ _ => (pg_name (i := 9) sc__law_book.nd rfl (Or.inl rfl))) (gok_name 9) (fun _ _ _ _ _ => (xts_one (XW.pt (xw_and2 (xt_cmp (o_nin (hu65 hr)) (x_imm (pv 9)) (x_imm (pv 8))) (xw_and1 (xt_cmp o_eqI (x_fn false G__law_draw (hr.mono (by decide)) (by rfl) (xc_io (pv 0) (xc_val (x_imm (pv 5)) xc_nil))) x_int)))))) (fun _ _ _ _ _ => (x_imm (pv 9))))))))))
    (xs_one (s_expr (x_env (xp_append (xp_key (hu_of hr) (xp_name (pv 2)) x_str) (x_op o_mul (x_env (xp_pop (xp_name (pv 3)) (x_fn false G__law_draw (hr.mono (by decide)) (by rfl) (xc_io (pv 0) (xc_val (x_callB c_len (by rfl) G.len (by decide +kernel) (xa_cons (x_view (pv 3)) xa_nil)) xc_nil))))) (x_fn false G__law_pick (hr.mono (by decide)) (by rfl) (xc_io (pv 0) (xc_val (x_eq (x_lst (xl_cons x_int (xl_cons x_int (xl_cons (x_un u_neg x_int) xl_nil))))) xc_nil))))))))))))))
    (xs_one (s_ret (x_move (pv 2)))))))) rfl vc
abbrev s__law_spot : Stmt := top 10
theorem sc__law_spot : FnScope N__law_spot P__law_spot (defScope s__law_spot) := ⟨rfl, rfl, rfl, by decide +kernel, rfl, by decide +kernel, by decide +kernel⟩
abbrev cs__law_spot_1 : Scope := { kind := .function, names := [(PySem.Str.ofString ".0", .local), (PySem.Str.ofString "_law_deed", .local), (PySem.Str.ofString "_law_book_here", .free), (PySem.Str.ofString "_law_done_here", .free)], isGenerator := false, isCoroutine := false, more := [] }
theorem ok__law_spot {P : Program} {w : World} {K : PySem.W.Frag} {mg : Str → Option Value} {base : Heap} {f : Addr} {fd : FuncData} (F : FunD K "_law_spot" "_law_spot" (defArgs s__law_spot) (defBody s__law_spot) (defScope s__law_spot) [] [] f fd) (G : Gs mg)
    (G__law_done : FnAt P w K mg base "_law_done" 3 P__law_done sp__law_done) (vc : VC__law_spot) : FnOk P w K mg base CX0 4 f fd P__law_spot (liftSp K 2 sp__law_spot) :=
  fn_ok (k := 3) (io := [0]) F sc__law_spot (fun cdv A outer s H E hr =>
    (xs_cons (s_fz (i := 2) (s_set (i := 2) sc__law_spot.nd rfl (Or.inr rfl) (x_fn false G__law_done (hr.mono (by decide)) (by rfl) (xc_io (pv 0) (xc_val (x_dget (hu_of hr) (x_imm (pv 1)) x_str) (xc_val (x_dget (hu_of hr) (x_imm (pv 1)) x_str) xc_nil))))))
    (xs_cons (s_fz (i := 3) (s_env (s_setComp (i := 3) rfl sc__law_spot.nd rfl rfl (sw_true rfl rfl rfl (by decide +kernel)) (xi_eq (xi_range1 (by rfl) G.range (xa_cons (x_callB c_len (by rfl) G.len (by decide +kernel) (xa_cons (x_dget (hu_of hr) (x_imm (pv 1)) x_str) xa_nil)) xa_nil))) (blkOk_by (N := N__law_spot) (sc := defScope s__law_spot) (scope := cs__law_spot_1) (own := [("_law_deed", 4)]) (by decide +kernel)) (by decide) (fun _ _ _ _ _ => (pg_name (i := 4) sc__law_spot.nd rfl (Or.inl rfl))) (gok_name 4) (fun _ _ _ _ _ => xts_nil) (fun _ _ _ _ _ => (x_if20 (xt_cmp (o_in (hu65 hr)) (x_imm (pv 4)) (x_imm (pv 2))) (x_op o_sub x_int (x_ix (x_dget (hu_of hr) (x_imm (pv 1)) x_str) (x_imm (pv 4)))) (x_ix (x_dget (hu_of hr) (x_imm (pv 1)) x_str) (x_imm (pv 4))))))))
    (xs_one (s_ret (x_eq (x_callTy c_tuple (by rfl) G.tuple (by decide +kernel) (xa_cons (x_eq (x_sortAbs rfl (hu65 hr) (by rfl) G.sorted (by rfl) G.abs (x_imm (pv 3)))) xa_nil)))))))) rfl vc
abbrev s_law : Stmt := top 11
theorem sc_law : FnScope N_law P_law (defScope s_law) := ⟨rfl, rfl, rfl, by decide +kernel, rfl, by decide +kernel, by decide +kernel⟩
abbrev cs_law_1 : Scope := { kind := .function, names := [(PySem.Str.ofString ".0", .local), (PySem.Str.ofString "_law_k", .local), (PySem.Str.ofString "_law_spot", .globalImplicit), (PySem.Str.ofString "_law_book_here", .free), (PySem.Str.ofString "_law_tape", .free)], isGenerator := false, isCoroutine := false, more := [] }
abbrev cs_law_2 : Scope := { kind := .function, names := [(PySem.Str.ofString ".0", .local), (PySem.Str.ofString "_law_a", .cell), (PySem.Str.ofString "len", .globalImplicit), (PySem.Str.ofString "range", .globalImplicit)], isGenerator := false, isCoroutine := false, more := [] }
abbrev cs_law_3 : Scope := { kind := .function, names := [(PySem.Str.ofString ".0", .local), (PySem.Str.ofString "_law_k", .local), (PySem.Str.ofString "_law_a", .free)], isGenerator := false, isCoroutine := false, more := [] }
abbrev cs_law_4 : Scope := { kind := .function, names := [(PySem.Str.ofString ".0", .local), (PySem.Str.ofString "_law_k", .local), (PySem.Str.ofString "sorted", .globalImplicit), (PySem.Str.ofString "_law_one", .free), (PySem.Str.ofString "_law_three", .free), (PySem.Str.ofString "_law_two", .free)], isGenerator := false, isCoroutine := false, more := [] }
theorem ok_law {P : Program} {w : World} {K : PySem.W.Frag} {mg : Str → Option Value} {base : Heap} {f : Addr} {fd : FuncData} (F : FunD K "law" "law" (defArgs s_law) (defBody s_law) (defScope s_law) [] [] f fd) (G : Gs mg)
    (G__law_begun : FnAt P w K mg base "_law_begun" 1 P__law_begun sp__law_begun) (G__law_book : FnAt P w K mg base "_law_book" 4 P__law_book sp__law_book) (G__law_draw : FnAt P w K mg base "_law_draw" 1 P__law_draw sp__law_draw) (G__law_pick : FnAt P w K mg base "_law_pick" 2 P__law_pick sp__law_pick) (G__law_spot : FnAt P w K mg base "_law_spot" 4 P__law_spot sp__law_spot) (G_apart : FnAt P w K mg base "apart" 1 P_apart sp_apart) (G_is_between : FnAt P w K mg base "is_between" 2 P_is_between sp_is_between) (G_meet : FnAt P w K mg base "meet" 1 P_meet sp_meet) (vc : VC_law) : FnG P w K mg base 5 f fd P_law (liftSp K 1 sp_law) :=
  fn_okG (k := 4) (io := []) F sc_law (fun cdv A outer s H E hG hr =>
    (xs_cons (s_set (i := 1) sc_law.nd rfl (Or.inr rfl) (x_fn false G__law_begun (hr.mono (by decide)) (by rfl) (xc_val (x_imm (pv 0)) xc_nil)))
    (xs_cons (s_for PassesOwn.never rfl (xi_eq (xi_range1 (by rfl) G.range (xa_cons x_int xa_nil))) (pg_name (i := 2) sc_law.nd rfl (Or.inl rfl)) (gok_name 2) (xs_cons (s_fz (i := 3) (s_set (i := 3) sc_law.nd rfl (Or.inr rfl) (x_fn false G__law_book (hr.mono (by decide)) (by rfl) (xc_io (pv 1) (xc_val (x_fn false G__law_pick (hr.mono (by decide)) (by rfl) (xc_io (pv 1) (xc_val (x_eq (x_lst (xl_cons (x_fn false G__law_draw (hr.mono (by decide)) (by rfl) (xc_io (pv 1) (xc_val x_int xc_nil))) (xl_cons (x_fn false G__law_draw (hr.mono (by decide)) (by rfl) (xc_io (pv 1) (xc_val x_int xc_nil))) (xl_cons (x_if20 (xt_cmp o_eqI (x_imm (pv 2)) x_int) x_int x_int) xl_nil))))) xc_nil))) xc_nil)))))
    (xs_cons (s_env (s_setComp (i := 4) rfl sc_law.nd rfl rfl (sw_true rfl rfl rfl (by decide +kernel)) (xi_eq (xi_range1 (by rfl) G.range (xa_cons x_int xa_nil))) (blkOk_by (N := N_law) (sc := defScope s_law) (scope := cs_law_1) (own := [("_law_k", 11)]) (by decide +kernel)) (by decide) (fun _ _ _ _ _ => (pg_name (i := 11) sc_law.nd rfl (Or.inl rfl))) (gok_name 11) (fun _ _ _ _ _ => xts_nil) (fun _ _ _ _ _ => (x_fn false G__law_spot (hr.mono (by decide)) (by rfl) (xc_io (pv 1) (xc_val (x_imm (pv 3)) xc_nil))))))
    (xs_cons (s_env (s_setL (pv 4) (x_fn false G__law_pick (hr.mono (by decide)) (by rfl) (xc_io (pv 1) (xc_val (x_eq (x_op o_cat (x_view (pv 4)) (x_eq (x_op o_rep (x_eq (x_lst (xl_cons (x_toimm (x_ix (x_view (pv 4)) x_int)) xl_nil))) x_int)))) xc_nil))) x_int))
    (xs_cons (s_asgT (x_fz (pv 4)) (ga_lst rfl (gas_cons (ga_name (i := 5) sc_law.nd rfl (Or.inr rfl)) (gas_cons (ga_name (i := 6) sc_law.nd rfl (Or.inr rfl)) (gas_cons (ga_name (i := 7) sc_law.nd rfl (Or.inr rfl)) gas_nil)))))
    (xs_cons (s_fz (i := 8) (s_set (i := 8) sc_law.nd rfl (Or.inl rfl) (x_eq (x_lst (xl_cons (x_eq (x_tup (xl_cons (x_imm (pv 5)) (xl_cons (x_imm (pv 6)) xl_nil)))) (xl_cons (x_eq (x_tup (xl_cons (x_imm (pv 6)) (xl_cons (x_imm (pv 7)) xl_nil)))) (xl_cons (x_eq (x_tup (xl_cons (x_imm (pv 5)) (xl_cons (x_imm (pv 7)) xl_nil)))) xl_nil)))))))
    (xs_cons (s_fz (i := 9) (s_env (s_setComp (i := 9) rfl sc_law.nd rfl rfl (sw_true rfl rfl rfl (by decide +kernel)) (xi_eq (xi_list (x_imm (pv 8)))) (blkOk_by (N := N_law) (sc := defScope s_law) (scope := cs_law_2) (own := [("_law_a", 12)]) (by decide +kernel)) (by decide) (fun _ _ _ _ _ => (pg_name (i := 12) sc_law.nd rfl (Or.inr rfl))) (gok_name 12) (fun _ _ _ _ _ => xts_nil) (fun _ _ _ _ _ => (x_callB c_len (by rfl) G.len (by decide +kernel) (xa_cons (x_eq (x_comp rfl sc_law.nd (xi_eq (xi_range1 (by rfl) G.range (xa_cons (x_callB c_len (by rfl) G.len (by decide +kernel) (xa_cons (x_ix (x_imm (pv 12)) x_int) xa_nil)) xa_nil))) (blkOk_by (N := N_law) (sc := (relS cs_law_2 (defScope s_law))) (scope := cs_law_3) (own := [("_law_k", 11)]) (by decide +kernel)) (by decide) (fun _ _ _ _ _ => (pg_name (i := 11) sc_law.nd rfl (Or.inl rfl))) (gok_name 11) (fun _ _ _ _ _ => (xts_one (xt_cmp o_neI (x_ix (x_ix (x_imm (pv 12)) x_int) (x_imm (pv 11))) (x_ix (x_ix (x_imm (pv 12)) x_int) (x_imm (pv 11)))))) (fun _ _ _ _ _ => (x_imm (pv 11))))) xa_nil))))))
    (xs_cons (s_if (XW.pt (xw_or2 (xt_cmp (o_ne hr.units) (x_eq (x_lst (xl_cons (x_fn false G_apart (hr.mono (by decide)) (by rfl) (xc_val (x_imm (pv 5)) (xc_val (x_imm (pv 6)) xc_nil))) (xl_cons (x_fn false G_apart (hr.mono (by decide)) (by rfl) (xc_val (x_imm (pv 6)) (xc_val (x_imm (pv 7)) xc_nil))) (xl_cons (x_fn false G_apart (hr.mono (by decide)) (by rfl) (xc_val (x_imm (pv 7)) (xc_val (x_imm (pv 5)) xc_nil))) xl_nil))))) (x_imm (pv 9))) (xw_or1 (xt_val (x_callB c_isi (by rfl) G.isinstance (by decide +kernel) (xa_cons (x_fn false G_apart (hr.mono (by decide)) (by rfl) (xc_val (x_imm (pv 5)) (xc_val (x_imm (pv 6)) xc_nil))) (xa_cons (x_tyN (by rfl) G.bool (by decide +kernel)) xa_nil))))))) (xs_one (s_ret x_bl)) xs_nil)
    (xs_cons (s_if (xt_cmp o_neS (x_callB (c_reprX hG (hu65 hr)) (by rfl) G.repr (by decide +kernel) (xa_cons (x_fn false G_is_between (hr.mono (by decide)) (by rfl) (xc_val (x_imm (pv 5)) (xc_val (x_imm (pv 6)) (xc_val (x_imm (pv 7)) xc_nil)))) xa_nil)) (x_callB (c_reprX hG (hu65 hr)) (by rfl) G.repr (by decide +kernel) (xa_cons (x_eq (x_cmp o_eqI (x_op o_add (x_ix (x_imm (pv 9)) x_int) (x_ix (x_imm (pv 9)) x_int)) (x_ix (x_imm (pv 9)) x_int))) xa_nil))) (xs_one (s_ret x_bl)) xs_nil)
    (xs_cons (s_set (i := 10) sc_law.nd rfl (Or.inl rfl) (x_eq (x_callTy c_tuple (by rfl) G.tuple (by decide +kernel) (xa_cons (x_eq (x_comp rfl sc_law.nd (xi_eq (xi_range1 (by rfl) G.range (xa_cons (x_callB c_len (by rfl) G.len (by decide +kernel) (xa_cons (x_imm (pv 5)) xa_nil)) xa_nil))) (blkOk_by (N := N_law) (sc := defScope s_law) (scope := cs_law_4) (own := [("_law_k", 11)]) (by decide +kernel)) (by decide) (fun _ _ _ _ _ => (pg_name (i := 11) sc_law.nd rfl (Or.inl rfl))) (gok_name 11) (fun _ _ _ _ _ => xts_nil) (fun _ _ _ _ _ => (x_ix (x_eq (x_callB c_sortI (by rfl) G.sorted (by decide +kernel) (xa_cons (x_eq (x_lst (xl_cons (x_ix (x_imm (pv 5)) (x_imm (pv 11))) (xl_cons (x_ix (x_imm (pv 6)) (x_imm (pv 11))) (xl_cons (x_ix (x_imm (pv 7)) (x_imm (pv 11))) xl_nil))))) xa_nil))) x_int)))) xa_nil))))
    (xs_cons (s_if (XW.pt (xw_or2 (xt_cmp o_neS (x_callB (c_reprX hG (hu65 hr)) (by rfl) G.repr (by decide +kernel) (xa_cons (x_fn false G_meet (hr.mono (by decide)) (by rfl) (xc_val (x_imm (pv 5)) (xc_val (x_imm (pv 6)) (xc_val (x_imm (pv 7)) xc_nil)))) xa_nil)) (x_callB (c_reprX hG (hu65 hr)) (by rfl) G.repr (by decide +kernel) (xa_cons (x_imm (pv 10)) xa_nil))) (xw_or2 (xt_cmp (o_ne hr.units) (x_fn false G_meet (hr.mono (by decide)) (by rfl) (xc_val (x_imm (pv 7)) (xc_val (x_imm (pv 5)) (xc_val (x_imm (pv 6)) xc_nil)))) (x_imm (pv 10))) (xw_or1 (xt_cmp (o_ne hr.units) (x_fn false G_meet (hr.mono (by decide)) (by rfl) (xc_val (x_imm (pv 6)) (xc_val (x_imm (pv 5)) (xc_val (x_imm (pv 7)) xc_nil)))) (x_imm (pv 10))))))) (xs_one (s_ret x_bl)) xs_nil)
    (xs_one (s_if (XW.pt (xw_or2 (xt_not (xt_val (x_fn false G_is_between (hr.mono (by decide)) (by rfl) (xc_val (x_imm (pv 5)) (xc_val (x_imm (pv 10)) (xc_val (x_imm (pv 6)) xc_nil)))))) (xw_or2 (xt_not (xt_val (x_fn false G_is_between (hr.mono (by decide)) (by rfl) (xc_val (x_imm (pv 6)) (xc_val (x_imm (pv 10)) (xc_val (x_imm (pv 7)) xc_nil)))))) (xw_or1 (xt_not (xt_val (x_fn false G_is_between (hr.mono (by decide)) (by rfl) (xc_val (x_imm (pv 7)) (xc_val (x_imm (pv 10)) (xc_val (x_imm (pv 5)) xc_nil)))))))))) (xs_one (s_ret x_bl)) xs_nil)))))))))))))
    (xs_one (s_ret x_bl))))) rfl vc
end K14
set_option maxHeartbeats 0
namespace K14
open PySem PySem.Spec PyProof.Rows L2 TT
def d_apart : He.DefD := ⟨("apart", none), "apart", "apart", defArgs s_apart, defBody s_apart, defScope s_apart, [], []⟩
def d_is_between : He.DefD := ⟨("is_between", none), "is_between", "is_between", defArgs s_is_between, defBody s_is_between, defScope s_is_between, [], []⟩
def d_meet : He.DefD := ⟨("meet", none), "meet", "meet", defArgs s_meet, defBody s_meet, defScope s_meet, [], []⟩
def d__law_begun : He.DefD := ⟨("_law_begun", none), "_law_begun", "_law_begun", defArgs s__law_begun, defBody s__law_begun, defScope s__law_begun, [], []⟩
def d__law_draw : He.DefD := ⟨("_law_draw", none), "_law_draw", "_law_draw", defArgs s__law_draw, defBody s__law_draw, defScope s__law_draw, [], []⟩
def d__law_pick : He.DefD := ⟨("_law_pick", none), "_law_pick", "_law_pick", defArgs s__law_pick, defBody s__law_pick, defScope s__law_pick, [], []⟩
def d__law_done : He.DefD := ⟨("_law_done", none), "_law_done", "_law_done", defArgs s__law_done, defBody s__law_done, defScope s__law_done, [], []⟩
def d__law_book : He.DefD := ⟨("_law_book", none), "_law_book", "_law_book", defArgs s__law_book, defBody s__law_book, defScope s__law_book, [], []⟩
def d__law_spot : He.DefD := ⟨("_law_spot", none), "_law_spot", "_law_spot", defArgs s__law_spot, defBody s__law_spot, defScope s__law_spot, [], []⟩
def d_law : He.DefD := ⟨("law", none), "law", "law", defArgs s_law, defBody s_law, defScope s_law, [], []⟩
def fns : List He.DefD := [d_apart, d_is_between, d_meet, d__law_begun, d__law_draw, d__law_pick, d__law_done, d__law_book, d__law_spot, d_law]
def fas : List He.Fa := [.glo "apart", .glo "is_between", .glo "meet", .glo "_law_begun", .glo "_law_draw", .glo "_law_pick", .glo "_law_done", .glo "_law_book", .glo "_law_spot", .glo "law", .free "abs", .free "bool", .free "int", .free "isinstance", .free "len", .free "list", .free "range", .free "repr", .free "sorted", .free "sum", .free "tuple", .free "zip"]
abbrev RR : PySem.W.OpenRow := PySem.W.OpenLaw.row PySem.Challenge.rw_meetrow_k14_between_and_meet
abbrev hook : PySem.W.Hook := He.hookD 4 fas fns
def seen (s : PySem.W.SharedT) : He.AlD := He.obsDG 4 fas fns (HandSHeadRun.getT s)
theorem seen_eq (s : PySem.W.SharedT) : seen s = hook.obs s.abs := He.obsDG_eq (HandSHeadRun.getT_eq s)
theorem runs (w : World) : HandSHeadRun.RunEq RR (PySem.W.view RR.prog [11]) hook seen 3000 ["apart", "is_between", "meet", "_law_begun", "_law_draw", "_law_pick", "_law_done", "_law_book", "_law_spot"] w := by
  intro os
  kernel_rfl
theorem facts {P : Program} {w : World} {K : PySem.W.Frag} {h : Heap} {mg : Str → Option Value} {f : Addr} (X : K.In h) (G0 : h.Ns mainGlobals mg) (hfa : mg ("law" : Str) = some (.ref f)) (c : He.SaysD fas fns K) :
    ∃ fd : FuncData, (∀ (s : Shared) (v : Value), BindsTo s fd ⟨[v], []⟩ [("_law_script", v)]) ∧ ∀ base : Heap, FnG P w K mg base 5 f fd P_law (liftSp K 1 sp_law) := by
  have G : Gs mg := ⟨He.free_ok X G0 (c.fact 10 (f := .free "abs") rfl), He.free_ok X G0 (c.fact 11 (f := .free "bool") rfl), He.free_ok X G0 (c.fact 12 (f := .free "int") rfl), He.free_ok X G0 (c.fact 13 (f := .free "isinstance") rfl), He.free_ok X G0 (c.fact 14 (f := .free "len") rfl), He.free_ok X G0 (c.fact 15 (f := .free "list") rfl), He.free_ok X G0 (c.fact 16 (f := .free "range") rfl), He.free_ok X G0 (c.fact 17 (f := .free "repr") rfl), He.free_ok X G0 (c.fact 18 (f := .free "sorted") rfl), He.free_ok X G0 (c.fact 19 (f := .free "sum") rfl), He.free_ok X G0 (c.fact 20 (f := .free "tuple") rfl), He.free_ok X G0 (c.fact 21 (f := .free "zip") rfl)⟩
  obtain ⟨fd_apart, F_apart⟩ := c.def_ 0 (d := d_apart) rfl
  obtain ⟨fd_is_between, F_is_between⟩ := c.def_ 1 (d := d_is_between) rfl
  obtain ⟨fd_meet, F_meet⟩ := c.def_ 2 (d := d_meet) rfl
  obtain ⟨fd__law_begun, F__law_begun⟩ := c.def_ 3 (d := d__law_begun) rfl
  obtain ⟨fd__law_draw, F__law_draw⟩ := c.def_ 4 (d := d__law_draw) rfl
  obtain ⟨fd__law_pick, F__law_pick⟩ := c.def_ 5 (d := d__law_pick) rfl
  obtain ⟨fd__law_done, F__law_done⟩ := c.def_ 6 (d := d__law_done) rfl
  obtain ⟨fd__law_book, F__law_book⟩ := c.def_ 7 (d := d__law_book) rfl
  obtain ⟨fd__law_spot, F__law_spot⟩ := c.def_ 8 (d := d__law_spot) rfl
  obtain ⟨fd_law, F_law⟩ := c.def_ 9 (d := d_law) rfl
  have g_apart := He.glo_ok X G0 (c.fact 0 (f := .glo "apart") rfl)
  have g_is_between := He.glo_ok X G0 (c.fact 1 (f := .glo "is_between") rfl)
  have g_meet := He.glo_ok X G0 (c.fact 2 (f := .glo "meet") rfl)
  have g__law_begun := He.glo_ok X G0 (c.fact 3 (f := .glo "_law_begun") rfl)
  have g__law_draw := He.glo_ok X G0 (c.fact 4 (f := .glo "_law_draw") rfl)
  have g__law_pick := He.glo_ok X G0 (c.fact 5 (f := .glo "_law_pick") rfl)
  have g__law_done := He.glo_ok X G0 (c.fact 6 (f := .glo "_law_done") rfl)
  have g__law_book := He.glo_ok X G0 (c.fact 7 (f := .glo "_law_book") rfl)
  have g__law_spot := He.glo_ok X G0 (c.fact 8 (f := .glo "_law_spot") rfl)
  have g_law := He.glo_ok X G0 (c.fact 9 (f := .glo "law") rfl)
  have e0 := hfa.symm.trans g_law
  cases e0
  have O_apart : ∀ base : Heap, FnOk P w K mg base CX0 1 (He.fAd K ("apart", none)) fd_apart P_apart (liftSp K 2 sp_apart) := fun base => ok_apart F_apart G  vc_apart
  have A_apart : ∀ base : Heap, FnAt P w K mg base "apart" 1 P_apart sp_apart := fun base => ⟨_, _, O_apart base, g_apart, F_apart.kp, FunD.bindsN F_apart fun _ _ _ _ _ _ us hl => match us, hl with | [_, _], _ => rfl⟩
  have O_meet : ∀ base : Heap, FnOk P w K mg base CX0 1 (He.fAd K ("meet", none)) fd_meet P_meet (liftSp K 3 sp_meet) := fun base => ok_meet F_meet G  vc_meet
  have A_meet : ∀ base : Heap, FnAt P w K mg base "meet" 1 P_meet sp_meet := fun base => ⟨_, _, O_meet base, g_meet, F_meet.kp, FunD.bindsN F_meet fun _ _ _ _ _ _ us hl => match us, hl with | [_, _, _], _ => rfl⟩
  have O__law_begun : ∀ base : Heap, FnOk P w K mg base CX0 1 (He.fAd K ("_law_begun", none)) fd__law_begun P__law_begun (liftSp K 1 sp__law_begun) := fun base => ok__law_begun F__law_begun G  vc__law_begun
  have A__law_begun : ∀ base : Heap, FnAt P w K mg base "_law_begun" 1 P__law_begun sp__law_begun := fun base => ⟨_, _, O__law_begun base, g__law_begun, F__law_begun.kp, FunD.bindsN F__law_begun fun _ _ _ _ _ _ us hl => match us, hl with | [_], _ => rfl⟩
  have O__law_draw : ∀ base : Heap, FnOk P w K mg base CX0 1 (He.fAd K ("_law_draw", none)) fd__law_draw P__law_draw (liftSp K 2 sp__law_draw) := fun base => ok__law_draw F__law_draw G  vc__law_draw
  have A__law_draw : ∀ base : Heap, FnAt P w K mg base "_law_draw" 1 P__law_draw sp__law_draw := fun base => ⟨_, _, O__law_draw base, g__law_draw, F__law_draw.kp, FunD.bindsN F__law_draw fun _ _ _ _ _ _ us hl => match us, hl with | [_, _], _ => rfl⟩
  have O_is_between : ∀ base : Heap, FnOk P w K mg base CX0 2 (He.fAd K ("is_between", none)) fd_is_between P_is_between (liftSp K 3 sp_is_between) := fun base => ok_is_between F_is_between G (A_apart base) vc_is_between
  have A_is_between : ∀ base : Heap, FnAt P w K mg base "is_between" 2 P_is_between sp_is_between := fun base => ⟨_, _, O_is_between base, g_is_between, F_is_between.kp, FunD.bindsN F_is_between fun _ _ _ _ _ _ us hl => match us, hl with | [_, _, _], _ => rfl⟩
  have O__law_pick : ∀ base : Heap, FnOk P w K mg base CX0 2 (He.fAd K ("_law_pick", none)) fd__law_pick P__law_pick (liftSp K 2 sp__law_pick) := fun base => ok__law_pick F__law_pick G (A__law_draw base) vc__law_pick
  have A__law_pick : ∀ base : Heap, FnAt P w K mg base "_law_pick" 2 P__law_pick sp__law_pick := fun base => ⟨_, _, O__law_pick base, g__law_pick, F__law_pick.kp, FunD.bindsN F__law_pick fun _ _ _ _ _ _ us hl => match us, hl with | [_, _], _ => rfl⟩
  have O__law_done : ∀ base : Heap, FnOk P w K mg base CX0 3 (He.fAd K ("_law_done", none)) fd__law_done P__law_done (liftSp K 3 sp__law_done) := fun base => ok__law_done F__law_done G (A__law_draw base) (A__law_pick base) vc__law_done
  have A__law_done : ∀ base : Heap, FnAt P w K mg base "_law_done" 3 P__law_done sp__law_done := fun base => ⟨_, _, O__law_done base, g__law_done, F__law_done.kp, FunD.bindsN F__law_done fun _ _ _ _ _ _ us hl => match us, hl with | [_, _, _], _ => rfl⟩
  have O__law_book : ∀ base : Heap, FnOk P w K mg base CX0 4 (He.fAd K ("_law_book", none)) fd__law_book P__law_book (liftSp K 2 sp__law_book) := fun base => ok__law_book F__law_book G (A__law_done base) (A__law_draw base) (A__law_pick base) vc__law_book
  have A__law_book : ∀ base : Heap, FnAt P w K mg base "_law_book" 4 P__law_book sp__law_book := fun base => ⟨_, _, O__law_book base, g__law_book, F__law_book.kp, FunD.bindsN F__law_book fun _ _ _ _ _ _ us hl => match us, hl with | [_, _], _ => rfl⟩
  have O__law_spot : ∀ base : Heap, FnOk P w K mg base CX0 4 (He.fAd K ("_law_spot", none)) fd__law_spot P__law_spot (liftSp K 2 sp__law_spot) := fun base => ok__law_spot F__law_spot G (A__law_done base) vc__law_spot
  have A__law_spot : ∀ base : Heap, FnAt P w K mg base "_law_spot" 4 P__law_spot sp__law_spot := fun base => ⟨_, _, O__law_spot base, g__law_spot, F__law_spot.kp, FunD.bindsN F__law_spot fun _ _ _ _ _ _ us hl => match us, hl with | [_, _], _ => rfl⟩
  have b := FunD.bindsA (ps := P_law) F_law fun _ _ _ _ _ _ us hl => match us, hl with | [_], _ => rfl
  exact ⟨fd_law, fun s v => b s [v] rfl, fun base => ok_law F_law G (A__law_begun base) (A__law_book base) (A__law_draw base) (A__law_pick base) (A__law_spot base) (A_apart base) (A_is_between base) (A_meet base) vc_law⟩
theorem law_pr : ∀ env Q, spLaw env Q → sp_law env Q := by
  rintro env Q ⟨ns, rfl, hn, q⟩
  exact ⟨ns, rfl, (law_true ns).mono fun b e => e ▸ q _⟩
end K14
open PySem PySem.W PySem.Calls PyProof.Rows
theorem PySem.Challenge.cw_meetrow_k14_between_and_meet_holds : PySem.Challenge.rw_meetrow_k14_between_and_meet.Holds := by
  w_on; o_law
  refine HandSHeadRun.head_any (r := K14.RR) (q := view K14.RR.prog [11]) (H := K14.hook) (ob := K14.seen) (M := 3000) (loose := ["apart", "is_between", "meet", "_law_begun", "_law_draw", "_law_pick", "_law_done", "_law_book", "_law_spot"]) (d := HandSHeadRun.topDef K14.RR.prog 11) (kwd := []) K14.seen_eq
    (by kernel_rfl) (fun s => by kernel_rfl) K14.runs (by kernel_rfl) (by kernel_rfl) (by kernel_rfl) (by rfl) (by first | assumption | decide +kernel) (by decide +kernel) ⟨rfl, rfl, rfl, rfl, rfl, by decide +kernel⟩ ?wit ?go
  case wit => w_witness2
  case go =>
    refine TT.walk_ofG (l := PySem.Challenge.rw_meetrow_k14_between_and_meet) (n := 63) (k := 5) (x := "_law_script") rfl (by decide) (by kernel_rfl) ⟨rfl, by decide, by decide⟩ ?F
    intro w mg fa h Y G0 hmg
    obtain ⟨K, KX, c⟩ := Y
    have hm : mg ("law" : PySem.Str) = some (.ref fa) := by
      have e : (HandSHeadRun.topDef K14.RR.prog 11).name = ("law" : PySem.Str) := by kernel_rfl
      exact e ▸ hmg
    obtain ⟨fd, hb, hF⟩ := K14.facts (P := (PySem.Challenge.rw_meetrow_k14_between_and_meet).prog) (w := w) KX G0 hm c
    exact ⟨K, fd, TT.liftSp K 1 K14.sp_law, KX, hb, fun H a ns hl ho hs => TT.law_spG K14.law_pr hl ho hs, fun base => hF base⟩
