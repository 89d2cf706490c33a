import PyProof.Rows.All
import Wide.All
import OpenK.AllK
import Wide.FinOn
import HandS.ForMost
import HandS.Lambda
import HandS.Deep
import KE.Datum
import HandS.Defaults
import HandS.Iter
import HandS.Wide
import HandS.Style
import HandS.Flow
import HandS.Sort
import HandS.Conv
import HandS.Small
import HandS.HeadEnd
import HandS.MakeKwOnly
import KE.BitLaws
import KE.SortKeyHeap
import PyProof.SumWalkG
import KE.DatumOrd
import HandS.SortKw
import PyProof.ReprRoads
import PyProof.Rows.ReprR
import KE.GoesMore
import HandS.TupAny
import HandS.TryOnly
import HandS.IsInst
import HandS.DictComp
import HandS.More
import KE.KDictSum
import KE.SortData
import KE.SortUse
import KE.KSortKey
import HandS.HeadHook4
import PyProof.ListIndex
import PyProof.FString2
import HandS.TupLe
import HandS.RaiseMore
import HandS.ExcInit
import HandS.ExcOwn
import HandS.ExcField
import KE.KExcIs
import HandS.HeadHook1
import KE.GoesEnumKw
import KE.KExcInit
import HandS.TupMul
import HandS.TupSets
import HandS.HeadHook2
import PyProof.TwoTypesSub
import PyProof.AutoIntG7
import PyProof.ReprLen
import PyProof.Rows.ReprOcc
import KE.KIntText
import KE.KStateDown
import HandS.Head0
import HandS.Head1
import HandS.Head2
import HandS.HeadHook3
import PySem.Challenge.RW_meetrow_k05_papers_of_nothing_looked_at
set_option Elab.async false
set_option linter.all false
set_option maxRecDepth 100000
set_option maxHeartbeats 4000000
namespace TT
open PySem PySem.Spec PyProof.Rows L2
/-- where the classes stand; the tables of code objects, with the names their code objects bear -/
class Cls where
  at_ : String → Addr
  tb : List (Addr × Str)
/-- where there are none -/
instance (priority := low) noCls : Cls := ⟨fun _ => (0 : Nat), []⟩
variable [Cls]
/-- data as trees; o: owned (may be changed by who holds it), else frozen -/
inductive D where
  | non | bl (b : Bool) | int (i : Int) | str (x : Str) | byt (b : Array UInt8) | ty (n : String)
  | tup (xs : List D)
  | lst (o : Bool) (xs : List D)
  /-- a list of the module's own, or the script -/
  | kst (xs : List D)
  | dct (o : Bool) (kvs : List (Key × D))
  | dtt (o : Bool) (kvs : List (List Key × D))
  | ins (o : Bool) (C : Addr) (fs : List (Str × D))
  /-- an empty tuple of the module's own (a default) -/
  | kt0
mutual
def D.frz : D → D
  | .non => .non
  | .bl b => .bl b
  | .int i => .int i
  | .str x => .str x
  | .byt b => .byt b
  | .ty n => .ty n
  | .tup xs => .tup (frzL xs)
  | .lst _ xs => .lst false (frzL xs)
  | .kst xs => .kst (frzL xs)
  | .dct _ kvs => .dct false (frzK kvs)
  | .dtt _ kvs => .dtt false (frzT kvs)
  | .ins _ C fs => .ins false C (frzF fs)
  | .kt0 => .kt0
def frzL : List D → List D
  | [] => []
  | d :: r => d.frz :: frzL r
def frzK : List (Key × D) → List (Key × D)
  | [] => []
  | (k, d) :: r => (k, d.frz) :: frzK r
def frzT : List (List Key × D) → List (List Key × D)
  | [] => []
  | (k, d) :: r => (k, d.frz) :: frzT r
def frzF : List (Str × D) → List (Str × D)
  | [] => []
  | (k, d) :: r => (k, d.frz) :: frzF r
end
theorem frzL_map : ∀ xs : List D, frzL xs = xs.map D.frz
  | [] => by rw [frzL]; rfl
  | d :: r => by rw [frzL, frzL_map r]; rfl
theorem frzK_map : ∀ xs : List (Key × D), frzK xs = xs.map fun p => (p.1, p.2.frz)
  | [] => by rw [frzK]; rfl
  | (k, d) :: r => by rw [frzK, frzK_map r]; rfl
theorem frzT_map : ∀ xs : List (List Key × D), frzT xs = xs.map fun p => (p.1, p.2.frz)
  | [] => by rw [frzT]; rfl
  | (k, d) :: r => by rw [frzT, frzT_map r]; rfl
theorem frzF_map : ∀ xs : List (Str × D), frzF xs = xs.map fun p => (p.1, p.2.frz)
  | [] => by rw [frzF]; rfl
  | (k, d) :: r => by rw [frzF, frzF_map r]; rfl
abbrev AS := Addr → Prop
mutual
inductive Rep (K : PySem.W.Frag) (Z H : Hp) : V → D → AS → Prop
  | non {F} : Rep K Z H .non .non F
  | bl {F} (b : Bool) : Rep K Z H (.bl b) (.bl b) F
  | int {F} (i : Int) : Rep K Z H (.int i) (.int i) F
  | str {F} (x : Str) : Rep K Z H (.str x) (.str x) F
  | byt {F} (x : Array UInt8) : Rep K Z H (.byt x) (.byt x) F
  | ty {F} (n : String) : Rep K Z H (.ty n) (.ty n) F
  | tup {F a vs xs} : Z a = some (.tup vs) → RepL K Z H vs xs F → Rep K Z H (.ref a) (.tup xs) F
  | lstO {F G : AS} {a vs xs} : F a → H a = some (.lst vs) → Z a = none → RepL K Z H vs xs G → (∀ b, G b → F b ∧ b ≠ a) → Rep K Z H (.ref a) (.lst true xs) F
  | lstF {F a vs xs} : Rd Z a (.lst vs) → RepL K Z H vs xs (fun _ => False) → Rep K Z H (.ref a) (.lst false xs) F
  | kst {F a vs xs} : SqL K Z a vs → RepL K Z H vs xs (fun _ => False) → Rep K Z H (.ref a) (.kst xs) F
  | dctO {F G : AS} {a m kvs} : F a → H a = some (.dK m) → Z a = none → m.map (·.1) = kvs.map (·.1) → RepL K Z H (m.map (·.2)) (kvs.map (·.2)) G → (∀ b, G b → F b ∧ b ≠ a) → Rep K Z H (.ref a) (.dct true kvs) F
  | dctF {F a m kvs} : Rd Z a (.dK m) → m.map (·.1) = kvs.map (·.1) → RepL K Z H (m.map (·.2)) (kvs.map (·.2)) (fun _ => False) → Rep K Z H (.ref a) (.dct false kvs) F
  | dttO {F G : AS} {a m kvs} : F a → H a = some (.dT m) → Z a = none → m.map (·.1) = kvs.map (·.1) → RepL K Z H (m.map (·.2)) (kvs.map (·.2)) G → (∀ b, G b → F b ∧ b ≠ a) → Rep K Z H (.ref a) (.dtt true kvs) F
  | dttF {F a m kvs} : Rd Z a (.dT m) → m.map (·.1) = kvs.map (·.1) → RepL K Z H (m.map (·.2)) (kvs.map (·.2)) (fun _ => False) → Rep K Z H (.ref a) (.dtt false kvs) F
  | insO {F G : AS} {a C dx m fs} : F a → H a = some (.ins C dx m) → Z a = none → m.map (·.1) = fs.map (·.1) → RepL K Z H (m.map (·.2)) (fs.map (·.2)) G → (∀ b, G b → F b ∧ b ≠ a) → Rep K Z H (.ref a) (.ins true C fs) F
  | insF {F a C dx m fs} : Z a = some (.ins C dx m) → m.map (·.1) = fs.map (·.1) → RepL K Z H (m.map (·.2)) (fs.map (·.2)) (fun _ => False) → Rep K Z H (.ref a) (.ins false C fs) F
  | kt0 {F a} : (∀ Z', SqT K Z' a []) → Rep K Z H (.ref a) .kt0 F
inductive RepL (K : PySem.W.Frag) (Z H : Hp) : List V → List D → AS → Prop
  | nil {F} : RepL K Z H [] [] F
  | cons {F G E : AS} {v vs d ds} : Rep K Z H v d G → RepL K Z H vs ds E → (∀ b, G b → F b) → (∀ b, E b → F b ∧ ¬ G b) → RepL K Z H (v :: vs) (d :: ds) F
end
theorem Rep.mono {K : PySem.W.Frag} {Z H : Hp} {v : V} {d : D} {F G : AS} (r : Rep K Z H v d F) (h : ∀ b, F b → G b) : Rep K Z H v d G := by
  cases r with
  | non => exact .non
  | bl => exact .bl _
  | int => exact .int _
  | str => exact .str _
  | byt => exact .byt _
  | ty => exact .ty _
  | tup a b =>
    refine .tup a ?_
    cases b with
    | nil => exact .nil
    | cons p q r s => exact .cons p q (fun b z => h b (r b z)) (fun b z => ⟨h b (s b z).1, (s b z).2⟩)
  | lstO a b c e f => exact .lstO (h _ a) b c e fun b z => ⟨h b (f b z).1, (f b z).2⟩
  | lstF a b => exact .lstF a b
  | kst a b => exact .kst a b
  | dctO a b c e f g => exact .dctO (h _ a) b c e f fun b z => ⟨h b (g b z).1, (g b z).2⟩
  | dctF a b c => exact .dctF a b c
  | dttO a b c e f g => exact .dttO (h _ a) b c e f fun b z => ⟨h b (g b z).1, (g b z).2⟩
  | dttF a b c => exact .dttF a b c
  | insO a b c e f g => exact .insO (h _ a) b c e f fun b z => ⟨h b (g b z).1, (g b z).2⟩
  | insF a b c => exact .insF a b c
  | kt0 a => exact .kt0 a
theorem RepL.mono {K : PySem.W.Frag} {Z H : Hp} {v : List V} {d : List D} {F G : AS} (r : RepL K Z H v d F) (h : ∀ b, F b → G b) : RepL K Z H v d G := by
  cases r with
  | nil => exact .nil
  | cons p q r s => exact .cons p q (fun b z => h b (r b z)) (fun b z => ⟨h b (s b z).1, (s b z).2⟩)
theorem Rd.sub {Z Z' : Hp} {a : Addr} {u : HO} (h : ∀ a o, Z a = some o → Z' a = some o) (r : Rd Z a u) : Rd Z' a u := by
  rcases r with r | ⟨o, r⟩
  · exact .inl (h _ _ r)
  · exact .inr ⟨o, h _ _ r⟩
theorem SqL.sub {K : PySem.W.Frag} {Z Z' : Hp} {a : Addr} {xs : List V} (h : ∀ a o, Z a = some o → Z' a = some o) (r : SqL K Z a xs) : SqL K Z' a xs := by
  rcases r with r | r
  · exact .inl (Rd.sub h r)
  · exact .inr r
/-- a tree stays where the heap changes elsewhere -/
theorem Rep.keep {K : PySem.W.Frag} {Z H Z' H' : Hp} {v : V} {d : D} {F : AS} (hz : ∀ a o, Z a = some o → Z' a = some o) (r : Rep K Z H v d F)
    (hh : ∀ a o, F a → H a = some o → Z a = none → H' a = some o ∧ Z' a = none) : Rep K Z' H' v d F := by
  refine Rep.rec (K := K) (Z := Z) (H := H) (motive_1 := fun v d F _ => (∀ a o, F a → H a = some o → Z a = none → H' a = some o ∧ Z' a = none) → Rep K Z' H' v d F) (motive_2 := fun v d F _ => (∀ a o, F a → H a = some o → Z a = none → H' a = some o ∧ Z' a = none) → RepL K Z' H' v d F)
    ?_ ?_ ?_ ?_ ?_ ?_ ?_ ?_ ?_ ?_ ?_ ?_ ?_ ?_ ?_ ?_ ?_ ?_ ?_ r hh
  · intro F hh; exact .non
  · intro F b hh; exact .bl b
  · intro F b hh; exact .int b
  · intro F b hh; exact .str b
  · intro F b hh; exact .byt b
  · intro F b hh; exact .ty b
  · intro F a vs xs h1 h2 ih hh; exact .tup (hz _ _ h1) (ih hh)
  · intro F G a vs xs h1 h2 h3 h4 h5 ih hh
    exact .lstO h1 (hh _ _ h1 h2 h3).1 (hh _ _ h1 h2 h3).2 (ih fun a o g => hh a o (h5 a g).1) h5
  · intro F a vs xs h1 h2 ih hh; exact .lstF (Rd.sub hz h1) (ih fun a o g => g.elim)
  · intro F a vs xs h1 h2 ih hh; exact .kst (SqL.sub hz h1) (ih fun a o g => g.elim)
  · intro F G a m kvs h1 h2 h3 h4 h5 h6 ih hh
    exact .dctO h1 (hh _ _ h1 h2 h3).1 (hh _ _ h1 h2 h3).2 h4 (ih fun a o g => hh a o (h6 a g).1) h6
  · intro F a m kvs h1 h2 h3 ih hh; exact .dctF (Rd.sub hz h1) h2 (ih fun a o g => g.elim)
  · intro F G a m kvs h1 h2 h3 h4 h5 h6 ih hh
    exact .dttO h1 (hh _ _ h1 h2 h3).1 (hh _ _ h1 h2 h3).2 h4 (ih fun a o g => hh a o (h6 a g).1) h6
  · intro F a m kvs h1 h2 h3 ih hh; exact .dttF (Rd.sub hz h1) h2 (ih fun a o g => g.elim)
  · intro F G a C dx m fs h1 h2 h3 h4 h5 h6 ih hh
    exact .insO h1 (hh _ _ h1 h2 h3).1 (hh _ _ h1 h2 h3).2 h4 (ih fun a o g => hh a o (h6 a g).1) h6
  · intro F a C dx m fs h1 h2 h3 ih hh; exact .insF (hz _ _ h1) h2 (ih fun a o g => g.elim)
  · intro F a h1 hh; first | exact .kt0 h1 | (rw [D.frz]; exact .kt0 h1)
  · intro F hh; exact .nil
  · intro F G E v vs d ds h1 h2 h3 h4 ih1 ih2 hh
    exact .cons (ih1 fun a o g => hh a o (h3 a g)) (ih2 fun a o g => hh a o (h4 a g).1) h3 h4
theorem RepL.keep {K : PySem.W.Frag} {Z H Z' H' : Hp} (hz : ∀ a o, Z a = some o → Z' a = some o) : ∀ {vs : List V} {ds : List D} {F : AS}, RepL K Z H vs ds F →
    (∀ a o, F a → H a = some o → Z a = none → H' a = some o ∧ Z' a = none) → RepL K Z' H' vs ds F
  | _, _, _, .nil, _ => .nil
  | _, _, _, .cons h1 h2 h3 h4, hh => .cons (h1.keep hz fun a o g => hh a o (h3 a g)) (RepL.keep hz h2 fun a o g => hh a o (h4 a g).1) h3 h4
def IsD : HO → Prop
  | .dK _ => True
  | .dT _ => True
  | _ => False
def mkT (q : Str) : HO := .ext fun _ => False
def TbOk (Z : Hp) (a : Addr) (q : Str) (ps : Array Value) : Prop := (a, q) ∈ Cls.tb ∧ TriplesOk ps.toList ∧ ∀ (pos : Pos) (cv : Value), codeAmong pos ps.toList = some cv → ∃ c, cv = .ref c ∧ Z c = some (LamX.CodeO c q) ∧ ∀ q', (c, q') ∉ Cls.tb
theorem TbOk.sub' {Z Z' : Hp} {a : Addr} {q : Str} {ps : Array Value} (h : TbOk Z a q ps) (k : ∀ c q, Z c = some (LamX.CodeO c q) → Z' c = some (LamX.CodeO c q)) : TbOk Z' a q ps := ⟨h.1, h.2.1, fun pos cv e => let ⟨c, e1, e2, e3⟩ := h.2.2 pos cv e; ⟨c, e1, k _ _ e2, e3⟩⟩
theorem TbOk.sub {Z Z' : Hp} {a : Addr} {q : Str} {ps : Array Value} (h : TbOk Z a q ps) (k : ∀ a o, Z a = some o → Z' a = some o) : TbOk Z' a q ps := h.sub' fun c q => k c _
def IsZ : HO → Prop
  | .dK _ => True
  | .dT _ => True
  | .ext _ => True
  | _ => False
def ZH (Z H : Hp) : Prop := ∀ a o, Z a = some o → H a = some o ∨ (IsD o ∧ ∃ od, H a = some (.frz od o)) ∨ ∃ q ps, o = mkT q ∧ H a = some (.tbl ps) ∧ TbOk Z a q ps
theorem ZH.none {Z H : Hp} {p : Addr} (zh : ZH Z H) (hp : H p = none) : Z p = none := by
  cases q : Z p with
  | none => rfl
  | some u =>
    rcases zh p u q with e | ⟨_, od, e⟩ | ⟨_, _, _, e, _⟩
    · rw [hp] at e; cases e
    · rw [hp] at e; cases e
    · rw [hp] at e; cases e
theorem ZH.of {Z H : Hp} {a : Addr} {o : HO} (zh : ZH Z H) (h : Z a = some o) (n : ¬ IsZ o) : H a = some o := by
  rcases zh a o h with e | ⟨e, _⟩ | ⟨q, _, e, _⟩
  · exact e
  · exfalso
    cases o <;> first | exact e | exact n e
  · subst e; exact absurd trivial n
theorem ZH.tup {Z H : Hp} {a : Addr} {vs : List V} (zh : ZH Z H) (h : Z a = some (.tup vs)) : H a = some (.tup vs) := zh.of h fun z => z
theorem ZH.rdx {Z H : Hp} {a : Addr} {u : HO} (zh : ZH Z H) (hx : ∀ q, u ≠ mkT q) (r : Rd Z a u) : Rd H a u := by
  rcases r with r | ⟨o, r⟩
  · rcases zh a u r with e | ⟨_, od, e⟩ | ⟨q, _, e, _⟩
    · exact .inl e
    · exact .inr ⟨od, e⟩
    · exact absurd e (hx q)
  · exact .inr ⟨o, zh.of r fun z => z⟩
theorem ZH.rd {Z H : Hp} {a : Addr} {u : HO} (zh : ZH Z H) (r : Rd Z a u) (hx : ∀ q, u ≠ mkT q := by exact fun q z => nomatch z) : Rd H a u := zh.rdx hx r
theorem ZH.sq {K : PySem.W.Frag} {Z H : Hp} {a : Addr} {xs : List V} (zh : ZH Z H) (r : SqL K Z a xs) : SqL K H a xs := by
  rcases r with r | r
  · exact .inl (zh.rd r)
  · exact .inr r
end TT
namespace TT
open PySem PySem.Spec PyProof.Rows L2
variable [Cls]
abbrev Env := List (Option D)
/-- the heap went on; what is owned in F0 may have changed -/
structure Ext (Z H : Hp) (F0 : AS) (Z' H' : Hp) : Prop where
  zs : ∀ a o, Z a = some o → Z' a = some o
  fr : ∀ a o, H a = some o → ¬ F0 a → H' a = some o ∨ (Z a = some o ∧ IsD o ∧ ∃ od, H' a = some (.frz od o)) ∨ ∃ q ps ps', Z a = some (mkT q) ∧ o = .tbl ps ∧ H' a = some (.tbl ps')
  th : ∀ a o, H a = some o → ∃ o', H' a = some o'
  nz : ∀ a o, Z' a = some o → Z a = none → H a = none ∨ F0 a
theorem Ext.fr0 {Z H Z' H' : Hp} {F0 : AS} (x : Ext Z H F0 Z' H') (a : Addr) (o : HO) (h : H a = some o) (z : Z a = none) (n : ¬ F0 a) : H' a = some o := (x.fr a o h n).resolve_right fun q => by
  rw [z] at q
  rcases q with q | ⟨_, _, _, q, _⟩
  · cases q.1
  · cases q
theorem Ext.refl (Z H : Hp) (F0 : AS) : Ext Z H F0 Z H :=
  ⟨fun _ _ h => h, fun _ _ h _ => .inl h, fun _ o h => ⟨o, h⟩, fun a o h n => by rw [n] at h; cases h⟩
theorem Ext.trans {Z H Z1 H1 Z2 H2 : Hp} {F0 F1 F2 : AS} (a : Ext Z H F0 Z1 H1) (b : Ext Z1 H1 F1 Z2 H2) (h0 : ∀ c, F0 c → F2 c) (h : ∀ c, F1 c → F2 c ∨ H c = none) : Ext Z H F2 Z2 H2 where
  zs := fun c o e => b.zs c o (a.zs c o e)
  fr := fun c o e n => by
    have n0 : ¬ F0 c := fun z => n (h0 c z)
    have n1 : ¬ F1 c := fun z => (h c z).elim n fun q => by rw [e] at q; cases q
    have back : ∀ u, Z1 c = some u → Z c = some u := fun u q4 => by
      cases z : Z c with
      | none =>
        rcases a.nz c u q4 z with e' | e'
        · rw [e] at e'; cases e'
        · exact absurd e' n0
      | some w => exact (a.zs c w z).symm.trans q4
    rcases a.fr c o e n0 with q | ⟨q1, q2, od, q3⟩ | ⟨m, ps, ps', q1, q2, q3⟩
    · rcases b.fr c o q n1 with q' | ⟨q4, q5, od, q6⟩ | ⟨m, ps, ps', q4, q5, q6⟩
      · exact .inl q'
      · exact .inr (.inl ⟨back _ q4, q5, od, q6⟩)
      · exact .inr (.inr ⟨m, ps, ps', back _ q4, q5, q6⟩)
    · rcases b.fr c _ q3 n1 with q' | ⟨q4, q5, _⟩ | ⟨_, _, _, _, q5, _⟩
      · exact .inr (.inl ⟨q1, q2, od, q'⟩)
      · exact q5.elim
      · cases q5
    · rcases b.fr c _ q3 n1 with q' | ⟨q4, q5, _⟩ | ⟨_, _, ps2, _, _, q6⟩
      · exact .inr (.inr ⟨m, ps, ps', q1, q2, q'⟩)
      · exact q5.elim
      · exact .inr (.inr ⟨m, ps, ps2, q1, q2, q6⟩)
  th := fun c o e => let ⟨o', e'⟩ := a.th c o e; b.th c o' e'
  nz := fun c o e n => by
    cases q : Z1 c with
    | some u => exact (a.nz c u q n).elim .inl fun z => .inr (h0 c z)
    | none =>
      rcases b.nz c o e q with z | z
      · refine .inl ?_
        cases q2 : H c with
        | none => rfl
        | some u =>
          obtain ⟨o', e'⟩ := a.th c u q2
          rw [z] at e'; cases e'
      · exact (h c z).elim .inr .inl
theorem Ext.mono {Z H Z1 H1 : Hp} {F0 F1 : AS} (a : Ext Z H F0 Z1 H1) (h : ∀ c, F0 c → F1 c) : Ext Z H F1 Z1 H1 :=
  ⟨a.zs, fun c o e n => a.fr c o e fun z => n (h c z), a.th, fun c o e n => (a.nz c o e n).elim .inl fun z => .inr (h c z)⟩
theorem Rep.ext {K : PySem.W.Frag} {Z H Z' H' : Hp} {v : V} {d : D} {F F0 : AS} (r : Rep K Z H v d F) (x : Ext Z H F0 Z' H') (ap : ∀ a, F a → ¬ F0 a) : Rep K Z' H' v d F :=
  r.keep x.zs fun a o f h z => ⟨x.fr0 a o h z (ap a f), by
    cases q : Z' a with
    | none => rfl
    | some u =>
      rcases x.nz a u q z with e | e
      · rw [h] at e; cases e
      · exact absurd e (ap a f)⟩
theorem RepL.ext {K : PySem.W.Frag} {Z H Z' H' : Hp} {v : List V} {d : List D} {F F0 : AS} (r : RepL K Z H v d F) (x : Ext Z H F0 Z' H') (ap : ∀ a, F a → ¬ F0 a) : RepL K Z' H' v d F :=
  RepL.keep x.zs r fun a o f h z => ⟨x.fr0 a o h z (ap a f), by
    cases q : Z' a with
    | none => rfl
    | some u =>
      rcases x.nz a u q z with e | e
      · rw [h] at e; cases e
      · exact absurd e (ap a f)⟩
/-- a state: what is frozen, the heap, the names' trees, what each name owns -/
structure W where
  Z : Hp
  H : Hp
  env : Env
  F : Nat → AS
structure SR (K : PySem.W.Frag) (σ : L2.St) (S : W) : Prop where
  zh : ZH S.Z S.H
  sl : ∀ i d, S.env[i]? = some (some d) → ∃ v, σ[i]? = some (some v) ∧ Rep K S.Z S.H v d (S.F i)
  ap : ∀ i j a, S.F i a → S.F j a → i = j
  tr : ∀ i a, S.F i a → (∃ o, S.H a = some o) ∧ S.Z a = none
  ln : S.env.length = σ.length
  tb : ∀ p, p ∈ Cls.tb → S.Z p.1 = some (mkT p.2)
/-- a step that may change what the names M own -/
structure Stp (M : List Nat) (S S' : W) : Prop where
  ext : Ext S.Z S.H (fun a => ∃ i, i ∈ M ∧ S.F i a) S'.Z S'.H
  frm : ∀ i, i ∉ M → S'.env[i]? = S.env[i]? ∧ S'.F i = S.F i
  nf : ∀ i a, i ∈ M → S'.F i a → (∃ j, j ∈ M ∧ S.F j a) ∨ S.H a = none
theorem Stp.refl (M : List Nat) (S : W) : Stp M S S := ⟨Ext.refl _ _ _, fun _ _ => ⟨rfl, rfl⟩, fun i a m h => .inl ⟨i, m, h⟩⟩
theorem Stp.none_of {M : List Nat} {S S' : W} (x : Stp M S S') {a : Addr} (h : S'.H a = none) : S.H a = none := by
  cases q : S.H a with
  | none => rfl
  | some u =>
    obtain ⟨o', e'⟩ := x.ext.th a u q
    rw [h] at e'; cases e'
theorem Stp.any {M : List Nat} {S S' : W} (x : Stp M S S') {i : Nat} {a : Addr} (h : S'.F i a) : (∃ j, S.F j a) ∨ S.H a = none := by
  by_cases hi : i ∈ M
  · rcases x.nf i a hi h with ⟨j, _, e⟩ | e
    · exact .inl ⟨j, e⟩
    · exact .inr e
  · rw [(x.frm i hi).2] at h
    exact .inl ⟨i, h⟩
theorem Stp.mono {M N : List Nat} {S S' : W} (x : Stp M S S') (h : ∀ i, i ∈ M → i ∈ N) : Stp N S S' :=
  ⟨x.ext.mono fun c ⟨i, a, b⟩ => ⟨i, h i a, b⟩, fun i n => x.frm i fun z => n (h i z), fun i a hi hf => by
    by_cases hm : i ∈ M
    · rcases x.nf i a hm hf with ⟨j, e1, e⟩ | e
      · exact .inl ⟨j, h j e1, e⟩
      · exact .inr e
    · rw [(x.frm i hm).2] at hf
      exact .inl ⟨i, hi, hf⟩⟩
theorem Stp.trans {M N : List Nat} {S S1 S2 : W} (x : Stp M S S1) (y : Stp N S1 S2) : Stp (M ++ N) S S2 := by
  have key : ∀ i c, i ∈ M ++ N → S1.F i c → (∃ j, j ∈ M ++ N ∧ S.F j c) ∨ S.H c = none := fun i c hi b => by
    by_cases hm : i ∈ M
    · rcases x.nf i c hm b with ⟨j, e1, e⟩ | e
      · exact .inl ⟨j, List.mem_append_left _ e1, e⟩
      · exact .inr e
    · rw [(x.frm i hm).2] at b
      exact .inl ⟨i, hi, b⟩
  refine ⟨x.ext.trans y.ext (fun c ⟨i, a, b⟩ => ⟨i, List.mem_append_left _ a, b⟩) fun c ⟨i, a, b⟩ => key i c (List.mem_append_right _ a) b, fun i n => ?_, fun i a hi h => ?_⟩
  · have h1 := x.frm i fun z => n (List.mem_append_left _ z)
    have h2 := y.frm i fun z => n (List.mem_append_right _ z)
    exact ⟨h2.1.trans h1.1, h2.2.trans h1.2⟩
  · by_cases hn : i ∈ N
    · rcases y.nf i a hn h with ⟨j, e1, e⟩ | e
      · exact key j a (List.mem_append_right _ e1) e
      · exact .inr (x.none_of e)
    · rw [(y.frm i hn).2] at h
      exact key i a hi h
/-- a value v that is the tree d, owned in Fv: apart from all names but for R -/
structure VP (K : PySem.W.Frag) (M R : List Nat) (S S' : W) (v : V) (d : D) (Fv : AS) : Prop where
  rep : Rep K S'.Z S'.H v d Fv
  tv : ∀ a, Fv a → (∃ o, S'.H a = some o) ∧ S'.Z a = none
  ow : ∀ a, Fv a → (∃ i, i ∈ R ∧ S'.F i a) ∨ ((∀ i, ¬ S'.F i a) ∧ (S.H a = none ∨ ∃ i, i ∈ M ∧ S.F i a))
def Dj (R M : List Nat) : Bool := R.all fun i => !(M.contains i)
theorem dj_out {R M : List Nat} (h : Dj R M = true) {i : Nat} (hi : i ∈ R) : i ∉ M := by
  have := List.all_eq_true.mp h i hi
  intro z
  simp [z] at this
section
variable {K : PySem.W.Frag} {M N R : List Nat} {S S1 S2 : W} {σ : L2.St} {v : V} {d : D} {Fv : AS}
/-- a value stays apart from what a later step changes -/
theorem VP.off (h : VP K M R S S1 v d Fv) (s1 : SR K σ S1) (dj : Dj R N = true) : ∀ a, Fv a → ¬ ∃ i, i ∈ N ∧ S1.F i a := by
  rintro a ha ⟨i, hi, hf⟩
  rcases h.ow a ha with ⟨r, hr, e⟩ | ⟨e, _⟩
  · exact (dj_out dj hr) (s1.ap r i a e hf ▸ hi)
  · exact e i hf
theorem VP.later (h : VP K M R S S1 v d Fv) (s1 : SR K σ S1) (x : Stp M S S1) (y : Stp N S1 S2) (dj : Dj R N = true) : VP K (M ++ N) R S S2 v d Fv := by
  have off := h.off s1 dj
  refine ⟨h.rep.ext y.ext off, fun a ha => ?_, fun a ha => ?_⟩
  · obtain ⟨⟨o, e⟩, z⟩ := h.tv a ha
    refine ⟨⟨o, y.ext.fr0 a o e z (off a ha)⟩, ?_⟩
    cases q : S2.Z a with
    | none => rfl
    | some u =>
      rcases y.ext.nz a u q z with e' | e'
      · rw [e] at e'; cases e'
      · exact absurd e' (off a ha)
  · rcases h.ow a ha with ⟨r, hr, e⟩ | ⟨e, e2⟩
    · exact .inl ⟨r, hr, by rw [(y.frm r (dj_out dj hr)).2]; exact e⟩
    · refine .inr ⟨fun i z => ?_, e2.imp id fun ⟨i, a1, a2⟩ => ⟨i, List.mem_append_left _ a1, a2⟩⟩
      rcases y.any z with ⟨j, q⟩ | q
      · exact e j q
      · obtain ⟨⟨o, e'⟩, _⟩ := h.tv a ha
        rw [e'] at q; cases q
theorem VP.first (h : VP K N R S1 S2 v d Fv) (x : Stp M S S1) : VP K (M ++ N) R S S2 v d Fv := by
  refine ⟨h.rep, h.tv, fun a ha => ?_⟩
  rcases h.ow a ha with e | ⟨e, e2⟩
  · exact .inl e
  · refine .inr ⟨e, ?_⟩
    rcases e2 with q | ⟨i, a1, a2⟩
    · exact .inl (x.none_of q)
    · by_cases hm : i ∈ M
      · rcases x.nf i a hm a2 with ⟨j, q1, q2⟩ | q
        · exact .inr ⟨j, List.mem_append_left _ q1, q2⟩
        · exact .inl q
      · rw [(x.frm i hm).2] at a2
        exact .inr ⟨i, List.mem_append_right _ a1, a2⟩
theorem VP.mono {R' : List Nat} (h : VP K M R S S1 v d Fv) (hm : ∀ i, i ∈ M → i ∈ N) (hr : ∀ i, i ∈ R → i ∈ R') : VP K N R' S S1 v d Fv :=
  ⟨h.rep, h.tv, fun a ha => (h.ow a ha).imp (fun ⟨i, a, b⟩ => ⟨i, hr i a, b⟩) fun ⟨a, b⟩ => ⟨a, b.imp id fun ⟨i, a, b⟩ => ⟨i, hm i a, b⟩⟩⟩
/-- a value that owns nothing -/
theorem VP.imm (h : Rep K S1.Z S1.H v d (fun _ => False)) : VP K M R S S1 v d (fun _ => False) := ⟨h, fun _ z => z.elim, fun _ z => z.elim⟩
end
abbrev TX := Env → (D → Env → Prop) → Prop
def lift (K : PySem.W.Frag) (M R : List Nat) (t : TX) : TE := fun σ H Q => ∃ S Qt, S.H = H ∧ SR K σ S ∧ t S.env Qt ∧
  ∀ S' v d Fv, Qt d S'.env → SR K σ S' → Stp M S S' → VP K M R S S' v d Fv → Q v S'.H
structure XX (X : Cx) (e : Expr) (M R : List Nat) (t : TX) : Prop where
  pe : PE X e (lift X.K M R t)
theorem pe_imp {X : Cx} {e : Expr} {t t' : TE} (h : PE X e t) (i : ∀ σ H Q, t' σ H Q → t σ H Q) : PE X e t' := ⟨fun pins s σ H Q I q => h.run pins s σ H Q I (i σ H Q q)⟩
theorem pt_imp {X : Cx} {e : Expr} {t t' : TT} (h : PT X e t) (i : ∀ σ H Q, t' σ H Q → t σ H Q) : PT X e t' := ⟨fun pins s σ H Q I q => h.run pins s σ H Q I (i σ H Q q)⟩
theorem ps_imp {X : Cx} {e : Stmt} {t t' : TS} (h : PS X e t) (i : ∀ D σ H, t' D σ H → t D σ H) : PS X e t' := ⟨fun pins s σ H D I q => h.run pins s σ H D I (i D σ H q)⟩
theorem pss_imp {X : Cx} {e : List Stmt} {t t' : TS} (h : PSs X e t) (i : ∀ D σ H, t' D σ H → t D σ H) : PSs X e t' := ⟨fun pins s σ H D I q => h.run pins s σ H D I (i D σ H q)⟩
/-- tests -/
abbrev TXT := Env → (Bool → Env → Prop) → Prop
def liftT (K : PySem.W.Frag) (M : List Nat) (t : TXT) : L2.TT := fun σ H Q => ∃ S Qt, S.H = H ∧ SR K σ S ∧ t S.env Qt ∧
  ∀ S' b, Qt b S'.env → SR K σ S' → Stp M S S' → Q b S'.H
structure XT (X : Cx) (e : Expr) (M : List Nat) (t : TXT) : Prop where
  pt : PT X e (liftT X.K M t)
end TT
namespace TT
open PySem PySem.Spec PyProof.Rows L2
variable [Cls]
abbrev nF : AS := fun _ => False
theorem Rep.imm {K : PySem.W.Frag} {Z H H' : Hp} {v : V} {d : D} {F G : AS} (r : Rep K Z H v d F) (hd : d.frz = d) : Rep K Z H' v d G := by
  refine Rep.rec (K := K) (Z := Z) (H := H) (motive_1 := fun v d F _ => d.frz = d → ∀ G, Rep K Z H' v d G) (motive_2 := fun v d F _ => frzL d = d → ∀ G, RepL K Z H' v d G)
    ?_ ?_ ?_ ?_ ?_ ?_ ?_ ?_ ?_ ?_ ?_ ?_ ?_ ?_ ?_ ?_ ?_ ?_ ?_ r hd G
  · intro F _ G; exact .non
  · intro F b _ G; exact .bl b
  · intro F b _ G; exact .int b
  · intro F b _ G; exact .str b
  · intro F b _ G; exact .byt b
  · intro F b _ G; exact .ty b
  · intro F a vs xs h1 h2 ih e G
    rw [D.frz] at e
    exact .tup h1 (ih (D.tup.inj e) G)
  · intro F G a vs xs h1 h2 h3 h4 h5 ih e; rw [D.frz] at e; cases (D.lst.inj e).1
  · intro F a vs xs h1 h2 ih e G
    rw [D.frz] at e
    exact .lstF h1 (ih (D.lst.inj e).2 _)
  · intro F a vs xs h1 h2 ih e G
    rw [D.frz] at e
    exact .kst h1 (ih (D.kst.inj e) _)
  · intro F G a m kvs h1 h2 h3 h4 h5 h6 ih e; rw [D.frz] at e; cases (D.dct.inj e).1
  · intro F a m kvs h1 h2 h3 ih e G
    rw [D.frz] at e
    have e2 := (D.dct.inj e).2
    refine .dctF h1 h2 (ih ?_ _)
    rw [frzL_map, List.map_map]
    rw [frzK_map] at e2
    conv => rhs; rw [← e2]
    rw [List.map_map]; rfl
  · intro F G a m kvs h1 h2 h3 h4 h5 h6 ih e; rw [D.frz] at e; cases (D.dtt.inj e).1
  · intro F a m kvs h1 h2 h3 ih e G
    rw [D.frz] at e
    have e2 := (D.dtt.inj e).2
    refine .dttF h1 h2 (ih ?_ _)
    rw [frzL_map, List.map_map]
    rw [frzT_map] at e2
    conv => rhs; rw [← e2]
    rw [List.map_map]; rfl
  · intro F G a C dx m fs h1 h2 h3 h4 h5 h6 ih e; rw [D.frz] at e; cases (D.ins.inj e).1
  · intro F a C dx m fs h1 h2 h3 ih e G
    rw [D.frz] at e
    have e2 := (D.ins.inj e).2.2
    refine .insF h1 h2 (ih ?_ _)
    rw [frzL_map, List.map_map]
    rw [frzF_map] at e2
    conv => rhs; rw [← e2]
    rw [List.map_map]; rfl
  · intro F a h1 e G; exact .kt0 h1
  · intro F _ G; exact .nil
  · intro F G E v vs d ds h1 h2 h3 h4 ih1 ih2 e F'
    rw [frzL] at e
    exact .cons (G := nF) (E := nF) (ih1 (List.cons.inj e).1 _) (ih2 (List.cons.inj e).2 _) (fun _ z => z.elim) (fun _ z => z.elim)
theorem Rep.freeze {K : PySem.W.Frag} {Z H Z' H' : Hp} {v : V} {d : D} {F G : AS} (r : Rep K Z H v d F) (hz : ∀ a o, Z a = some o → Z' a = some o) (hh : ∀ a o, F a → H a = some o → Z a = none → Z' a = some o) : Rep K Z' H' v d.frz G := by
  refine Rep.rec (K := K) (Z := Z) (H := H) (motive_1 := fun v d F _ => (∀ a o, F a → H a = some o → Z a = none → Z' a = some o) → ∀ G, Rep K Z' H' v d.frz G) (motive_2 := fun v d F _ => (∀ a o, F a → H a = some o → Z a = none → Z' a = some o) → ∀ G, RepL K Z' H' v (frzL d) G)
    ?_ ?_ ?_ ?_ ?_ ?_ ?_ ?_ ?_ ?_ ?_ ?_ ?_ ?_ ?_ ?_ ?_ ?_ ?_ r hh G
  · intro F _ G; rw [D.frz]; exact .non
  · intro F b _ G; rw [D.frz]; exact .bl b
  · intro F b _ G; rw [D.frz]; exact .int b
  · intro F b _ G; rw [D.frz]; exact .str b
  · intro F b _ G; rw [D.frz]; exact .byt b
  · intro F b _ G; rw [D.frz]; exact .ty b
  · intro F a vs xs h1 h2 ih hh G; rw [D.frz]; exact .tup (hz _ _ h1) (ih hh G)
  · intro F G a vs xs h1 h2 h3 h4 h5 ih hh G'
    rw [D.frz]
    exact .lstF (.inl (hh _ _ h1 h2 h3)) (ih (fun a o g => hh a o (h5 a g).1) _)
  · intro F a vs xs h1 h2 ih hh G'; rw [D.frz]; exact .lstF (Rd.sub hz h1) (ih (fun a o g => g.elim) _)
  · intro F a vs xs h1 h2 ih hh G'; rw [D.frz]; exact .kst (SqL.sub hz h1) (ih (fun a o g => g.elim) _)
  · intro F G a m kvs h1 h2 h3 h4 h5 h6 ih hh G'
    rw [D.frz, frzK_map]
    refine .dctF (.inl (hh _ _ h1 h2 h3)) (by rw [h4, List.map_map]; rfl) ?_
    have q := ih (fun a o g => hh a o (h6 a g).1) nF
    rw [frzL_map, List.map_map] at q
    rw [List.map_map]; exact q
  · intro F a m kvs h1 h2 h3 ih hh G'
    rw [D.frz, frzK_map]
    refine .dctF (Rd.sub hz h1) (by rw [h2, List.map_map]; rfl) ?_
    have q := ih (fun a o g => g.elim) nF
    rw [frzL_map, List.map_map] at q
    rw [List.map_map]; exact q
  · intro F G a m kvs h1 h2 h3 h4 h5 h6 ih hh G'
    rw [D.frz, frzT_map]
    refine .dttF (.inl (hh _ _ h1 h2 h3)) (by rw [h4, List.map_map]; rfl) ?_
    have q := ih (fun a o g => hh a o (h6 a g).1) nF
    rw [frzL_map, List.map_map] at q
    rw [List.map_map]; exact q
  · intro F a m kvs h1 h2 h3 ih hh G'
    rw [D.frz, frzT_map]
    refine .dttF (Rd.sub hz h1) (by rw [h2, List.map_map]; rfl) ?_
    have q := ih (fun a o g => g.elim) nF
    rw [frzL_map, List.map_map] at q
    rw [List.map_map]; exact q
  · intro F G a C dx m fs h1 h2 h3 h4 h5 h6 ih hh G'
    rw [D.frz, frzF_map]
    refine .insF (hh _ _ h1 h2 h3) (by rw [h4, List.map_map]; rfl) ?_
    have q := ih (fun a o g => hh a o (h6 a g).1) nF
    rw [frzL_map, List.map_map] at q
    rw [List.map_map]; exact q
  · intro F a C dx m fs h1 h2 h3 ih hh G'
    rw [D.frz, frzF_map]
    refine .insF (hz _ _ h1) (by rw [h2, List.map_map]; rfl) ?_
    have q := ih (fun a o g => g.elim) nF
    rw [frzL_map, List.map_map] at q
    rw [List.map_map]; exact q
  · intro F a h1 hh G; rw [D.frz]; exact .kt0 h1
  · intro F _ G; rw [frzL]; exact .nil
  · intro F G E v vs d ds h1 h2 h3 h4 ih1 ih2 hh F'
    rw [frzL]
    exact .cons (G := nF) (E := nF) (ih1 (fun a o g => hh a o (h3 a g)) _) (ih2 (fun a o g => hh a o (h4 a g).1) _) (fun _ z => z.elim) (fun _ z => z.elim)
theorem RepL.freeze {K : PySem.W.Frag} {Z H Z' H' : Hp} (hz : ∀ a o, Z a = some o → Z' a = some o) : ∀ {vs : List V} {ds : List D} {F G : AS}, RepL K Z H vs ds F →
    (∀ a o, F a → H a = some o → Z a = none → Z' a = some o) → RepL K Z' H' vs (frzL ds) G
  | _, _, _, _, .nil, _ => by rw [frzL]; exact .nil
  | _, _, _, _, .cons h1 h2 h3 h4, hh => by
    rw [frzL]
    exact .cons (G := nF) (E := nF) (h1.freeze hz fun a o g => hh a o (h3 a g)) (RepL.freeze hz h2 fun a o g => hh a o (h4 a g).1) (fun _ z => z.elim) (fun _ z => z.elim)
section
variable {K : PySem.W.Frag} {M N R : List Nat} {S S1 S2 : W} {σ σ' : L2.St} {v : V} {d : D} {Fv : AS}
/-- the state goes on: every slot stays, or is told anew -/
theorem SR.go {F0 : AS} {Z' H' : Hp} {env' : Env} {F' : Nat → AS} (s : SR K σ S) (x : Ext S.Z S.H F0 Z' H') (zh : ZH Z' H')
    (h : ∀ i, (env'[i]? = S.env[i]? ∧ σ'[i]? = σ[i]? ∧ F' i = S.F i ∧ ∀ a, S.F i a → ¬ F0 a) ∨
      ((∀ d, env'[i]? = some (some d) → ∃ v, σ'[i]? = some (some v) ∧ Rep K Z' H' v d (F' i)) ∧ ∀ a, F' i a → (∃ o, H' a = some o) ∧ Z' a = none))
    (ap : ∀ i j a, F' i a → F' j a → i = j) (hl : env'.length = σ'.length) : SR K σ' ⟨Z', H', env', F'⟩ := by
  refine ⟨zh, fun i d e => ?_, ap, fun i a e => ?_, hl, fun p hp => x.zs _ _ (s.tb p hp)⟩
  · rcases h i with ⟨h1, h2, h3, h4⟩ | ⟨h1, _⟩
    · obtain ⟨v, e1, r⟩ := s.sl i d (h1 ▸ e)
      refine ⟨v, h2.trans e1, ?_⟩
      show Rep K Z' H' v d (F' i)
      rw [h3]
      exact r.ext x h4
    · exact h1 d e
  · rcases h i with ⟨h1, h2, h3, h4⟩ | ⟨_, h1⟩
    · have e' : S.F i a := h3 ▸ e
      obtain ⟨⟨o, e1⟩, z⟩ := s.tr i a e'
      refine ⟨⟨o, x.fr0 a o e1 z (h4 a e')⟩, ?_⟩
      show Z' a = none
      cases q : Z' a with
      | none => rfl
      | some u =>
        rcases x.nz a u q z with e2 | e2
        · rw [e1] at e2; cases e2
        · exact absurd e2 (h4 a e')
    · exact h1 a e
/-- .. nothing owned changes -/
theorem SR.more {Z' H' : Hp} (s : SR K σ S) (x : Ext S.Z S.H nF Z' H') (zh : ZH Z' H') : SR K σ ⟨Z', H', S.env, S.F⟩ :=
  s.go x zh (fun i => .inl ⟨rfl, rfl, rfl, fun _ _ z => z⟩) s.ap s.ln
theorem Stp.more {Z' H' : Hp} (x : Ext S.Z S.H nF Z' H') : Stp M S ⟨Z', H', S.env, S.F⟩ := ⟨x.mono fun _ z => z.elim, fun _ _ => ⟨rfl, rfl⟩, fun i a m h => .inl ⟨i, m, h⟩⟩
/-- a new object -/
theorem ext_new {Z H : Hp} {p : Addr} {o : HO} (zh : ZH Z H) (hp : H p = none) : Ext Z H nF Z (upd H p o) ∧ ZH Z (upd H p o) := by
  have k : ∀ a u, H a = some u → upd H p o a = some u := fun a u h => by rw [upd_ne (ne_of_none h hp)]; exact h
  exact ⟨⟨fun _ _ h => h, fun a u h _ => .inl (k a u h), fun a u h => ⟨u, k a u h⟩, fun a o h n => by rw [n] at h; cases h⟩, fun a u h => (zh a u h).imp (k a u) (.imp (fun ⟨i, od, q⟩ => ⟨i, od, k a _ q⟩) fun ⟨m, ps, e1, e2, e3⟩ => ⟨m, ps, e1, k a _ e2, e3⟩)⟩
/-- a new frozen object -/
theorem ext_newZ {Z H : Hp} {p : Addr} {o : HO} (zh : ZH Z H) (hp : H p = none) : Ext Z H nF (upd Z p o) (upd H p o) ∧ ZH (upd Z p o) (upd H p o) := by
  have k : ∀ a u, H a = some u → upd H p o a = some u := fun a u h => by rw [upd_ne (ne_of_none h hp)]; exact h
  have zp : Z p = none := zh.none hp
  refine ⟨⟨fun a u h => by rw [upd_ne (ne_of_none h zp)]; exact h, fun a u h _ => .inl (k a u h), fun a u h => ⟨u, k a u h⟩, fun a u h n => .inl ?_⟩, fun a u h => ?_⟩
  · by_cases e : a = p
    · rw [e]; exact hp
    · rw [upd_ne e, n] at h; cases h
  · by_cases e : a = p
    · rw [e, upd_same] at h ⊢; exact .inl h
    · rw [upd_ne e] at h; exact (zh a u h).imp (k a u) (.imp (fun ⟨i, od, q⟩ => ⟨i, od, k a _ q⟩) fun ⟨m, ps, e1, e2, e3⟩ => ⟨m, ps, e1, k a _ e2, e3.sub fun b w hb => by rw [upd_ne (ne_of_none hb zp)]; exact hb⟩)
end
section
variable {X : Cx} {e : Expr} {pos : Pos}
def cD (d : D) : TX := fun env Q => Q d env
theorem x_const {v : V} {d : D} (h : PE X e (tC v)) (r : ∀ Z H, Rep X.K Z H v d nF) : XX X e [] [] (cD d) := ⟨pe_imp h fun σ H Q ⟨S, Qt, eH, s, q, k⟩ => by
  subst eH
  exact k S v d nF q s (.refl _ _) (.imm (r _ _))⟩
theorem x_int {i j pos} : XX X (.Constant (.int i) j pos) [] [] (cD (.int i)) := x_const pe_int fun _ _ => .int i
theorem x_bl {b j pos} : XX X (.Constant (.bool b) j pos) [] [] (cD (.bl b)) := x_const pe_bl fun _ _ => .bl b
theorem x_non {j pos} : XX X (.Constant .none j pos) [] [] (cD .non) := x_const pe_non fun _ _ => .non
theorem x_str {x j pos} : XX X (.Constant (.str x) j pos) [] [] (cD (.str x)) := x_const pe_str fun _ _ => .str x
def vImm (i : Nat) : TX := fun env Q => ∃ d, env[i]? = some (some d) ∧ d.frz = d ∧ Q d env
def vView (i : Nat) : TX := fun env Q => ∃ d, env[i]? = some (some d) ∧ Q d env
def vFrz (i : Nat) : TX := fun env Q => ∃ d, env[i]? = some (some d) ∧ Q d.frz (env.set i (some d.frz))
def vMove (i : Nat) : TX := fun env Q => ∃ d, env[i]? = some (some d) ∧ Q d (env.set i none)
theorem x_imm {i : Nat} (h : PE X e (tVar i)) : XX X e [] [] (vImm i) := ⟨pe_imp h fun σ H Q ⟨S, Qt, eH, s, ⟨d, e1, e2, q⟩, k⟩ => by
  subst eH
  obtain ⟨v, h1, r⟩ := s.sl i d e1
  exact ⟨v, h1, k S v d nF q s (.refl _ _) (.imm (r.imm e2))⟩⟩
theorem x_view {i : Nat} (h : PE X e (tVar i)) : XX X e [] [i] (vView i) := ⟨pe_imp h fun σ H Q ⟨S, Qt, eH, s, ⟨d, e1, q⟩, k⟩ => by
  subst eH
  obtain ⟨v, h1, r⟩ := s.sl i d e1
  exact ⟨v, h1, k S v d (S.F i) q s (.refl _ _) ⟨r, s.tr i, fun a ha => .inl ⟨i, by simp, ha⟩⟩⟩⟩
def dropF (F : Nat → AS) (i : Nat) : Nat → AS := fun j a => j ≠ i ∧ F j a
theorem dropF_ne {F : Nat → AS} {i j : Nat} (h : j ≠ i) : dropF F i j = F j := by funext a; unfold dropF; simp [h]
theorem SR.moved {K : PySem.W.Frag} {σ : L2.St} {S : W} (s : SR K σ S) (i : Nat) : SR K σ ⟨S.Z, S.H, S.env.set i none, dropF S.F i⟩ := by
  refine s.go (F0 := nF) (Ext.refl _ _ _) s.zh (fun j => ?_) (fun j k a h1 h2 => s.ap j k a h1.2 h2.2) (by rw [List.length_set]; exact s.ln)
  by_cases hj : j = i
  · subst hj
    refine .inr ⟨fun d e => ?_, fun a h => absurd rfl h.1⟩
    rw [List.getElem?_set] at e
    simp at e
  · exact .inl ⟨by rw [List.getElem?_set_ne (Ne.symm hj)], rfl, dropF_ne hj, fun _ _ z => z⟩
theorem x_move {i : Nat} (h : PE X e (tVar i)) : XX X e [i] [] (vMove i) := ⟨pe_imp h fun σ H Q ⟨S, Qt, eH, s, ⟨d, e1, q⟩, k⟩ => by
  subst eH
  obtain ⟨v, h1, r⟩ := s.sl i d e1
  refine ⟨v, h1, k ⟨S.Z, S.H, S.env.set i none, dropF S.F i⟩ v d (S.F i) q (s.moved i) ⟨Ext.refl _ _ _, fun j hj => ?_, fun j a hj h => absurd h.1 (by simpa using hj)⟩ ⟨r, s.tr i, fun a ha => .inr ⟨fun j z => z.1 (s.ap j i a z.2 ha), .inr ⟨i, by simp, ha⟩⟩⟩⟩
  have hj' : j ≠ i := by simpa using hj
  exact ⟨by rw [List.getElem?_set_ne (Ne.symm hj')], dropF_ne hj'⟩⟩
open Classical in
/-- what is owned in F is frozen -/
noncomputable def frzZ (Z H : Hp) (F : AS) : Hp := fun a => if F a then H a else Z a
theorem frzZ_in {Z H : Hp} {F : AS} {a : Addr} (h : F a) : frzZ Z H F a = H a := by unfold frzZ; rw [if_pos h]
theorem frzZ_out {Z H : Hp} {F : AS} {a : Addr} (h : ¬ F a) : frzZ Z H F a = Z a := by unfold frzZ; rw [if_neg h]
theorem ext_frz {Z H : Hp} {F : AS} (tr : ∀ a, F a → (∃ o, H a = some o) ∧ Z a = none) : Ext Z H F (frzZ Z H F) H :=
  ⟨fun a o h => by
    rw [frzZ_out fun z => by rw [(tr a z).2] at h; cases h]
    exact h, fun _ _ h _ => .inl h, fun a o h => ⟨o, h⟩, fun a o h n => by
    by_cases hf : F a
    · exact .inr hf
    · rw [frzZ_out hf, n] at h; cases h⟩
theorem frzZ_zh {Z H : Hp} {F : AS} (zh : ZH Z H) (tr : ∀ a, F a → (∃ o, H a = some o) ∧ Z a = none) : ZH (frzZ Z H F) H := fun a o h => by
  by_cases hf : F a
  · rw [frzZ_in hf] at h; exact .inl h
  · rw [frzZ_out hf] at h
    exact (zh a o h).imp id (.imp id fun ⟨m, ps, e1, e2, e3⟩ => ⟨m, ps, e1, e2, e3.sub (ext_frz tr).zs⟩)
theorem Rep.frzz {K : PySem.W.Frag} {Z H H' : Hp} {v : V} {d : D} {F G : AS} (r : Rep K Z H v d F) (tr : ∀ a, F a → (∃ o, H a = some o) ∧ Z a = none) : Rep K (frzZ Z H F) H' v d.frz G :=
  r.freeze (ext_frz tr).zs fun a o f h _ => by rw [frzZ_in f]; exact h
end
end TT
namespace TT
open PySem PySem.Spec PyProof.Rows L2
variable [Cls]
/-- a fresh value: only new objects -/
structure Fr (K : PySem.W.Frag) (S : W) (Z' H' : Hp) (v : V) (d : D) (Fv : AS) : Prop where
  ext : Ext S.Z S.H nF Z' H'
  zh : ZH Z' H'
  rep : Rep K Z' H' v d Fv
  nw : ∀ a, Fv a → S.H a = none ∧ (∃ o, H' a = some o) ∧ Z' a = none
section
variable {K : PySem.W.Frag} {M N R Ra Rb Ma Mb : List Nat} {S S1 S2 : W} {σ σ' : L2.St} {v : V} {d : D} {Fv : AS} {Z' H' : Hp}
theorem SR.noF (s : SR K σ S) {a : Addr} (h : S.H a = none) {i : Nat} (z : S.F i a) : False := by
  obtain ⟨⟨o, e⟩, _⟩ := s.tr i a z
  rw [h] at e; cases e
theorem Fr.sr (f : Fr K S Z' H' v d Fv) (s : SR K σ S) : SR K σ ⟨Z', H', S.env, S.F⟩ := s.more f.ext f.zh
theorem Fr.stp (f : Fr K S Z' H' v d Fv) : Stp M S ⟨Z', H', S.env, S.F⟩ := .more f.ext
theorem Fr.vp (f : Fr K S Z' H' v d Fv) (s : SR K σ S) : VP K M R S ⟨Z', H', S.env, S.F⟩ v d Fv :=
  ⟨f.rep, fun a h => (f.nw a h).2, fun a h => .inr ⟨fun i z => s.noF (f.nw a h).1 z, .inl (f.nw a h).1⟩⟩
theorem Fr.imm (s : SR K σ S) (r : Rep K S.Z S.H v d nF) : Fr K S S.Z S.H v d nF := ⟨.refl _ _ _, s.zh, r, fun _ z => z.elim⟩
/-- two values, one behind the other -/
theorem two {ta tb : TX} (dj : Dj Ra Mb = true) (s : SR K σ S) {Qt : D → D → Env → Prop} (q : ta S.env fun d env1 => tb env1 fun e env2 => Qt d e env2) {P : V → V → Hp → Prop}
    (k : ∀ S' x d Fx y e Fy, Qt d e S'.env → SR K σ S' → Stp (Ma ++ Mb) S S' → VP K (Ma ++ Mb) Ra S S' x d Fx → VP K (Ma ++ Mb) Rb S S' y e Fy → P x y S'.H) :
    lift K Ma Ra ta σ S.H fun x H1 => lift K Mb Rb tb σ H1 fun y H2 => P x y H2 :=
  ⟨S, _, rfl, s, q, fun S1 x d Fx q1 s1 st1 v1 => ⟨S1, _, rfl, s1, q1, fun S2 y e Fy q2 s2 st2 v2 => k S2 x d Fx y e Fy q2 s2 (st1.trans st2) (v1.later s1 st1 st2 dj) (v2.first st1)⟩⟩
theorem Stp.then0 {S3 : W} (x : Stp M S S1) (y : Stp [] S1 S3) : Stp M S S3 := by
  have z := x.trans y
  rw [List.append_nil] at z
  exact z
theorem VP.then0 {S3 : W} (h : VP K [] R S1 S3 v d Fv) (x : Stp M S S1) : VP K M R S S3 v d Fv := by
  have z := h.first x
  rw [List.append_nil] at z
  exact z
end
/-- an operator by what it makes of trees: a fresh value -/
def OpT (X : Cx) (f : Value → Value → Sem Value) (rt : D → D → (D → Prop) → Prop) : Prop :=
  ∃ r, OpR X f r ∧ ∀ (σ : L2.St) (S : W) (x : V) (d : D) (Fx : AS) (y : V) (e : D) (Fy : AS) (Qd : D → Prop) (P : V → Hp → Prop), SR X.K σ S → Rep X.K S.Z S.H x d Fx → Rep X.K S.Z S.H y e Fy → rt d e Qd →
    (∀ Z' H' v d' Fv, Qd d' → Fr X.K S Z' H' v d' Fv → P v H') → r x y S.H P
def UnT (X : Cx) (f : Value → Sem Value) (rt : D → (D → Prop) → Prop) : Prop :=
  ∃ r, UnR X f r ∧ ∀ (σ : L2.St) (S : W) (x : V) (d : D) (Fx : AS) (Qd : D → Prop) (P : V → Hp → Prop), SR X.K σ S → Rep X.K S.Z S.H x d Fx → rt d Qd →
    (∀ Z' H' v d' Fv, Qd d' → Fr X.K S Z' H' v d' Fv → P v H') → r x S.H P
def oOp (rt : D → D → (D → Prop) → Prop) (ta tb : TX) : TX := fun env Q => ta env fun d env1 => tb env1 fun e env2 => rt d e fun r => Q r env2
def oUn (rt : D → (D → Prop) → Prop) (ta : TX) : TX := fun env Q => ta env fun d env1 => rt d fun r => Q r env1
section
variable {X : Cx} {a b : Expr} {pos : Pos} {M Ma Mb R Ra Rb : List Nat} {ta tb tc : TX} {rt rt' : D → D → (D → Prop) → Prop} {ut : D → (D → Prop) → Prop}
theorem op_lift {r : L2.R2} (hh : ∀ (σ : L2.St) (S : W) (x : V) (d : D) (Fx : AS) (y : V) (e : D) (Fy : AS) (Qd : D → Prop) (P : V → Hp → Prop), SR X.K σ S → Rep X.K S.Z S.H x d Fx → Rep X.K S.Z S.H y e Fy → rt d e Qd →
    (∀ Z' H' v d' Fv, Qd d' → Fr X.K S Z' H' v d' Fv → P v H') → r x y S.H P) (dj : Dj Ra Mb = true) (σ : L2.St) (H : Hp) (Q : VK) (h : lift X.K (Ma ++ Mb) [] (oOp rt ta tb) σ H Q) : tOp r (lift X.K Ma Ra ta) (lift X.K Mb Rb tb) σ H Q := by
  obtain ⟨S, Qt, eH, s, q, k⟩ := h
  subst eH
  refine two dj s q fun S' x d Fx y e Fy q1 s1 st v1 v2 => ?_
  refine hh σ S' x d Fx y e Fy _ _ s1 v1.rep v2.rep q1 fun Z' H' v d' Fv q2 f => ?_
  exact k ⟨Z', H', S'.env, S'.F⟩ v d' Fv q2 (f.sr s1) (st.then0 f.stp) ((f.vp s1).then0 st)
theorem x_op {op : Operator} (ho : OpT X (binaryOp op) rt) (ha : XX X a Ma Ra ta) (hb : XX X b Mb Rb tb) (dj : Dj Ra Mb = true := by rfl) : XX X (.BinOp a op b pos) (Ma ++ Mb) [] (oOp rt ta tb) := by
  obtain ⟨r, ho, hh⟩ := ho
  exact ⟨pe_imp (pe_op ho ha.pe hb.pe) fun σ H Q h => op_lift hh dj σ H Q h⟩
theorem x_un {op : UnaryOp} (ho : UnT X (unaryOp op) ut) (ha : XX X a M R ta) : XX X (.UnaryOp op a pos) M [] (oUn ut ta) := by
  obtain ⟨r, ho, hh⟩ := ho
  refine ⟨pe_imp (pe_un ho ha.pe) fun σ H Q ⟨S, Qt, eH, s, q, k⟩ => ?_⟩
  subst eH
  refine ⟨S, _, rfl, s, q, fun S' x d Fx q1 s1 st v1 => hh σ S' x d Fx _ _ s1 v1.rep q1 fun Z' H' v d' Fv q2 f => ?_⟩
  exact k ⟨Z', H', S'.env, S'.F⟩ v d' Fv q2 (f.sr s1) (st.then0 f.stp) ((f.vp s1).then0 st)
theorem x_cmp {op : CmpOp} (ho : OpT X (compareOp op) rt) (ha : XX X a Ma Ra ta) (hb : XX X b Mb Rb tb) (dj : Dj Ra Mb = true := by rfl) (hm : behindInMarks op b = false := by first | exact nomark _ | rfl) : XX X (.Compare a [op] [b] pos) (Ma ++ Mb) [] (oOp rt ta tb) := by
  obtain ⟨r, ho, hh⟩ := ho
  exact ⟨pe_imp (pe_cmpR ho ha.pe hb.pe hm) fun σ H Q h => op_lift hh dj σ H Q h⟩
/-- a value that is a bool, as a test -/
def tBl (t : TX) : TXT := fun env Q => t env fun d env1 => ∃ b, d = .bl b ∧ Q b env1
theorem Rep.bl_inv {K : PySem.W.Frag} {Z H : Hp} {v : V} {b : Bool} {F : AS} (r : Rep K Z H v (.bl b) F) : v = .bl b := by cases r; rfl
theorem Rep.int_inv {K : PySem.W.Frag} {Z H : Hp} {v : V} {b : Int} {F : AS} (r : Rep K Z H v (.int b) F) : v = .int b := by cases r; rfl
theorem Rep.str_inv {K : PySem.W.Frag} {Z H : Hp} {v : V} {b : Str} {F : AS} (r : Rep K Z H v (.str b) F) : v = .str b := by cases r; rfl
theorem Rep.non_inv {K : PySem.W.Frag} {Z H : Hp} {v : V} {F : AS} (r : Rep K Z H v .non F) : v = .non := by cases r; rfl
theorem xt_cmp {op : CmpOp} (ho : OpT X (compareOp op) rt) (ha : XX X a Ma Ra ta) (hb : XX X b Mb Rb tb) (dj : Dj Ra Mb = true := by rfl) (hm : behindInMarks op b = false := by first | exact nomark _ | rfl) : XT X (.Compare a [op] [b] pos) (Ma ++ Mb) (tBl (oOp rt ta tb)) := by
  obtain ⟨r, ho, hh⟩ := ho
  refine ⟨pt_imp (pt_cmpR ho ha.pe hb.pe hm) fun σ H Q ⟨S, Qt, eH, s, q, k⟩ => ?_⟩
  subst eH
  refine op_lift hh dj σ S.H _ ⟨S, _, rfl, s, q, fun S' v d Fv ⟨c, e, q1⟩ s1 st v1 => ?_⟩
  subst e
  exact ⟨c, v1.rep.bl_inv, k S' c q1 s1 st⟩
theorem xt_val (ha : XX X a M R ta) (he : ∀ whole, isTrue a X.env whole = (do let v ← whole; standAt a.pos; holding [v] (truthy v)) := by intro _; rfl) : XT X a M (tBl ta) := by
  refine ⟨pt_imp (pt_val ha.pe he) fun σ H Q ⟨S, Qt, eH, s, q, k⟩ => ?_⟩
  subst eH
  refine ⟨S, _, rfl, s, q, fun S' v d Fv ⟨c, e, q1⟩ s1 st v1 => ?_⟩
  subst e
  exact ⟨c, v1.rep.bl_inv, k S' c q1 s1 st⟩
/-- a < b < c -/
def oChain (rt rt' : D → D → (D → Prop) → Prop) (ta tb tc : TX) : TX := fun env Q => ta env fun x env1 => tb env1 fun y env2 => rt x y fun z => ∃ k, z = .bl k ∧ if k = true then tc env2 fun w env3 => rt' y w fun z' => Q z' env3 else Q (.bl false) env2
/-- not -/
def tNotT (t : TXT) : TXT := fun env Q => t env fun b env1 => Q (!b) env1
theorem xt_not {t : TXT} (h : XT X a M t) : XT X (.UnaryOp .Not a pos) M (tNotT t) := ⟨pt_imp (pt_not h.pt) fun σ H Q ⟨S, Qt, eH, s, q, k⟩ => by
  subst eH
  exact ⟨S, _, rfl, s, q, fun S' b q1 s1 st => k S' (!b) q1 s1 st⟩⟩
structure XW (X : Cx) (e : Expr) (M : List Nat) (t : TXT) : Prop where
  pw : PW X e (liftT X.K M t)
theorem XW.pt {t : TXT} {e : Expr} (h : XW X e M t) : XT X e M t := ⟨h.pw.pt⟩
def tAndT (t u : TXT) : TXT := fun env Q => t env fun b env1 => if b = true then u env1 Q else Q false env1
def tOrT (t u : TXT) : TXT := fun env Q => t env fun b env1 => if b = true then Q true env1 else u env1 Q
theorem pw_imp {X : Cx} {e : Expr} {t t' : L2.TT} (h : PW X e t) (i : ∀ σ H Q, t' σ H Q → t σ H Q) : PW X e t' := ⟨fun w pins s σ H Q I q => h.run w pins s σ H Q I (i σ H Q q)⟩
theorem xw_and1 {t : TXT} (h : XT X a M t) : XW X (.BoolOp .And [a] pos) M t := ⟨pw_and1 h.pt⟩
theorem xw_or1 {t : TXT} (h : XT X a M t) : XW X (.BoolOp .Or [a] pos) M t := ⟨pw_or1 h.pt⟩
theorem xw_and {t u : TXT} {rest : List Expr} (h : XT X a Ma t) (h2 : XW X (.BoolOp .And (b :: rest) pos) Mb u) : XW X (.BoolOp .And (a :: b :: rest) pos) (Ma ++ Mb) (tAndT t u) := ⟨pw_imp (pw_and h.pt h2.pw) fun σ H Q ⟨S, Qt, eH, s, q, k⟩ => by
  subst eH
  refine ⟨S, _, rfl, s, q, fun S1 c q1 s1 st1 => ?_⟩
  cases c with
  | true => exact ⟨S1, _, rfl, s1, q1, fun S2 c' q2 s2 st2 => k S2 c' q2 s2 (st1.trans st2)⟩
  | false => exact k S1 false q1 s1 (st1.mono fun _ z => List.mem_append_left _ z)⟩
theorem xw_or {t u : TXT} {rest : List Expr} (h : XT X a Ma t) (h2 : XW X (.BoolOp .Or (b :: rest) pos) Mb u) : XW X (.BoolOp .Or (a :: b :: rest) pos) (Ma ++ Mb) (tOrT t u) := ⟨pw_imp (pw_or h.pt h2.pw) fun σ H Q ⟨S, Qt, eH, s, q, k⟩ => by
  subst eH
  refine ⟨S, _, rfl, s, q, fun S1 c q1 s1 st1 => ?_⟩
  cases c with
  | true => exact k S1 true q1 s1 (st1.mono fun _ z => List.mem_append_left _ z)
  | false => exact ⟨S1, _, rfl, s1, q1, fun S2 c' q2 s2 st2 => k S2 c' q2 s2 (st1.trans st2)⟩⟩
/-- .. as values (bools) -/
def oAnd (ta tb : TX) : TX := fun env Q => ta env fun x env1 => ∃ c, x = .bl c ∧ if c = true then tb env1 Q else Q (.bl false) env1
def oOr (ta tb : TX) : TX := fun env Q => ta env fun x env1 => ∃ c, x = .bl c ∧ if c = true then Q (.bl true) env1 else tb env1 Q
theorem VP.bl {K : PySem.W.Frag} {S S1 : W} {c : Bool} : VP K M R S S1 (.bl c) (.bl c) nF := .imm (.bl c)
theorem x_one {op} (h : XX X a M R ta) : XX X (.BoolOp op [a] pos) M R ta := ⟨pe_one h.pe⟩
theorem x_and {rest : List Expr} (ha : XX X a Ma Ra ta) (hb : XX X (.BoolOp .And (b :: rest) pos) Mb Rb tb) : XX X (.BoolOp .And (a :: b :: rest) pos) (Ma ++ Mb) Rb (oAnd ta tb) := ⟨pe_imp (pe_and ha.pe hb.pe) fun σ H Q ⟨S, Qt, eH, s, q, k⟩ => by
  subst eH
  refine ⟨S, _, rfl, s, q, fun S1 x d Fx ⟨c, e, q1⟩ s1 st1 v1 => ?_⟩
  subst e
  refine ⟨c, v1.rep.bl_inv, ?_⟩
  cases c with
  | true => exact ⟨S1, _, rfl, s1, q1, fun S2 y e Fy q2 s2 st2 v2 => k S2 y e Fy q2 s2 (st1.trans st2) (v2.first st1)⟩
  | false => exact k S1 _ _ nF q1 s1 (st1.mono fun _ z => List.mem_append_left _ z) .bl⟩
def oNot (ta : TX) : TX := fun env Q => ta env fun x env1 => ∃ c, x = .bl c ∧ Q (.bl (!c)) env1
theorem x_not (ha : XX X a M R ta) : XX X (.UnaryOp .Not a pos) M [] (oNot ta) := ⟨pe_imp (pe_not ha.pe) fun σ H Q ⟨S, Qt, eH, s, q, k⟩ => by
  subst eH
  refine ⟨S, _, rfl, s, q, fun S1 x d Fx ⟨c, e, q1⟩ s1 st1 v1 => ?_⟩
  subst e
  exact ⟨c, v1.rep.bl_inv, k S1 _ _ nF q1 s1 st1 .bl⟩⟩
def oIf (t : TXT) (ta tb : TX) : TX := fun env Q => t env fun c env1 => if c = true then ta env1 Q else tb env1 Q
theorem x_if {c : Expr} {t : TXT} (hc : XT X c M t) (ha : XX X a Ma Ra ta) (hb : XX X b Mb Rb tb) : XX X (.IfExp c a b pos) (M ++ (Ma ++ Mb)) (Ra ++ Rb) (oIf t ta tb) := ⟨pe_imp (pe_ifExp hc.pt ha.pe hb.pe) fun σ H Q ⟨S, Qt, eH, s, q, k⟩ => by
  subst eH
  refine ⟨S, _, rfl, s, q, fun S1 c q1 s1 st1 => ?_⟩
  cases c with
  | true => exact ⟨S1, _, rfl, s1, q1, fun S2 y e Fy q2 s2 st2 v2 => k S2 y e Fy q2 s2 ((st1.trans st2).mono fun i hi => by simp only [List.mem_append] at hi ⊢; rcases hi with h | h <;> simp [h]) ((v2.first st1).mono (fun i hi => by simp only [List.mem_append] at hi ⊢; rcases hi with h | h <;> simp [h]) fun i hi => List.mem_append_left _ hi)⟩
  | false => exact ⟨S1, _, rfl, s1, q1, fun S2 y e Fy q2 s2 st2 v2 => k S2 y e Fy q2 s2 ((st1.trans st2).mono fun i hi => by simp only [List.mem_append] at hi ⊢; rcases hi with h | h <;> simp [h]) ((v2.first st1).mono (fun i hi => by simp only [List.mem_append] at hi ⊢; rcases hi with h | h <;> simp [h]) fun i hi => List.mem_append_right _ hi)⟩⟩
def rI2 (C : Int → Int → Prop) (g : Int → Int → D) : D → D → (D → Prop) → Prop := fun x y Q => ∃ i j, x = .int i ∧ y = .int j ∧ C i j ∧ Q (g i j)
def rI2' (g : Int → Int → D) : D → D → (D → Prop) → Prop := fun x y Q => ∃ i j, x = .int i ∧ y = .int j ∧ Q (g i j)
theorem opT_I {f : Value → Value → Sem Value} {C : Int → Int → Prop} {g : Int → Int → V} {gd : Int → Int → D} (h : OpR X f (rI C g)) (hg : ∀ i j Z H, Rep X.K Z H (g i j) (gd i j) nF) : OpT X f (rI2 C gd) :=
  ⟨_, h, fun σ S x d Fx y e Fy Qd P s rx ry ⟨i, j, e1, e2, c, q⟩ k => by
    subst e1 e2
    exact ⟨i, j, rx.int_inv, ry.int_inv, c, k _ _ _ _ _ q (.imm s (hg i j _ _))⟩⟩
theorem opT_I0 {f : Value → Value → Sem Value} {g : Int → Int → V} {gd : Int → Int → D} (h : OpR X f (rI0 g)) (hg : ∀ i j Z H, Rep X.K Z H (g i j) (gd i j) nF) : OpT X f (rI2' gd) :=
  ⟨_, h, fun σ S x d Fx y e Fy Qd P s rx ry ⟨i, j, e1, e2, q⟩ k => by
    subst e1 e2
    exact ⟨i, j, rx.int_inv, ry.int_inv, k _ _ _ _ _ q (.imm s (hg i j _ _))⟩⟩
abbrev rAddI : D → D → (D → Prop) → Prop := rI2' fun i j => .int (i + j)
theorem o_add : OpT X (binaryOp .Add) rAddI := opT_I0 op_add fun i j _ _ => .int _
abbrev rSubI : D → D → (D → Prop) → Prop := rI2' fun i j => .int (i - j)
theorem o_sub : OpT X (binaryOp .Sub) rSubI := opT_I0 op_sub fun i j _ _ => .int _
abbrev rMulI : D → D → (D → Prop) → Prop := rI2 CMul fun i j => .int (i * j)
theorem o_mul : OpT X (binaryOp .Mult) rMulI := opT_I op_mul fun i j _ _ => .int _
abbrev rModI : D → D → (D → Prop) → Prop := rI2 (fun _ j => 0 < j) fun i j => .int (i % j)
theorem o_mod : OpT X (binaryOp .Mod) rModI := opT_I op_mod fun i j _ _ => .int _
abbrev rLtI : D → D → (D → Prop) → Prop := rI2' fun i j => .bl (decide (i < j))
theorem o_lt : OpT X (compareOp .Lt) rLtI := opT_I0 op_lt fun i j _ _ => .bl _
abbrev rLeI : D → D → (D → Prop) → Prop := rI2' fun i j => .bl (decide (i ≤ j))
theorem o_le : OpT X (compareOp .LtE) rLeI := opT_I0 op_le fun i j _ _ => .bl _
abbrev rGtI : D → D → (D → Prop) → Prop := rI2' fun i j => .bl (decide (j < i))
theorem o_gt : OpT X (compareOp .Gt) rGtI := opT_I0 op_gt fun i j _ _ => .bl _
abbrev rGeI : D → D → (D → Prop) → Prop := rI2' fun i j => .bl (decide (j ≤ i))
theorem o_ge : OpT X (compareOp .GtE) rGeI := opT_I0 op_ge fun i j _ _ => .bl _
/-- == of ints -/
abbrev rEqI : D → D → (D → Prop) → Prop := rI2' fun i j => .bl (decide (i = j))
theorem o_eqI : OpT X (compareOp .Eq) rEqI :=
  ⟨_, op_eq, fun σ S x d Fx y e Fy Qd P s rx ry ⟨i, j, e1, e2, q⟩ k => by
    subst e1 e2
    rw [rx.int_inv, ry.int_inv]
    refine ⟨rfl, ?_⟩
    have : decide (V.int i = V.int j) = decide (i = j) := by rw [dec_int, Bool.beq_eq_decide_eq]
    rw [this]
    exact k _ _ _ _ _ q (.imm s (.bl _))⟩
abbrev rNeI : D → D → (D → Prop) → Prop := rI2' fun i j => .bl (!decide (i = j))
theorem o_neI : OpT X (compareOp .NotEq) rNeI :=
  ⟨_, op_ne, fun σ S x d Fx y e Fy Qd P s rx ry ⟨i, j, e1, e2, q⟩ k => by
    subst e1 e2
    rw [rx.int_inv, ry.int_inv]
    refine ⟨rfl, ?_⟩
    have : decide (V.int i = V.int j) = decide (i = j) := by rw [dec_int, Bool.beq_eq_decide_eq]
    rw [this]
    exact k _ _ _ _ _ q (.imm s (.bl _))⟩
def rU1 (g : Int → D) : D → (D → Prop) → Prop := fun x Q => ∃ i, x = .int i ∧ Q (g i)
abbrev rNegI : D → (D → Prop) → Prop := rU1 fun i => .int (-i)
theorem u_neg : UnT X (unaryOp .USub) rNegI :=
  ⟨_, un_neg, fun σ S x d Fx Qd P s rx ⟨i, e1, q⟩ k => by
    subst e1
    exact ⟨i, rx.int_inv, k _ _ _ _ _ q (.imm s (.int _))⟩⟩
def isNon : D → Bool
  | .non => true
  | _ => false
abbrev rIsN : D → D → (D → Prop) → Prop := fun x y Q => y = .non ∧ Q (.bl (isNon x))
abbrev rNotN : D → D → (D → Prop) → Prop := fun x y Q => y = .non ∧ Q (.bl (!isNon x))
theorem chain_lift {r r' : L2.R2} (hh : ∀ (σ : L2.St) (S : W) (x : V) (d : D) (Fx : AS) (y : V) (e : D) (Fy : AS) (Qd : D → Prop) (P : V → Hp → Prop), SR X.K σ S → Rep X.K S.Z S.H x d Fx → Rep X.K S.Z S.H y e Fy → rt d e Qd →
    (∀ Z' H' v d' Fv, Qd d' → Fr X.K S Z' H' v d' Fv → P v H') → r x y S.H P)
    (hh' : ∀ (σ : L2.St) (S : W) (x : V) (d : D) (Fx : AS) (y : V) (e : D) (Fy : AS) (Qd : D → Prop) (P : V → Hp → Prop), SR X.K σ S → Rep X.K S.Z S.H x d Fx → Rep X.K S.Z S.H y e Fy → rt' d e Qd →
    (∀ Z' H' v d' Fv, Qd d' → Fr X.K S Z' H' v d' Fv → P v H') → r' x y S.H P) {Mc Rc : List Nat} (dj : Dj Ra Mb = true) (dj2 : Dj Rb Mc = true) (σ : L2.St) (H : Hp) (Q : VK)
    (h : lift X.K (Ma ++ Mb ++ Mc) [] (oChain rt rt' ta tb tc) σ H Q) : tChain r r' (lift X.K Ma Ra ta) (lift X.K Mb Rb tb) (lift X.K Mc Rc tc) σ H Q := by
  obtain ⟨S, Qt, eH, s, q, k⟩ := h
  subst eH
  refine two dj s q fun S' x d Fx y e Fy q1 s1 st v1 v2 => ?_
  refine hh σ S' x d Fx y e Fy _ _ s1 v1.rep v2.rep q1 fun Z' H' v d' Fv ⟨c, ec, q2⟩ f => ?_
  subst ec
  refine ⟨c, f.rep.bl_inv, ?_⟩
  have s3 := f.sr s1
  have st3 := st.then0 (M := Ma ++ Mb) f.stp
  cases c with
  | false => exact k ⟨Z', H', S'.env, S'.F⟩ _ _ nF q2 s3 (st3.mono fun _ z => List.mem_append_left _ z) .bl
  | true =>
    refine ⟨⟨Z', H', S'.env, S'.F⟩, _, rfl, s3, q2, fun S4 w g Fw q4 s4 st4 v4 => ?_⟩
    have v2' := ((v2.later (N := []) s1 st f.stp (by unfold Dj; simp)).later s3 (st.trans f.stp) st4 dj2).rep
    refine hh' σ S4 y e Fy w g Fw _ _ s4 v2' v4.rep q4 fun Z5 H5 v5 d5 F5 q5 f5 => ?_
    have st5 := st3.trans st4
    exact k ⟨Z5, H5, S4.env, S4.F⟩ v5 d5 F5 q5 (f5.sr s4) (st5.then0 f5.stp) ((f5.vp s4).then0 st5)
theorem x_chain {op op' : CmpOp} {c : Expr} {Mc Rc : List Nat} (ho : OpT X (compareOp op) rt) (ho' : OpT X (compareOp op') rt') (ha : XX X a Ma Ra ta) (hb : XX X b Mb Rb tb) (hc : XX X c Mc Rc tc) (dj : Dj Ra Mb = true := by rfl) (dj2 : Dj Rb Mc = true := by rfl)
    (hm : lastMarks [op, op'] [b, c] = false := by with_unfolding_all rfl) : XX X (.Compare a [op, op'] [b, c] pos) (Ma ++ Mb ++ Mc) [] (oChain rt rt' ta tb tc) := by
  obtain ⟨r, ho, hh⟩ := ho
  obtain ⟨r', ho', hh'⟩ := ho'
  exact ⟨pe_imp (pe_chain ho ho' ha.pe hb.pe hc.pe hm) fun σ H Q h => chain_lift hh hh' dj dj2 σ H Q h⟩
theorem xt_chain {op op' : CmpOp} {c : Expr} {Mc Rc : List Nat} (ho : OpT X (compareOp op) rt) (ho' : OpT X (compareOp op') rt') (ha : XX X a Ma Ra ta) (hb : XX X b Mb Rb tb) (hc : XX X c Mc Rc tc) (dj : Dj Ra Mb = true := by rfl) (dj2 : Dj Rb Mc = true := by rfl)
    (hm : lastMarks [op, op'] [b, c] = false := by with_unfolding_all rfl) : XT X (.Compare a [op, op'] [b, c] pos) (Ma ++ Mb ++ Mc) (tBl (oChain rt rt' ta tb tc)) := by
  obtain ⟨r, ho, hh⟩ := ho
  obtain ⟨r', ho', hh'⟩ := ho'
  refine ⟨pt_imp (pt_chain ho ho' ha.pe hb.pe hc.pe hm) fun σ H Q ⟨S, Qt, eH, s, q, k⟩ => ?_⟩
  subst eH
  refine chain_lift hh hh' dj dj2 σ S.H _ ⟨S, _, rfl, s, q, fun S' v d Fv ⟨c, e, q1⟩ s1 st v1 => ?_⟩
  subst e
  exact ⟨c, v1.rep.bl_inv, k S' c q1 s1 st⟩
end
end TT
namespace TT
open PySem PySem.Spec PyProof.Rows L2
variable [Cls]
section
variable {K : PySem.W.Frag} {Z H : Hp} {v : V} {d : D} {F : AS} {vs : List V} {ds : List D}
theorem Rd.zh {a : Addr} {u : HO} (zh : ZH Z H) (r : Rd Z a u) (hx : ∀ q, u ≠ mkT q := by exact fun q z => nomatch z) : Rd H a u := ZH.rd zh r hx
theorem Rep.lst_inv {o : Bool} {xs : List D} (zh : ZH Z H) (r : Rep K Z H v (.lst o xs) F) : ∃ a vs, v = .ref a ∧ Rd H a (.lst vs) ∧ RepL K Z H vs xs F := by
  cases r with
  | lstO a b c e f => exact ⟨_, _, rfl, .inl b, e.mono fun c z => (f c z).1⟩
  | lstF a b => exact ⟨_, _, rfl, ZH.rd zh a, b.mono fun _ z => z.elim⟩
theorem Rep.kst_inv {xs : List D} (zh : ZH Z H) (r : Rep K Z H v (.kst xs) F) : ∃ a vs, v = .ref a ∧ SqL K H a vs ∧ RepL K Z H vs xs F := by
  cases r with
  | kst a b => exact ⟨_, _, rfl, ZH.sq zh a, b.mono fun _ z => z.elim⟩
theorem Rep.tup_inv {xs : List D} (zh : ZH Z H) (r : Rep K Z H v (.tup xs) F) : ∃ a vs, v = .ref a ∧ H a = some (.tup vs) ∧ Z a = some (.tup vs) ∧ RepL K Z H vs xs F := by
  cases r with
  | tup a b => exact ⟨_, _, rfl, zh.tup a, a, b⟩
theorem Rep.dct_inv {o : Bool} {kvs : List (Key × D)} (zh : ZH Z H) (r : Rep K Z H v (.dct o kvs) F) : ∃ a m, v = .ref a ∧ Rd H a (.dK m) ∧ m.map (·.1) = kvs.map (·.1) ∧ RepL K Z H (m.map (·.2)) (kvs.map (·.2)) F := by
  cases r with
  | dctO a b c e f g => exact ⟨_, _, rfl, .inl b, e, f.mono fun c z => (g c z).1⟩
  | dctF a b c => exact ⟨_, _, rfl, ZH.rd zh a, b, c.mono fun _ z => z.elim⟩
theorem Rep.dtt_inv {o : Bool} {kvs : List (List Key × D)} (zh : ZH Z H) (r : Rep K Z H v (.dtt o kvs) F) : ∃ a m, v = .ref a ∧ Rd H a (.dT m) ∧ m.map (·.1) = kvs.map (·.1) ∧ RepL K Z H (m.map (·.2)) (kvs.map (·.2)) F := by
  cases r with
  | dttO a b c e f g => exact ⟨_, _, rfl, .inl b, e, f.mono fun c z => (g c z).1⟩
  | dttF a b c => exact ⟨_, _, rfl, ZH.rd zh a, b, c.mono fun _ z => z.elim⟩
theorem RepL.length : ∀ {vs : List V} {ds : List D} {F : AS}, RepL K Z H vs ds F → vs.length = ds.length
  | _, _, _, .nil => rfl
  | _, _, _, .cons _ h _ _ => congrArg (· + 1) (RepL.length h)
theorem RepL.get : ∀ {vs : List V} {ds : List D} {F : AS} {i : Nat} {d : D}, RepL K Z H vs ds F → ds[i]? = some d → ∃ v, vs[i]? = some v ∧ Rep K Z H v d F
  | _, _, _, _, _, .nil, e => by simp at e
  | _, _, _, 0, _, .cons r _ f _, e => by simp at e; subst e; exact ⟨_, rfl, r.mono f⟩
  | _, _, _, i + 1, _, .cons _ t _ g, e => by
    obtain ⟨v, h1, h2⟩ := RepL.get (i := i) t (by simpa using e)
    exact ⟨v, by simpa using h1, h2.mono fun a z => (g a z).1⟩
theorem RepL.of_ints : ∀ (ns : List Int) {F : AS}, RepL K Z H (ns.map V.int) (ns.map D.int) F
  | [], _ => .nil
  | n :: ns, _ => .cons (G := nF) (E := nF) (.int n) (RepL.of_ints ns) (fun _ z => z.elim) fun _ z => z.elim
theorem RepL.imm' : ∀ {vs : List V} {ds : List D} {F : AS} {H' : Hp} {G : AS}, RepL K Z H vs ds F → frzL ds = ds → RepL K Z H' vs ds G
  | _, _, _, _, _, .nil, _ => .nil
  | _, _, _, _, _, .cons h1 h2 _ _, e => by
    rw [frzL] at e
    exact .cons (G := nF) (E := nF) (h1.imm (List.cons.inj e).1) (RepL.imm' h2 (List.cons.inj e).2) (fun _ z => z.elim) fun _ z => z.elim
/-- each by itself (they may lie in one another) -/
abbrev RepA (K : PySem.W.Frag) (Z H : Hp) (F : AS) : List V → List D → Prop := Paired fun v d => Rep K Z H v d F
end
abbrev TXA := Env → (List D → Env → Prop) → Prop
structure VPA (K : PySem.W.Frag) (M R : List Nat) (S S' : W) (vs : List V) (ds : List D) (Fv : AS) : Prop where
  rep : RepA K S'.Z S'.H Fv vs ds
  tv : ∀ a, Fv a → (∃ o, S'.H a = some o) ∧ S'.Z a = none
  ow : ∀ a, Fv a → (∃ i, i ∈ R ∧ S'.F i a) ∨ ((∀ i, ¬ S'.F i a) ∧ (S.H a = none ∨ ∃ i, i ∈ M ∧ S.F i a))
def liftA (K : PySem.W.Frag) (M R : List Nat) (t : TXA) : TA := fun σ H Q => ∃ S Qt, S.H = H ∧ SR K σ S ∧ t S.env Qt ∧
  ∀ S' vs ds Fv, Qt ds S'.env → SR K σ S' → Stp M S S' → VPA K M R S S' vs ds Fv → Q vs S'.H
structure XA (X : Cx) (es : List Expr) (M R : List Nat) (t : TXA) : Prop where
  pa : PA X es (liftA X.K M R t)
/-- .. each owned by itself -/
structure VPL (K : PySem.W.Frag) (M : List Nat) (S S' : W) (vs : List V) (ds : List D) (Fv : AS) : Prop where
  rep : RepL K S'.Z S'.H vs ds Fv
  tv : ∀ a, Fv a → (∃ o, S'.H a = some o) ∧ S'.Z a = none
  ow : ∀ a, Fv a → (∀ i, ¬ S'.F i a) ∧ (S.H a = none ∨ ∃ i, i ∈ M ∧ S.F i a)
def liftL (K : PySem.W.Frag) (M : List Nat) (n : Nat) (t : TXA) : TA := fun σ H Q => ∃ S Qt, S.H = H ∧ SR K σ S ∧ t S.env Qt ∧
  ∀ S' vs ds Fv, Qt ds S'.env → ds.length = n → SR K σ S' → Stp M S S' → VPL K M S S' vs ds Fv → Q vs S'.H
structure XL (X : Cx) (es : List Expr) (M : List Nat) (t : TXA) : Prop where
  pa : PA X es (liftL X.K M es.length t)
theorem pa_imp {X : Cx} {e : List Expr} {t t' : TA} (h : PA X e t) (i : ∀ σ H Q, t' σ H Q → t σ H Q) : PA X e t' := ⟨fun pos pins s σ H Q I q => h.run pos pins s σ H Q I (i σ H Q q)⟩
def aNil : TXA := fun env Q => Q [] env
def aCons (t : TX) (u : TXA) : TXA := fun env Q => t env fun d env1 => u env1 fun ds env2 => Q (d :: ds) env2
section
variable {X : Cx} {e : Expr} {es : List Expr} {M M' Ma Mb R Ra Rb : List Nat} {t : TX} {u : TXA} {pos : Pos}
theorem xa_nil : XA X [] [] [] aNil := ⟨pa_imp pa_nil fun σ H Q ⟨S, Qt, eH, s, q, k⟩ => by
  subst eH
  exact k S [] [] nF q s (.refl _ _) ⟨.nil, fun _ z => z.elim, fun _ z => z.elim⟩⟩
theorem VP.paired {K : PySem.W.Frag} {Z H : Hp} {F G : AS} (h : ∀ a, F a → G a) : ∀ {vs : List V} {ds : List D}, RepA K Z H F vs ds → RepA K Z H G vs ds
  | _, _, .nil => .nil
  | _, _, .cons r t => .cons (r.mono h) (VP.paired h t)
theorem xa_cons (h : XX X e Ma Ra t) (h2 : XA X es Mb Rb u) (dj : Dj Ra Mb = true := by rfl) (hs : starEach (e :: es) X.env = (false, eval e X.env) :: starEach es X.env := by rfl) : XA X (e :: es) (Ma ++ Mb) (Ra ++ Rb) (aCons t u) := ⟨pa_imp (pa_cons h.pe h2.pa hs) fun σ H Q ⟨S, Qt, eH, s, q, k⟩ => by
  subst eH
  refine ⟨S, _, rfl, s, q, fun S1 x d Fx q1 s1 st1 v1 => ⟨S1, _, rfl, s1, q1, fun S2 vs ds Fs q2 s2 st2 v2 => ?_⟩⟩
  have w1 := v1.later s1 st1 st2 dj
  refine k S2 (x :: vs) (d :: ds) (fun a => Fx a ∨ Fs a) q2 s2 (st1.trans st2) ⟨.cons (w1.rep.mono fun _ z => .inl z) (VP.paired (fun _ z => .inr z) v2.rep), fun a z => z.elim (w1.tv a) (v2.tv a), fun a z => ?_⟩
  rcases z with z | z
  · exact (w1.ow a z).imp (fun ⟨i, a, b⟩ => ⟨i, List.mem_append_left _ a, b⟩) id
  · rcases v2.ow a z with ⟨i, h1, h2⟩ | ⟨h1, h2⟩
    · exact .inl ⟨i, List.mem_append_right _ h1, h2⟩
    · refine .inr ⟨h1, ?_⟩
      rcases h2 with h2 | ⟨i, h2, h3⟩
      · exact .inl (st1.none_of h2)
      · by_cases hm : i ∈ Ma
        · rcases st1.nf i a hm h3 with ⟨j, q1, q2⟩ | q
          · exact .inr ⟨j, List.mem_append_left _ q1, q2⟩
          · exact .inl q
        · rw [(st1.frm i hm).2] at h3
          exact .inr ⟨i, List.mem_append_right _ h2, h3⟩⟩
theorem xl_nil : XL X [] [] aNil := ⟨pa_imp pa_nil fun σ H Q ⟨S, Qt, eH, s, q, k⟩ => by
  subst eH
  exact k S [] [] nF q rfl s (.refl _ _) ⟨.nil, fun _ z => z.elim, fun _ z => z.elim⟩⟩
theorem xl_cons (h : XX X e Ma [] t) (h2 : XL X es Mb u) (hs : starEach (e :: es) X.env = (false, eval e X.env) :: starEach es X.env := by rfl) : XL X (e :: es) (Ma ++ Mb) (aCons t u) := ⟨pa_imp (pa_cons h.pe h2.pa hs) fun σ H Q ⟨S, Qt, eH, s, q, k⟩ => by
  subst eH
  refine ⟨S, _, rfl, s, q, fun S1 x d Fx q1 s1 st1 v1 => ⟨S1, _, rfl, s1, q1, fun S2 vs ds Fs q2 hl s2 st2 v2 => ?_⟩⟩
  have w1 := v1.later s1 st1 st2 (by unfold Dj; rfl)
  have ow1 : ∀ a, Fx a → (∀ i, ¬ S2.F i a) ∧ (S.H a = none ∨ ∃ i, i ∈ Ma ++ Mb ∧ S.F i a) := fun a z => by
    rcases w1.ow a z with ⟨i, h, _⟩ | h
    · cases h
    · exact h
  refine k S2 (x :: vs) (d :: ds) (fun a => Fx a ∨ Fs a) q2 (by rw [List.length_cons, hl]; rfl) s2 (st1.trans st2) ⟨.cons w1.rep v2.rep (fun _ z => .inl z) (fun a z => ⟨.inr z, fun y => ?_⟩), fun a z => z.elim (w1.tv a) (v2.tv a), fun a z => ?_⟩
  · -- apart: what comes later is new, or was a name's
    rcases (v2.ow a z).2 with h2 | ⟨i, h2, h3⟩
    · obtain ⟨⟨o, e⟩, _⟩ := v1.tv a y
      rw [h2] at e; cases e
    · rcases v1.ow a y with ⟨i, h, _⟩ | h
      · cases h
      · exact h.1 i h3
  · rcases z with z | z
    · exact ow1 a z
    · obtain ⟨h1, h2⟩ := v2.ow a z
      refine ⟨h1, ?_⟩
      rcases h2 with h2 | ⟨i, h2, h3⟩
      · exact .inl (st1.none_of h2)
      · by_cases hm : i ∈ Ma
        · rcases st1.nf i a hm h3 with ⟨j, q1, q2⟩ | q
          · exact .inr ⟨j, List.mem_append_left _ q1, q2⟩
          · exact .inl q
        · rw [(st1.frm i hm).2] at h3
          exact .inr ⟨i, List.mem_append_right _ h2, h3⟩⟩
/-- of a view that owns nothing -/
def oImm (t : TX) : TX := fun env Q => t env fun d env1 => d.frz = d ∧ Q d env1
theorem x_toimm (h : XX X e M R t) : XX X e M [] (oImm t) := ⟨pe_imp h.pe fun σ H Q ⟨S, Qt, eH, s, q, k⟩ => by
  subst eH
  exact ⟨S, _, rfl, s, q, fun S1 v d Fv ⟨f, q1⟩ s1 st1 v1 => k S1 v d nF q1 s1 st1 (.imm (v1.rep.imm f))⟩⟩
def oLst (t : TXA) : TX := fun env Q => t env fun ds env1 => Q (.lst true ds) env1
def oTup (t : TXA) : TX := fun env Q => t env fun ds env1 => Q (.tup ds) env1
theorem le_line {n : Nat} (h : n ≤ 1000) : n ≤ sizeLine := Nat.le_trans h (by rw [sizeLine_eq]; decide)
theorem x_lst (h : XL X es M u) (hn : es.length ≤ 1000 := by decide) : XX X (.List es pos) M [] (oLst u) := ⟨pe_imp (pe_lst h.pa) fun σ H Q ⟨S, Qt, eH, s, q, k⟩ => by
  subst eH
  refine ⟨S, _, rfl, s, q, fun S1 vs ds Fs q1 hl s1 st1 v1 => ⟨?_, fun p hp => ?_⟩⟩
  · rw [v1.rep.length, hl]; exact le_line hn
  · obtain ⟨x, zh⟩ := ext_new (o := .lst vs) s1.zh hp
    have zp : S1.Z p = none := s1.zh.none hp
    refine k ⟨S1.Z, upd S1.H p (.lst vs), S1.env, S1.F⟩ _ _ (fun a => a = p ∨ Fs a) q1 (s1.more x zh) (st1.then0 (.more x)) ⟨.lstO (.inl rfl) upd_same zp (v1.rep.ext x fun _ _ z => z) (fun b z => ⟨.inr z, fun e => ?_⟩), fun a z => ?_, fun a z => ?_⟩
    · obtain ⟨⟨o, e'⟩, _⟩ := v1.tv b z
      rw [e, hp] at e'; cases e'
    · rcases z with z | z
      · subst z; exact ⟨⟨_, upd_same⟩, zp⟩
      · obtain ⟨⟨o, e⟩, z⟩ := v1.tv a z
        exact ⟨⟨o, x.fr0 a o e z fun z => z⟩, z⟩
    · rcases z with z | z
      · subst z; exact .inr ⟨fun i z => s1.noF hp z, .inl (st1.none_of hp)⟩
      · exact .inr (v1.ow a z)⟩
theorem x_tup {x1} (h : XL X es M u) (hn : es.length ≤ 1000 := by decide) : XX X (.Tuple es x1 pos) M [] (oTup u) := ⟨pe_imp (pe_tup h.pa) fun σ H Q ⟨S, Qt, eH, s, q, k⟩ => by
  subst eH
  refine ⟨S, _, rfl, s, q, fun S1 vs ds Fs q1 hl s1 st1 v1 => ⟨?_, fun p hp => ?_⟩⟩
  · rw [v1.rep.length, hl]; exact le_line hn
  · obtain ⟨x, zh⟩ := ext_newZ (o := .tup vs) s1.zh hp
    refine k ⟨upd S1.Z p (.tup vs), upd S1.H p (.tup vs), S1.env, S1.F⟩ _ _ Fs q1 (s1.more x zh) (st1.then0 (.more x)) ⟨.tup upd_same (v1.rep.ext x fun _ _ z => z), fun a z => ?_, fun a z => .inr (v1.ow a z)⟩
    obtain ⟨⟨o, e⟩, z⟩ := v1.tv a z
    have hap : a ≠ p := ne_of_none e hp
    exact ⟨⟨o, x.fr0 a o e z fun z => z⟩, Eq.trans (upd_ne hap) z⟩⟩
def CallT (X : Cx) (f : Value) (rt : List D → (D → Prop) → Prop) : Prop :=
  ∃ r, CallR X f r ∧ ∀ (σ : L2.St) (S : W) (vs : List V) (ds : List D) (F : AS) (Qd : D → Prop) (P : V → Hp → Prop), SR X.K σ S → RepA X.K S.Z S.H F vs ds → rt ds Qd →
    (∀ Z' H' v d' Fv, Qd d' → Fr X.K S Z' H' v d' Fv → P v H') → r vs S.H P
def oCall (rt : List D → (D → Prop) → Prop) (u : TXA) : TX := fun env Q => u env fun ds env1 => rt ds fun r => Q r env1
variable {rt : List D → (D → Prop) → Prop} {x : Str} {p : Pos} {bid T : String}
theorem call_lift {r : List V → Hp → VK → Prop} (hh : ∀ (σ : L2.St) (S : W) (vs : List V) (ds : List D) (F : AS) (Qd : D → Prop) (P : V → Hp → Prop), SR X.K σ S → RepA X.K S.Z S.H F vs ds → rt ds Qd →
    (∀ Z' H' v d' Fv, Qd d' → Fr X.K S Z' H' v d' Fv → P v H') → r vs S.H P) (σ : L2.St) (H : Hp) (Q : VK) (h : lift X.K M [] (oCall rt u) σ H Q) : tCB r (liftA X.K M R u) σ H Q := by
  obtain ⟨S, Qt, eH, s, q, k⟩ := h
  subst eH
  refine ⟨S, _, rfl, s, q, fun S1 vs ds Fs q1 s1 st1 v1 => hh σ S1 vs ds Fs _ _ s1 v1.rep q1 fun Z' H' v d' Fv q2 f => ?_⟩
  exact k ⟨Z', H', S1.env, S1.F⟩ v d' Fv q2 (f.sr s1) (st1.then0 f.stp) ((f.vp s1).then0 st1)
theorem x_callB (hc : CallT X (.builtin bid) rt) (hg : Gl X x) (hm : X.mg x = none) (hv : bootBuiltins x = some (.builtin bid)) (ha : XA X (e :: es) M R u) (hn : x ≠ "__name__" := by decide) (hdbg : (x == ("__debug__" : Str)) = false := by decide)
    (he : starEach (e :: es) X.env = (false, eval e X.env) :: starEach es X.env := by rfl) (hpln : (backTo pos (starEach es X.env)).any (·.1) = false := by rfl) : XX X (.Call (.Name x p) (e :: es) [] pos) M [] (oCall rt u) := by
  obtain ⟨r, hc, hh⟩ := hc
  exact ⟨pe_imp (pe_callB hc hg hm hv ha.pa hn hdbg he hpln) fun σ H Q h => call_lift hh σ H Q h⟩
theorem x_callTy (hc : CallT X (.type T) rt) (hg : Gl X x) (hm : X.mg x = none) (hv : bootBuiltins x = some (.type T)) (ha : XA X (e :: es) M R u) (hn : x ≠ "__name__" := by decide) (hdbg : (x == ("__debug__" : Str)) = false := by decide)
    (he : starEach (e :: es) X.env = (false, eval e X.env) :: starEach es X.env := by rfl) (hpln : (backTo pos (starEach es X.env)).any (·.1) = false := by rfl) : XX X (.Call (.Name x p) (e :: es) [] pos) M [] (oCall rt u) := by
  obtain ⟨r, hc, hh⟩ := hc
  exact ⟨pe_imp (pe_callTy hc hg hm hv ha.pa hn hdbg he hpln) fun σ H Q h => call_lift hh σ H Q h⟩
/-- one argument -/
def r1 (g : D → (D → Prop) → Prop) : List D → (D → Prop) → Prop := fun ds Q => ∃ d, ds = [d] ∧ g d Q
theorem paired1 {K : PySem.W.Frag} {Z H : Hp} {F : AS} {vs : List V} {d : D} (h : RepA K Z H F vs [d]) : ∃ v, vs = [v] ∧ Rep K Z H v d F := by
  cases h with
  | cons r t => cases t; exact ⟨_, rfl, r⟩
theorem paired2 {K : PySem.W.Frag} {Z H : Hp} {F : AS} {vs : List V} {d e : D} (h : RepA K Z H F vs [d, e]) : ∃ v w, vs = [v, w] ∧ Rep K Z H v d F ∧ Rep K Z H w e F := by
  cases h with
  | cons r t => cases t with
    | cons r2 t => cases t; exact ⟨_, _, rfl, r, r2⟩
def lenD : D → Option Int
  | .lst _ xs => some xs.length
  | .kst xs => some xs.length
  | .tup xs => some xs.length
  | .str z => if z.length ≤ sizeLine then some z.length else none
  | _ => none
def gLen : List D → (D → Prop) → Prop := r1 fun d Q => ∃ n, lenD d = some n ∧ Q (.int n)
theorem c_len : CallT X (.builtin "len") gLen := by
  refine ⟨_, call_len, fun σ S vs ds F Qd P s ra ⟨d, e, n, hn, q⟩ k => ?_⟩
  subst e
  obtain ⟨v, rfl, r⟩ := paired1 ra
  have fin : ∀ m : Nat, (m : Int) = n → LenV X.K v S.H m → ∃ x m, [v] = [x] ∧ LenV X.K x S.H m ∧ P (.int m) S.H := fun m em hl => ⟨v, m, rfl, hl, k _ _ _ _ nF (em ▸ q) (.imm s (.int _))⟩
  cases d with
  | lst o xs =>
    obtain ⟨a, vs, rfl, h1, h2⟩ := r.lst_inv s.zh
    exact fin vs.length (by rw [h2.length]; exact Option.some.inj hn) (.inl ⟨vs, .inl h1, rfl⟩)
  | kst xs =>
    obtain ⟨a, vs, rfl, h1, h2⟩ := r.kst_inv s.zh
    exact fin vs.length (by rw [h2.length]; exact Option.some.inj hn) (.inl ⟨vs, h1, rfl⟩)
  | tup xs =>
    obtain ⟨a, vs, rfl, h1, _, h2⟩ := r.tup_inv s.zh
    exact fin vs.length (by rw [h2.length]; exact Option.some.inj hn) (.inr ⟨vs, SqT.of h1, rfl⟩)
  | str z =>
    obtain rfl := r.str_inv
    simp only [lenD] at hn
    split at hn
    · rename_i hz
      exact fin z.length (Option.some.inj hn) ⟨hz, rfl⟩
    · cases hn
  | _ => cases hn
def gAbs : List D → (D → Prop) → Prop := r1 fun d Q => ∃ i, d = .int i ∧ Q (.int (if i < 0 then -i else i))
theorem c_abs : CallT X (.builtin "abs") gAbs := by
  refine ⟨_, call_abs, fun σ S vs ds F Qd P s ra ⟨d, e, n, hn, q⟩ k => ?_⟩
  subst e hn
  obtain ⟨v, rfl, r⟩ := paired1 ra
  exact ⟨n, by rw [r.int_inv], k _ _ _ _ nF q (.imm s (.int _))⟩
def intD : D → Option Int
  | .int i => some i
  | .bl b => some (if b then 1 else 0)
  | _ => none
def gInt : List D → (D → Prop) → Prop := r1 fun d Q => ∃ i, intD d = some i ∧ Q (.int i)
theorem c_int : CallT X (.type "int") gInt := by
  refine ⟨_, call_int1, fun σ S vs ds F Qd P s ra ⟨d, e, n, hn, q⟩ k => ?_⟩
  subst e
  obtain ⟨v, rfl, r⟩ := paired1 ra
  cases d with
  | int i =>
    cases hn
    exact .inl ⟨n, by rw [r.int_inv], k _ _ _ _ nF q (.imm s (.int _))⟩
  | bl b =>
    cases hn
    exact .inr ⟨b, by rw [r.bl_inv], k _ _ _ _ nF q (.imm s (.int _))⟩
  | _ => cases hn
def gMax2 : List D → (D → Prop) → Prop := fun ds Q => ∃ i j, ds = [.int i, .int j] ∧ Q (.int (if j > i then j else i))
def gMin2 : List D → (D → Prop) → Prop := fun ds Q => ∃ i j, ds = [.int i, .int j] ∧ Q (.int (if j < i then j else i))
theorem c_min2 (hc : X.calm = true) : CallT X (.builtin "min") gMin2 := by
  refine ⟨_, call_min2 hc, fun σ S vs ds F Qd P s ra ⟨i, j, e, q⟩ k => ?_⟩
  subst e
  obtain ⟨v, w, rfl, r, r2⟩ := paired2 ra
  exact ⟨i, j, by rw [r.int_inv, r2.int_inv], k _ _ _ _ nF q (.imm s (.int _))⟩
/-- a fresh list of things that own nothing -/
theorem Fr.lst {K : PySem.W.Frag} {σ : L2.St} {S : W} {vs : List V} {ds : List D} {q : Addr} (s : SR K σ S) (hp : S.H q = none) (r : RepL K S.Z S.H vs ds nF) : Fr K S S.Z (upd S.H q (.lst vs)) (.ref q) (.lst true ds) (fun a => a = q) := by
  obtain ⟨x, zh⟩ := ext_new (o := .lst vs) s.zh hp
  have zp : S.Z q = none := s.zh.none hp
  exact ⟨x, zh, .lstO rfl upd_same zp (r.ext x fun _ _ z => z) fun _ z => z.elim, fun a e => by subst e; exact ⟨hp, ⟨_, upd_same⟩, zp⟩⟩
theorem Fr.tup {K : PySem.W.Frag} {σ : L2.St} {S : W} {vs : List V} {ds : List D} {q : Addr} (s : SR K σ S) (hp : S.H q = none) (r : RepL K S.Z S.H vs ds nF) : Fr K S (upd S.Z q (.tup vs)) (upd S.H q (.tup vs)) (.ref q) (.tup ds) nF := by
  obtain ⟨x, zh⟩ := ext_newZ (o := .tup vs) s.zh hp
  exact ⟨x, zh, .tup upd_same (r.ext x fun _ _ z => z), fun a z => z.elim⟩
/-- the items of a list, a tuple -/
def itemsD : D → Option (List D)
  | .lst _ xs => some xs
  | .kst xs => some xs
  | .tup xs => some xs
  | _ => none
def gList : List D → (D → Prop) → Prop := r1 fun d Q => ∃ xs, itemsD d = some xs ∧ frzL xs = xs ∧ Q (.lst true xs)
theorem c_list : CallT X (.type "list") gList := by
  refine ⟨_, call_list_of, fun σ S vs ds F Qd P s ra ⟨d, e, xs, hn, hf, q⟩ k => ?_⟩
  subst e
  obtain ⟨v, rfl, r⟩ := paired1 ra
  cases d with
  | lst o ys =>
    cases hn
    obtain ⟨a, vs, rfl, h1, h2⟩ := r.lst_inv s.zh
    exact ⟨a, vs, rfl, .inl (.inl h1), fun l hl => k _ _ _ _ _ q (.lst s hl (h2.imm' hf))⟩
  | kst ys =>
    cases hn
    obtain ⟨a, vs, rfl, h1, h2⟩ := r.kst_inv s.zh
    exact ⟨a, vs, rfl, .inl h1, fun l hl => k _ _ _ _ _ q (.lst s hl (h2.imm' hf))⟩
  | tup ys =>
    cases hn
    obtain ⟨a, vs, rfl, h1, _, h2⟩ := r.tup_inv s.zh
    exact ⟨a, vs, rfl, .inr (SqT.of h1), fun l hl => k _ _ _ _ _ q (.lst s hl (h2.imm' hf))⟩
  | _ => cases hn
def gTuple : List D → (D → Prop) → Prop := r1 fun d Q => ∃ xs, itemsD d = some xs ∧ frzL xs = xs ∧ Q (.tup xs)
theorem c_tuple : CallT X (.type "tuple") gTuple := by
  refine ⟨_, call_tuple_of, fun σ S vs ds F Qd P s ra ⟨d, e, xs, hn, hf, q⟩ k => ?_⟩
  subst e
  obtain ⟨v, rfl, r⟩ := paired1 ra
  cases d with
  | lst o ys =>
    cases hn
    obtain ⟨a, vs, rfl, h1, h2⟩ := r.lst_inv s.zh
    exact ⟨a, vs, rfl, .inl ⟨.inl h1, fun l hl => k _ _ _ _ _ q (.tup s hl (h2.imm' hf))⟩⟩
  | kst ys =>
    cases hn
    obtain ⟨a, vs, rfl, h1, h2⟩ := r.kst_inv s.zh
    exact ⟨a, vs, rfl, .inl ⟨h1, fun l hl => k _ _ _ _ _ q (.tup s hl (h2.imm' hf))⟩⟩
  | tup ys =>
    cases hn
    obtain ⟨a, vs, rfl, h1, h0, h2⟩ := r.tup_inv s.zh
    exact ⟨a, vs, rfl, .inr ⟨SqT.of h1, k _ _ _ _ nF q (.imm s (.tup h0 (h2.imm' hf)))⟩⟩
  | _ => cases hn
def gAny : List D → (D → Prop) → Prop := r1 fun d Q => ∃ (o : Bool) (ns : List Bool), d = .lst o (ns.map D.bl) ∧ Q (.bl (ns.any id))
def gAll : List D → (D → Prop) → Prop := r1 fun d Q => ∃ (o : Bool) (ns : List Bool), d = .lst o (ns.map D.bl) ∧ Q (.bl (ns.all id))
end
end TT
namespace TT
open PySem PySem.Spec PyProof.Rows L2
variable [Cls]
theorem atI_map_len {α β : Type} {xs : List α} {ys : List β} (hl : xs.length = ys.length) {i : Int} {y : β} (h : atI ys i = some y) : ∃ j : Nat, ys[j]? = some y ∧ ∀ x, xs[j]? = some x → atI xs i = some x := by
  unfold atI at h ⊢
  rw [hl]
  cases e : ixN ys.length i with
  | none => rw [e] at h; cases h
  | some j =>
    rw [e] at h
    exact ⟨j, h, fun x hx => hx⟩
/-- xs[i], t[i], s[i] -/
def getIx : D → D → Option D
  | .lst _ xs, .int i => atI xs i
  | .kst xs, .int i => atI xs i
  | .tup xs, .int i => atI xs i
  | .str z, .int i => if z.length ≤ sizeLine then (atI z.cps.toList i).map fun c => .str ⟨#[c]⟩ else none
  | _, _ => none
def oIx (ta tb : TX) : TX := fun env Q => ta env fun d env1 => tb env1 fun k env2 => ∃ r, getIx d k = some r ∧ Q r env2
section
variable {X : Cx} {a b e : Expr} {pos : Pos} {M Ma Mb R Ra Rb : List Nat} {ta tb t : TX}
theorem ix_rep {K : PySem.W.Frag} {S : W} {σ : L2.St} {x y : V} {d k r : D} {Fx Fy : AS} (s : SR K σ S) (rx : Rep K S.Z S.H x d Fx) (ry : Rep K S.Z S.H y k Fy) (h : getIx d k = some r) {P : V → Hp → Prop}
    (q : ∀ v, Rep K S.Z S.H v r Fx → P v S.H) : rIx K x y S.H P := by
  cases d with
  | lst o xs =>
    cases k with
    | int i =>
      obtain ⟨a, vs, rfl, h1, h2⟩ := rx.lst_inv s.zh
      obtain ⟨j, hj, hw⟩ := atI_map_len h2.length h
      obtain ⟨v, hv, rv⟩ := h2.get hj
      exact .inl ⟨a, vs, i, v, rfl, ry.int_inv, .inl h1, hw v hv, q v rv⟩
    | _ => cases h
  | kst xs =>
    cases k with
    | int i =>
      obtain ⟨a, vs, rfl, h1, h2⟩ := rx.kst_inv s.zh
      obtain ⟨j, hj, hw⟩ := atI_map_len h2.length h
      obtain ⟨v, hv, rv⟩ := h2.get hj
      exact .inl ⟨a, vs, i, v, rfl, ry.int_inv, h1, hw v hv, q v rv⟩
    | _ => cases h
  | tup xs =>
    cases k with
    | int i =>
      obtain ⟨a, vs, rfl, h1, _, h2⟩ := rx.tup_inv s.zh
      obtain ⟨j, hj, hw⟩ := atI_map_len h2.length h
      obtain ⟨v, hv, rv⟩ := h2.get hj
      exact .inr (.inl ⟨a, vs, i, v, rfl, ry.int_inv, SqT.of h1, hw v hv, q v rv⟩)
    | _ => cases h
  | str z =>
    cases k with
    | int i =>
      simp only [getIx] at h
      split at h
      · rename_i hz
        cases e : atI z.cps.toList i with
        | none => rw [e] at h; cases h
        | some c =>
          rw [e] at h
          cases h
          exact .inr (.inr ⟨z, i, c, rx.str_inv, ry.int_inv, hz, e, q _ (.str _)⟩)
      · cases h
    | _ => cases h
  | _ => cases k <;> cases h
theorem x_ix (ha : XX X a Ma Ra ta) (hb : XX X b Mb Rb tb) (dj : Dj Ra Mb = true := by rfl) (hs : PlainIx b := by exact fun _ _ => rfl) : XX X (.Subscript a b pos) (Ma ++ Mb) Ra (oIx ta tb) := ⟨pe_imp (pe_ix ix_seq ha.pe hb.pe hs) fun σ H Q ⟨S, Qt, eH, s, q, k⟩ => by
  subst eH
  refine two dj s q fun S' x d Fx y e Fy ⟨r, hr, q1⟩ s1 st v1 v2 => ?_
  exact ix_rep s1 v1.rep v2.rep hr fun v rv => k S' v r Fx q1 s1 st ⟨rv, v1.tv, v1.ow⟩⟩
def keyD : D → Option Key
  | .int i => some (.inl i)
  | .str x => some (.inr x)
  | _ => none
def keysD : List D → Option (List Key)
  | [] => some []
  | d :: r => match keyD d, keysD r with
    | some k, some ks => some (k :: ks)
    | _, _ => none
def lookK {κ : Type} [DecidableEq κ] (kvs : List (κ × D)) (k : κ) : Option D := (kvs.find? fun p => decide (p.1 = k)).map (·.2)
/-- what a dict has at a key (none: no dict, or no key) -/
def dget : D → D → Option (Option D)
  | .dct _ kvs, k => (keyD k).map fun k => lookK kvs k
  | .dtt _ kvs, .tup ks => (keysD ks).map fun k => lookK kvs k
  | _, _ => none
theorem Rep.key {K : PySem.W.Frag} {Z H : Hp} {v : V} {d : D} {F : AS} {k : Key} (r : Rep K Z H v d F) (h : keyD d = some k) : v = kV k := by
  cases d <;> simp only [keyD, Option.some.injEq, reduceCtorEq] at h <;> subst h
  · exact r.int_inv
  · exact r.str_inv
theorem RepL.keys {K : PySem.W.Frag} {Z H : Hp} : ∀ {vs : List V} {ds : List D} {F : AS} {ks : List Key}, RepL K Z H vs ds F → keysD ds = some ks → vs = ks.map kV
  | _, [], _, ks, .nil, h => by cases h; rfl
  | _, d :: ds, _, ks, .cons r t _ _, h => by
    unfold keysD at h
    cases e1 : keyD d with
    | none => rw [e1] at h; cases h
    | some k =>
      cases e2 : keysD ds with
      | none => rw [e1, e2] at h; cases h
      | some ks' =>
        rw [e1, e2] at h
        cases h
        rw [r.key e1, RepL.keys t e2]; rfl
theorem look_rep {κ : Type} [DecidableEq κ] {K : PySem.W.Frag} {Z H : Hp} (k : κ) : ∀ {m : List (κ × V)} {kvs : List (κ × D)} {F : AS}, m.map (·.1) = kvs.map (·.1) → RepL K Z H (m.map (·.2)) (kvs.map (·.2)) F →
    (lookK kvs k = none ∧ valV m k = none) ∨ ∃ v d, lookK kvs k = some d ∧ valV m k = some v ∧ Rep K Z H v d F
  | [], [], _, _, _ => .inl ⟨rfl, rfl⟩
  | [], _ :: _, _, h, _ => by cases h
  | _ :: _, [], _, h, _ => by cases h
  | (k1, v) :: m, (k2, d) :: kvs, F, h, r => by
    have h1 : k1 = k2 := (List.cons.inj h).1
    subst h1
    cases r with
    | cons r t f g =>
      by_cases e : k1 = k
      · refine .inr ⟨v, d, by simp [lookK, e], valV_pos e, r.mono f⟩
      · rcases look_rep k (List.cons.inj h).2 t with ⟨a, b⟩ | ⟨v', d', a, b, c⟩
        · exact .inl ⟨by simp only [lookK, List.find?_cons, e, decide_false] at a ⊢; exact a, by rw [valV_neg e]; exact b⟩
        · exact .inr ⟨v', d', by simp only [lookK, List.find?_cons, e, decide_false] at a ⊢; exact a, by rw [valV_neg e]; exact b, c.mono fun z y => (g z y).1⟩
theorem dget_rep {K : PySem.W.Frag} {S : W} {σ : L2.St} {x y : V} {d k : D} {o : Option D} {Fx Fy : AS} (s : SR K σ S) (rx : Rep K S.Z S.H x d Fx) (ry : Rep K S.Z S.H y k Fy) (h : dget d k = some o) :
    ∃ a, x = .ref a ∧ ((o = none ∧ DGet S.H a y none) ∨ ∃ v r, o = some r ∧ DGet S.H a y (some v) ∧ Rep K S.Z S.H v r Fx) := by
  cases d with
  | dct ow kvs =>
    obtain ⟨a, m, rfl, h1, h2, h3⟩ := rx.dct_inv s.zh
    simp only [dget] at h
    cases ek : keyD k with
    | none => rw [ek] at h; cases h
    | some kk =>
      rw [ek] at h
      have h : lookK kvs kk = o := Option.some.inj h
      refine ⟨a, rfl, ?_⟩
      rcases look_rep kk h2 h3 with ⟨e1, e2⟩ | ⟨v, r, e1, e2, e3⟩
      · exact .inl ⟨h.symm.trans e1, .inl ⟨m, kk, h1, ry.key ek, e2.symm⟩⟩
      · exact .inr ⟨v, r, h.symm.trans e1, .inl ⟨m, kk, h1, ry.key ek, e2.symm⟩, e3⟩
  | dtt ow kvs =>
    cases k with
    | tup ks =>
      obtain ⟨a, m, rfl, h1, h2, h3⟩ := rx.dtt_inv s.zh
      obtain ⟨b, vs, rfl, hb, _, hk⟩ := ry.tup_inv s.zh
      simp only [dget] at h
      cases ek : keysD ks with
      | none => rw [ek] at h; cases h
      | some kk =>
        rw [ek] at h
        have h : lookK kvs kk = o := Option.some.inj h
        refine ⟨a, rfl, ?_⟩
        rw [hk.keys ek] at hb
        rcases look_rep kk h2 h3 with ⟨e1, e2⟩ | ⟨v, r, e1, e2, e3⟩
        · exact .inl ⟨h.symm.trans e1, .inr ⟨m, kk, b, h1, rfl, hb, e2.symm⟩⟩
        · exact .inr ⟨v, r, h.symm.trans e1, .inr ⟨m, kk, b, h1, rfl, hb, e2.symm⟩, e3⟩
    | _ => cases h
  | _ => cases h
/-- d[k] -/
def oDGet (ta tb : TX) : TX := fun env Q => ta env fun d env1 => tb env1 fun k env2 => ∃ r, dget d k = some (some r) ∧ Q r env2
theorem x_dget (hu : X.A.units + 1 < cLine) (ha : XX X a Ma Ra ta) (hb : XX X b Mb Rb tb) (dj : Dj Ra Mb = true := by rfl) (hs : NoSl b := by exact fun _ _ => rfl) : XX X (.Subscript a b pos) (Ma ++ Mb) Ra (oDGet ta tb) := ⟨pe_imp (pe_dget hu ha.pe hb.pe hs) fun σ H Q ⟨S, Qt, eH, s, q, k⟩ => by
  subst eH
  refine two dj s q fun S' x d Fx y e Fy ⟨r, hr, q1⟩ s1 st v1 v2 => ?_
  obtain ⟨a, rfl, ⟨h, _⟩ | ⟨v, r', h1, h2, h3⟩⟩ := dget_rep s1 v1.rep v2.rep hr
  · cases h
  · cases h1
    exact ⟨a, v, rfl, h2, k S' v r Fx q1 s1 st ⟨h3, v1.tv, v1.ow⟩⟩⟩
/-- k in d, k not in d -/
def oDIn (neg : Bool) (tk td : TX) : TX := fun env Q => tk env fun k env1 => td env1 fun d env2 => ∃ o, dget d k = some o ∧ Q (.bl (if neg then !o.isSome else o.isSome)) env2
theorem din_lift (neg : Bool) (dj : Dj Ra Mb = true) (σ : L2.St) (H : Hp) (Q : VK) (h : lift X.K (Ma ++ Mb) [] (oDIn neg ta tb) σ H Q) :
    (lift X.K Ma Ra ta σ H fun y H1 => lift X.K Mb Rb tb σ H1 fun x H2 => ∃ a o, x = .ref a ∧ DGet H2 a y o ∧ Q (.bl (if neg then !o.isSome else o.isSome)) H2) := by
  obtain ⟨S, Qt, eH, s, q, k⟩ := h
  subst eH
  refine two dj s q fun S' y e Fy x d Fx ⟨r, hr, q1⟩ s1 st v1 v2 => ?_
  obtain ⟨a, rfl, ⟨h, h2⟩ | ⟨v, r', h1, h2, h3⟩⟩ := dget_rep s1 v2.rep v1.rep hr
  · subst h
    exact ⟨a, none, rfl, h2, k S' _ _ nF q1 s1 st .bl⟩
  · subst h1
    exact ⟨a, some v, rfl, h2, k S' _ _ nF q1 s1 st .bl⟩
theorem xt_of {t : TX} {tt : TE} (h : PT X e (tB tt)) (i : ∀ σ H Q, lift X.K M R t σ H Q → tt σ H Q) : XT X e M (tBl t) := ⟨pt_imp h fun σ H Q ⟨S, Qt, eH, s, q, k⟩ => by
  subst eH
  refine i σ S.H _ ⟨S, _, rfl, s, q, fun S' v d Fv ⟨c, e, q1⟩ s1 st v1 => ?_⟩
  subst e
  exact ⟨c, v1.rep.bl_inv, k S' c q1 s1 st⟩⟩
theorem xt_dnin (hu : X.A.units + 1 < cLine) (ha : XX X a Ma Ra ta) (hb : XX X b Mb Rb tb) (dj : Dj Ra Mb = true := by rfl) (h1 : behindInMarks .NotIn b = false := by rfl) : XT X (.Compare a [.NotIn] [b] pos) (Ma ++ Mb) (tBl (oDIn true ta tb)) := xt_of (R := []) (pt_cmp (pc_dnotin hu ha.pe hb.pe) h1) fun σ H Q h => din_lift true dj σ H Q h
mutual
def D.py : D → PyData
  | .non => .none
  | .bl b => .bool b
  | .int i => .int i
  | .str x => .str x
  | .tup xs => .tuple (pyL xs)
  | .lst _ xs => .list (pyL xs)
  | .kst xs => .list (pyL xs)
  | _ => .none
def pyL : List D → List PyData
  | [] => []
  | d :: r => d.py :: pyL r
end
mutual
def D.pyok : D → Bool
  | .non => true
  | .bl _ => true
  | .int _ => true
  | .str _ => true
  | .tup xs => pyokL xs
  | .lst _ xs => pyokL xs
  | .kst xs => pyokL xs
  | _ => false
def pyokL : List D → Bool
  | [] => true
  | d :: r => d.pyok && pyokL r
end
theorem pyL_map : ∀ xs : List D, pyL xs = xs.map D.py
  | [] => by rw [pyL]; rfl
  | d :: r => by rw [pyL, pyL_map r]; rfl
theorem pyokL_all : ∀ xs : List D, pyokL xs = xs.all D.pyok
  | [] => by rw [pyokL]; rfl
  | d :: r => by rw [pyokL, pyokL_all r]; rfl
theorem Rep.dp {K : PySem.W.Frag} {Z H : Hp} {v : V} {d : D} {F : AS} (zh : ZH Z H) (r : Rep K Z H v d F) (ok : d.pyok = true) : Dp K H v d.py := by
  refine Rep.rec (K := K) (Z := Z) (H := H) (motive_1 := fun v d F _ => d.pyok = true → Dp K H v d.py) (motive_2 := fun v d F _ => pyokL d = true → DpAll K H v (pyL d))
    ?_ ?_ ?_ ?_ ?_ ?_ ?_ ?_ ?_ ?_ ?_ ?_ ?_ ?_ ?_ ?_ ?_ ?_ ?_ r ok
  · intro F _; rw [D.py]; exact .non
  · intro F b _; rw [D.py]; exact .bl b
  · intro F b _; rw [D.py]; exact .int b
  · intro F b _; rw [D.py]; exact .str b
  · intro F b h; rw [D.pyok] at h <;> first | cases h | (intros; contradiction)
  · intro F b h; rw [D.pyok] at h <;> first | cases h | (intros; contradiction)
  · intro F a vs xs h1 h2 ih h; rw [D.pyok] at h; rw [D.py]; exact .tup (SqT.of (zh.tup h1)) (ih h)
  · intro F G a vs xs h1 h2 h3 h4 h5 ih h; rw [D.pyok] at h; rw [D.py]; exact .lst (SqL.of h2) (ih h)
  · intro F a vs xs h1 h2 ih h; rw [D.pyok] at h; rw [D.py]; exact .lst (.inl (ZH.rd zh h1)) (ih h)
  · intro F a vs xs h1 h2 ih h; rw [D.pyok] at h; rw [D.py]; exact .lst (ZH.sq zh h1) (ih h)
  all_goals first
    | (intro F; rw [pyL]; exact fun _ => .nil)
    | (intro F G E v vs d ds h1 h2 h3 h4 ih1 ih2 h; rw [pyokL, Bool.and_eq_true] at h; rw [pyL]; exact .cons (ih1 h.1) (ih2 h.2))
    | (intros; rename_i h; rw [D.pyok] at h <;> first | cases h | (intros; contradiction))
/-- data that can be compared -/
def cmpD (d : D) : Bool := d.pyok && SeqAt.shaped d.py
def rEqT (neg : Bool) : D → D → (D → Prop) → Prop := fun x y Q => cmpD x = true ∧ cmpD y = true ∧ Q (.bl (if neg then !PyData.eqv x.py y.py else PyData.eqv x.py y.py))
theorem o_eq (hu : X.A.units + 64 < cLine) : OpT X (compareOp .Eq) (rEqT false) := ⟨_, op_eqD hu, fun σ S x d Fx y e Fy Qd P s rx ry ⟨h1, h2, q⟩ k => by
  unfold cmpD at h1 h2
  rw [Bool.and_eq_true] at h1 h2
  exact ⟨_, _, rx.dp s.zh h1.1, ry.dp s.zh h2.1, h1.2, h2.2, k _ _ _ _ nF q (.imm s (.bl _))⟩⟩
theorem o_ne (hu : X.A.units + 64 < cLine) : OpT X (compareOp .NotEq) (rEqT true) := ⟨_, op_neD hu, fun σ S x d Fx y e Fy Qd P s rx ry ⟨h1, h2, q⟩ k => by
  unfold cmpD at h1 h2
  rw [Bool.and_eq_true] at h1 h2
  exact ⟨_, _, rx.dp s.zh h1.1, ry.dp s.zh h2.1, h1.2, h2.2, k _ _ _ _ nF q (.imm s (.bl _))⟩⟩
/-- x in a tuple: data of any depth -/
def rInTp (K : PySem.W.Frag) (neg : Bool) : L2.R2 := fun x y H Q => ∃ d ds, Dp K H x d ∧ Dp K H y (.tuple ds) ∧ SeqAt.shaped d = true ∧ SeqAt.shaped (.tuple ds) = true ∧ Q (.bl (if neg then !ds.any fun z => PyData.eqv z d else ds.any fun z => PyData.eqv z d)) H
theorem op_notInTp (hu : X.A.units + 65 < cLine) : OpR X (compareOp .NotIn) (rInTp X.K true) := fun _ _ _ _ _ _ _ _ _ inv rx ry ⟨dx, dl, gx, gl, shx, shl, fin⟩ =>
  let ⟨_, readX⟩ := Dp.reads inv dx _ _ gx rx
  let ⟨_, readL⟩ := Dp.reads inv (.tuple dl) _ _ gl ry
  SeqAt.notIn_tuple_reads readL readX (SeqAt.canLay_of_shaped shl) (SeqAt.canLay_of_shaped shx) (room_in_shaped shx hu) ⟨.bl _, _, inv, rfl, fin⟩
def rInT (neg : Bool) : D → D → (D → Prop) → Prop := fun x y Q => ∃ xs, itemsD y = some xs ∧ cmpD x = true ∧ cmpD y = true ∧ Q (.bl (if neg then !xs.any fun z => PyData.eqv z.py x.py else xs.any fun z => PyData.eqv z.py x.py))
theorem any_py (f : PyData → Bool) (xs : List D) : (pyL xs).any f = xs.any fun z => f z.py := by rw [pyL_map, List.any_map]; rfl
theorem o_nin (hu : X.A.units + 65 < cLine) : OpT X (compareOp .NotIn) (rInT true) := ⟨_, (op_notInD hu).or (op_notInTp hu), fun σ S x d Fx y e Fy Qd P s rx ry ⟨xs, hx, h1, h2, q⟩ k => by
  unfold cmpD at h1 h2
  rw [Bool.and_eq_true] at h1 h2
  have dx := rx.dp s.zh h1.1
  have dy := ry.dp s.zh h2.1
  have fin := k _ _ _ _ nF q (.imm s (.bl _))
  cases e with
  | lst o ys => cases hx; rw [D.py] at dy h2; exact .inl ⟨_, _, dx, dy, h1.2, h2.2, by rw [any_py]; exact fin⟩
  | kst ys => cases hx; rw [D.py] at dy h2; exact .inl ⟨_, _, dx, dy, h1.2, h2.2, by rw [any_py]; exact fin⟩
  | tup ys => cases hx; rw [D.py] at dy h2; exact .inr ⟨_, _, dx, dy, h1.2, h2.2, by rw [any_py]; exact fin⟩
  | _ => cases hx⟩
def rCat' : L2.R2 := fun x y H Q => ∃ l b xs zs, x = .ref l ∧ y = .ref b ∧ Rd H l (.lst xs) ∧ Rd H b (.lst zs) ∧ xs.length + zs.length ≤ sizeLine ∧ ∀ p, H p = none → Q (.ref p) (upd H p (.lst (xs ++ zs)))
theorem lst_rd {pins : List (Addr × Obj)} {s : Shared} {σ : L2.St} {H : Hp} {l : Addr} {xs : List V} (I : Inv X pins σ H s) (h : Rd H l (.lst xs)) : ∃ (its : List Value) (n : Nat), Vals xs its ∧ xs.length = its.length ∧ s.heap.get? l = some { cls := .type "list", data := .seq its.toArray n } := by
  obtain ⟨z, its, n, r, e⟩ := h.ok I.hok
  exact ⟨its, n, r, r.length, e⟩
theorem op_cat' : OpR X (binaryOp .Add) rCat' := fun _ s0 _ _ _ _ _ _ _ inv rx ry ⟨la, lb, us, ws, eqx, eqy, ra, rb, room, fin⟩ => by
  subst eqx eqy
  cases rx
  cases ry
  obtain ⟨itA, nA, relA, lenA, getA⟩ := lst_rd inv ra
  obtain ⟨itB, nB, relB, lenB, getB⟩ := lst_rd inv rb
  have both : itA.toArray ++ itB.toArray = (itA ++ itB).toArray := by rw [List.append_toArray]
  refine PySem.P.add_list getA getB ?_ (by rw [List.size_toArray, List.size_toArray, ← lenA, ← lenB]; exact room)
  rw [both]
  exact ⟨.ref _, _, Inv.lnew (t' := s0.toks) inv (relA.append relB) (by rw [List.length_append]; omega), rfl, fin _ inv.fresh⟩
theorem RepL.append {K : PySem.W.Frag} {Z H : Hp} : ∀ {vs ws : List V} {ds es : List D}, RepL K Z H vs ds nF → RepL K Z H ws es nF → RepL K Z H (vs ++ ws) (ds ++ es) nF
  | _, _, _, _, .nil, h => h
  | _, _, _, _, .cons r t f g, h => .cons (G := nF) (E := nF) (r.mono fun a z => f a z) (RepL.append (t.mono fun a z => (g a z).1) h) (fun _ z => z.elim) fun _ z => z.elim
theorem RepL.drop {K : PySem.W.Frag} {Z H : Hp} : ∀ {vs : List V} {ds : List D} {F : AS} (n : Nat), RepL K Z H vs ds F → RepL K Z H (vs.drop n) (ds.drop n) F
  | _, _, _, 0, h => h
  | _, _, _, _ + 1, .nil => .nil
  | _, _, _, n + 1, .cons _ t _ g => RepL.drop n (t.mono fun a z => (g a z).1)
theorem RepL.take {K : PySem.W.Frag} {Z H : Hp} : ∀ {vs : List V} {ds : List D} {F : AS} (n : Nat), RepL K Z H vs ds F → RepL K Z H (vs.take n) (ds.take n) F
  | _, _, _, 0, _ => .nil
  | _, _, _, _ + 1, .nil => .nil
  | _, _, _, n + 1, .cons r t f g => .cons r (RepL.take n t) f g
def rCatT : D → D → (D → Prop) → Prop := fun x y Q => ∃ o xs o' ys, x = .lst o xs ∧ y = .lst o' ys ∧ frzL xs = xs ∧ frzL ys = ys ∧ xs.length + ys.length ≤ sizeLine ∧ Q (.lst true (xs ++ ys))
theorem o_cat : OpT X (binaryOp .Add) rCatT := ⟨_, op_cat', fun σ S x d Fx y e Fy Qd P s rx ry ⟨o, xs, o', ys, e1, e2, f1, f2, hl, q⟩ k => by
  subst e1 e2
  obtain ⟨a, vs, rfl, h1, h2⟩ := rx.lst_inv s.zh
  obtain ⟨b, ws, rfl, h3, h4⟩ := ry.lst_inv s.zh
  exact ⟨a, b, vs, ws, rfl, rfl, h1, h3, by rw [h2.length, h4.length]; exact hl, fun p hp => k _ _ _ _ _ q (.lst s hp ((h2.imm' f1).append (h4.imm' f2)))⟩⟩
/-- xs * k, xs an owned list -/
def rRepT : D → D → (D → Prop) → Prop := fun x y Q => ∃ xs k, x = .lst true xs ∧ y = .int k ∧ frzL xs = xs ∧ -(2 ^ 63) ≤ k ∧ k < 2 ^ 63 ∧ xs.length * k.toNat ≤ sizeLine ∧ Q (.lst true (List.replicate k.toNat xs).flatten)
theorem RepL.rep {K : PySem.W.Frag} {Z H : Hp} {vs : List V} {ds : List D} (h : RepL K Z H vs ds nF) : ∀ k : Nat, RepL K Z H (List.replicate k vs).flatten (List.replicate k ds).flatten nF
  | 0 => .nil
  | k + 1 => by rw [List.replicate_succ, List.replicate_succ, List.flatten_cons, List.flatten_cons]; exact h.append (RepL.rep h k)
theorem Rep.own_inv {K : PySem.W.Frag} {Z H : Hp} {v : V} {xs : List D} {F : AS} (r : Rep K Z H v (.lst true xs) F) : ∃ a vs G, v = .ref a ∧ F a ∧ H a = some (.lst vs) ∧ Z a = none ∧ RepL K Z H vs xs G ∧ ∀ b, G b → F b ∧ b ≠ a := by
  cases r with
  | lstO a b c e f => exact ⟨_, _, _, rfl, a, b, c, e, f⟩
/-- a slice's part -/
abbrev TXO := Env → (Option Int → Env → Prop) → Prop
def liftO (K : PySem.W.Frag) (M : List Nat) (t : TXO) : TO := fun σ H Q => ∃ S Qt, S.H = H ∧ SR K σ S ∧ t S.env Qt ∧ ∀ S' b, Qt b S'.env → SR K σ S' → Stp M S S' → Q b S'.H
structure XO (X : Cx) (e : Option Expr) (M : List Nat) (t : TXO) : Prop where
  po : PO X e (liftO X.K M t)
def pNone : TXO := fun env Q => Q none env
def pSome (t : TX) : TXO := fun env Q => t env fun d env1 => ∃ i, d = .int i ∧ Q (some i) env1
theorem po_imp {X : Cx} {e : Option Expr} {t t' : TO} (h : PO X e t) (i : ∀ σ H Q, t' σ H Q → t σ H Q) : PO X e t' := ⟨fun pins s σ H Q I q => h.run pins s σ H Q I (i σ H Q q)⟩
theorem xo_none : XO X none [] pNone := ⟨po_imp po_none fun σ H Q ⟨S, Qt, eH, s, q, k⟩ => by
  subst eH
  exact k S none q s (.refl _ _)⟩
theorem xo_some (h : XX X e M R t) : XO X (some e) M (pSome t) := ⟨po_imp (po_some h.pe) fun σ H Q ⟨S, Qt, eH, s, q, k⟩ => by
  subst eH
  refine ⟨S, _, rfl, s, q, fun S' v d Fv ⟨i, e, q1⟩ s1 st v1 => ?_⟩
  subst e
  exact ⟨i, v1.rep.int_inv, k S' (some i) q1 s1 st⟩⟩
def cutL {α : Type} (xs : List α) (lo hi : Option Int) : List α := (xs.drop (HT.sIx xs.length 0 lo)).take (HT.sIx xs.length xs.length hi - HT.sIx xs.length 0 lo)
theorem RepL.cut {K : PySem.W.Frag} {Z H : Hp} {vs : List V} {ds : List D} {F : AS} (h : RepL K Z H vs ds F) (lo hi : Option Int) : RepL K Z H (cutV vs lo hi) (cutL ds lo hi) F := by
  unfold cutV cutL
  rw [h.length]
  exact (h.drop _).take _
def lstItems : D → Option (List D)
  | .lst _ xs => some xs
  | .kst xs => some xs
  | _ => none
/-- a list's slice -/
def oSl (t : TX) (tl th : TXO) : TX := fun env Q => t env fun d env1 => tl env1 fun lo env2 => th env2 fun hi env3 => ∃ xs, lstItems d = some xs ∧ frzL (cutL xs lo hi) = cutL xs lo hi ∧ Q (.lst true (cutL xs lo hi)) env3
theorem x_slice {lo hi : Option Expr} {Ml Mh : List Nat} {tl th : TXO} {p2 : Pos} (ha : XX X a Ma Ra ta) (hl : XO X lo Ml tl) (hh : XO X hi Mh th) (d1 : Dj Ra Ml = true := by rfl) (d2 : Dj Ra Mh = true := by rfl) :
    XX X (.Subscript a (.Slice lo hi none p2) pos) (Ma ++ Ml ++ Mh) [] (oSl ta tl th) := ⟨pe_imp (pe_slice sl_list ha.pe hl.po hh.po) fun σ H Q ⟨S, Qt, eH, s, q, k⟩ => by
  subst eH
  refine ⟨S, _, rfl, s, q, fun S1 x d Fx q1 s1 st1 v1 => ⟨S1, _, rfl, s1, q1, fun S2 l q2 s2 st2 => ⟨S2, _, rfl, s2, q2, fun S3 h ⟨xs, e, f, q3⟩ s3 st3 => ?_⟩⟩⟩
  have v3 := ((v1.later s1 st1 st2 d1).later s2 (st1.trans st2) st3 d2).rep
  have st := (st1.trans st2).trans st3
  have fin : ∀ a vs, x = .ref a → SqL X.K S3.H a vs → RepL X.K S3.Z S3.H vs xs Fx → rSlL X.K x l h S3.H Q := fun a vs ex hs hr => ⟨a, vs, ex, hs, fun p hp => by
    have f := Fr.lst (q := p) s3 hp ((hr.cut l h).imm' f)
    exact k ⟨_, _, S3.env, S3.F⟩ _ _ _ q3 (f.sr s3) (st.then0 f.stp) ((f.vp s3).then0 st)⟩
  cases d with
  | lst o ys =>
    cases e
    obtain ⟨a, vs, ex, h1, h2⟩ := v3.lst_inv s3.zh
    exact fin a vs ex (.inl h1) h2
  | kst ys =>
    cases e
    obtain ⟨a, vs, ex, h1, h2⟩ := v3.kst_inv s3.zh
    exact fin a vs ex h1 h2
  | _ => cases e⟩
end
end TT
namespace TT
open PySem PySem.Spec PyProof.Rows L2
variable [Cls]
structure TEnds where
  nx : Env → Prop
  rt : D → Env → Prop
  bk : Env → Prop := fun _ => False
  ct : Env → Prop := fun _ => False
abbrev TXS := TEnds → Env → Prop
/-- a step of a statement -/
structure StpS (A : List Nat) (σ σ' : L2.St) (S S' : W) : Prop where
  ext : Ext S.Z S.H (fun a => ∃ i, S.F i a) S'.Z S'.H
  nf : ∀ i a, S'.F i a → (∃ j, S.F j a) ∨ S.H a = none
  sg : ∀ i, i ∉ A → σ'[i]? = σ[i]?
structure VPs (K : PySem.W.Frag) (S S' : W) (v : V) (d : D) (Fv : AS) : Prop where
  rep : Rep K S'.Z S'.H v d Fv
  tv : ∀ a, Fv a → (∃ o, S'.H a = some o) ∧ S'.Z a = none
  ow : ∀ a, Fv a → (∀ i, ¬ S'.F i a) ∧ (S.H a = none ∨ ∃ i, S.F i a)
section
variable {K : PySem.W.Frag} {A B M R : List Nat} {S S1 S2 : W} {σ σ1 σ2 : L2.St} {v : V} {d : D} {Fv : AS}
theorem StpS.refl : StpS A σ σ S S := ⟨.refl _ _ _, fun i a h => .inl ⟨i, h⟩, fun _ _ => rfl⟩
theorem Stp.s (x : Stp M S S1) : StpS A σ σ S S1 := ⟨x.ext.mono fun _ ⟨i, _, h⟩ => ⟨i, h⟩, fun i a h => x.any h, fun _ _ => rfl⟩
theorem StpS.none_of (x : StpS A σ σ1 S S1) {a : Addr} (h : S1.H a = none) : S.H a = none := by
  cases q : S.H a with
  | none => rfl
  | some u =>
    obtain ⟨o', e'⟩ := x.ext.th a u q
    rw [h] at e'; cases e'
theorem StpS.trans (x : StpS A σ σ1 S S1) (y : StpS B σ1 σ2 S1 S2) : StpS (A ++ B) σ σ2 S S2 :=
  ⟨x.ext.trans y.ext (fun _ z => z) fun c ⟨i, h⟩ => x.nf i c h, fun i a h => (y.nf i a h).elim (fun ⟨j, h⟩ => x.nf j a h) fun h => .inr (x.none_of h),
    fun i n => (y.sg i fun z => n (List.mem_append_right _ z)).trans (x.sg i fun z => n (List.mem_append_left _ z))⟩
theorem StpS.mono (x : StpS A σ σ1 S S1) (h : ∀ i, i ∈ A → i ∈ B) : StpS B σ σ1 S S1 := ⟨x.ext, x.nf, fun i n => x.sg i fun z => n (h i z)⟩
theorem VPs.first (h : VPs K S1 S2 v d Fv) (x : StpS A σ σ1 S S1) : VPs K S S2 v d Fv := ⟨h.rep, h.tv, fun a z => ⟨(h.ow a z).1, (h.ow a z).2.elim (fun q => .inl (x.none_of q)) fun ⟨i, q⟩ => (x.nf i a q).elim .inr .inl⟩⟩
theorem VP.s (h : VP K M [] S S1 v d Fv) : VPs K S S1 v d Fv := ⟨h.rep, h.tv, fun a z => by
  rcases h.ow a z with ⟨i, h, _⟩ | ⟨h1, h2⟩
  · cases h
  · exact ⟨h1, h2.imp id fun ⟨i, _, q⟩ => ⟨i, q⟩⟩⟩
end
def liftS (K : PySem.W.Frag) (A : List Nat) (t : TXS) : TS := fun D σ H => ∃ S Dt, S.H = H ∧ SR K σ S ∧ t Dt S.env ∧
  (∀ σ' S', Dt.nx S'.env → SR K σ' S' → StpS A σ σ' S S' → D.nx σ' S'.H) ∧
  (∀ σ' S' v d Fv, Dt.rt d S'.env → SR K σ' S' → StpS A σ σ' S S' → VPs K S S' v d Fv → D.rt v S'.H) ∧
  (∀ σ' S', Dt.bk S'.env → SR K σ' S' → StpS A σ σ' S S' → D.bk σ' S'.H) ∧
  (∀ σ' S', Dt.ct S'.env → SR K σ' S' → StpS A σ σ' S S' → D.ct σ' S'.H)
structure XS (X : Cx) (st : Stmt) (A : List Nat) (t : TXS) : Prop where
  ps : PS X st (liftS X.K A t)
structure XSs (X : Cx) (st : List Stmt) (A : List Nat) (t : TXS) : Prop where
  pss : PSs X st (liftS X.K A t)
section
variable {X : Cx} {st : Stmt} {rest : List Stmt} {e a b : Expr} {t u : TXS} {tx ty : TX} {A B M Ma Mb R Ra Rb : List Nat} {pos : Pos}
def sNext : TXS := fun D env => D.nx env
def sSeq (t u : TXS) : TXS := fun D env => t { D with nx := u D } env
theorem xs_nil : XSs X [] [] sNext := ⟨pss_imp pss_nil fun D σ H ⟨S, Dt, eH, s, q, k, _⟩ => by
  subst eH
  exact k σ S q s .refl⟩
theorem liftS_mono {K : PySem.W.Frag} {D : Ends} {σ : L2.St} {H : Hp} (h : liftS K B t D σ H) (m : ∀ i, i ∈ A → i ∈ B) : liftS K A t D σ H := by
  obtain ⟨S, Dt, eH, s, q, k1, k2, k3, k4⟩ := h
  exact ⟨S, Dt, eH, s, q, fun σ' S' a b c => k1 σ' S' a b (c.mono m), fun σ' S' v d F a b c => k2 σ' S' v d F a b (c.mono m), fun σ' S' a b c => k3 σ' S' a b (c.mono m), fun σ' S' a b c => k4 σ' S' a b (c.mono m)⟩
theorem xs_cons (h1 : XS X st A t) (h2 : XSs X rest B u) : XSs X (st :: rest) (A ++ B) (sSeq t u) := ⟨pss_imp (pss_cons h1.ps h2.pss) fun D σ H ⟨S, Dt, eH, s, q, k1, k2, k3, k4⟩ => by
  subst eH
  have l : ∀ i, i ∈ A → i ∈ A ++ B := fun _ z => List.mem_append_left _ z
  refine ⟨S, { Dt with nx := u Dt }, rfl, s, q, fun σ1 S1 q1 s1 st1 => ?_, fun σ1 S1 v d Fv q1 s1 st1 w => k2 σ1 S1 v d Fv q1 s1 (st1.mono l) w, fun σ1 S1 q1 s1 st1 => k3 σ1 S1 q1 s1 (st1.mono l), fun σ1 S1 q1 s1 st1 => k4 σ1 S1 q1 s1 (st1.mono l)⟩
  exact ⟨S1, Dt, rfl, s1, q1, fun σ2 S2 q2 s2 st2 => k1 σ2 S2 q2 s2 (st1.trans st2), fun σ2 S2 v d Fv q2 s2 st2 w => k2 σ2 S2 v d Fv q2 s2 (st1.trans st2) (w.first st1), fun σ2 S2 q2 s2 st2 => k3 σ2 S2 q2 s2 (st1.trans st2), fun σ2 S2 q2 s2 st2 => k4 σ2 S2 q2 s2 (st1.trans st2)⟩⟩
theorem xs_one (h1 : XS X st A t) : XSs X [st] A t := ⟨pss_one h1.ps⟩
def sNever : TXS := fun _ _ => False
def sExpr (t : TX) : TXS := fun D env => t env fun _ env1 => D.nx env1
theorem s_expr (h : XX X e M R tx) (hsw : swapsWith e none pos.line X.env = pure false := by rfl) : XS X (.Expr e pos) [] (sExpr tx) := ⟨ps_imp (ps_expr h.pe hsw) fun D σ H ⟨S, Dt, eH, s, q, k, _⟩ => by
  subst eH
  exact ⟨S, _, rfl, s, q, fun S1 v d Fv q1 s1 st1 v1 => k σ S1 q1 s1 st1.s⟩⟩
def sRet (t : TX) : TXS := fun D env => t env fun d env1 => D.rt d env1
theorem s_ret (h : XX X e M [] tx) : XS X (.Return (some e) pos) [] (sRet tx) := ⟨ps_imp (ps_ret h.pe) fun D σ H ⟨S, Dt, eH, s, q, _, k, _⟩ => by
  subst eH
  exact ⟨S, _, rfl, s, q, fun S1 v d Fv q1 s1 st1 v1 => k σ S1 v d Fv q1 s1 st1.s v1.s⟩⟩
def sIf (c : TXT) (t u : TXS) : TXS := fun D env => c env fun b env1 => if b = true then t D env1 else u D env1
theorem s_if {c : Expr} {xs ys : List Stmt} {tc : TXT} (hc : XT X c M tc) (h1 : XSs X xs A t) (h2 : XSs X ys B u) : XS X (.If c xs ys pos) (A ++ B) (sIf tc t u) := ⟨ps_imp (ps_if hc.pt h1.pss h2.pss) fun D σ H ⟨S, Dt, eH, s, q, k1, k2, k3, k4⟩ => by
  subst eH
  refine ⟨S, _, rfl, s, q, fun S1 c q1 s1 st1 => ?_⟩
  have x : StpS [] σ σ S S1 := st1.s
  have fin : ∀ w : TXS, w Dt S1.env → liftS X.K (A ++ B) w D σ S1.H := fun w q1 => ⟨S1, Dt, rfl, s1, q1, fun σ2 S2 q2 s2 st2 => k1 σ2 S2 q2 s2 (x.trans st2), fun σ2 S2 v d Fv q2 s2 st2 w => k2 σ2 S2 v d Fv q2 s2 (x.trans st2) (w.first x), fun σ2 S2 q2 s2 st2 => k3 σ2 S2 q2 s2 (x.trans st2), fun σ2 S2 q2 s2 st2 => k4 σ2 S2 q2 s2 (x.trans st2)⟩
  cases c with
  | true => exact liftS_mono (fin t q1) fun _ z => List.mem_append_left _ z
  | false => exact liftS_mono (fin u q1) fun _ z => List.mem_append_right _ z⟩
def putF (F : Nat → AS) (i : Nat) (G : AS) : Nat → AS := fun j => if j = i then G else F j
theorem putF_same {F : Nat → AS} {i : Nat} {G : AS} : putF F i G i = G := if_pos rfl
theorem putF_ne {F : Nat → AS} {i j : Nat} {G : AS} (h : j ≠ i) : putF F i G j = F j := if_neg h
theorem set_same {α : Type} {l : List α} {i : Nat} {x : α} (h : i < l.length) : (l.set i x)[i]? = some x := by rw [List.getElem?_set_self h]
theorem SR.set {K : PySem.W.Frag} {σ : L2.St} {S : W} {v : V} {d : D} {Fv : AS} (s : SR K σ S) (i : Nat) (r : Rep K S.Z S.H v d Fv) (tv : ∀ a, Fv a → (∃ o, S.H a = some o) ∧ S.Z a = none) (ow : ∀ a, Fv a → ∀ j, ¬ S.F j a) :
    SR K (σ.set i (some v)) ⟨S.Z, S.H, S.env.set i (some d), putF S.F i Fv⟩ := by
  refine s.go (F0 := nF) (.refl _ _ _) s.zh (fun j => ?_) (fun j k a h1 h2 => ?_) (by rw [List.length_set, List.length_set]; exact s.ln)
  · by_cases hj : j = i
    · subst hj
      rw [putF_same]
      refine .inr ⟨fun d' e => ?_, tv⟩
      have hl : j < S.env.length := by
        have := (List.getElem?_eq_some_iff.mp e).1
        simpa using this
      rw [set_same hl] at e
      cases e
      exact ⟨v, set_same (by rw [← s.ln]; exact hl), r⟩
    · exact .inl ⟨by rw [List.getElem?_set_ne (Ne.symm hj)], by rw [List.getElem?_set_ne (Ne.symm hj)], putF_ne hj, fun _ _ z => z⟩
  · by_cases hj : j = i
    · by_cases hk : k = i
      · rw [hj, hk]
      · subst hj
        rw [putF_same] at h1; rw [putF_ne hk] at h2
        exact absurd h2 (ow a h1 k)
    · by_cases hk : k = i
      · subst hk
        rw [putF_same] at h2; rw [putF_ne hj] at h1
        exact absurd h1 (ow a h2 j)
      · rw [putF_ne hj] at h1; rw [putF_ne hk] at h2
        exact s.ap j k a h1 h2
theorem StpS.set {σ : L2.St} {S : W} {v : V} {d : D} {Fv : AS} {i : Nat} {S0 : W} (x : StpS A σ σ S0 S) (ow : ∀ a, Fv a → S0.H a = none ∨ ∃ i, S0.F i a) : StpS (A ++ [i]) σ (σ.set i (some v)) S0 ⟨S.Z, S.H, S.env.set i (some d), putF S.F i Fv⟩ :=
  ⟨x.ext, fun j a h => by
    have h : putF S.F i Fv j a := h
    by_cases hj : j = i
    · subst hj
      rw [putF_same] at h
      exact (ow a h).symm
    · rw [putF_ne hj] at h
      exact x.nf j a h, fun j n => by
    have : j ≠ i := fun e => n (by simp [e])
    rw [List.getElem?_set_ne (Ne.symm this)]⟩
def sSet (i : Nat) (t : TX) : TXS := fun D env => t env fun d env1 => D.nx (env1.set i (some d))
theorem set_lift {i : Nat} (D : Ends) (σ : L2.St) (H : Hp) (h : liftS X.K [i] (sSet i tx) D σ H) : tAsg (lift X.K M [] tx) (gName i) D σ H := by
  obtain ⟨S, Dt, eH, s, q, k, _⟩ := h
  subst eH
  refine ⟨S, _, rfl, s, q, fun S1 v d Fv q1 s1 st1 v1 => ?_⟩
  have w := v1.s
  exact k _ ⟨S1.Z, S1.H, S1.env.set i (some d), putF S1.F i Fv⟩ q1 (s1.set i w.rep w.tv fun a z => (w.ow a z).1) ((st1.s (A := [])).set fun a z => (w.ow a z).2)
theorem s_set {i : Nat} {x : Str} {pos' : Pos} (hN : X.N.Nodup) (hi : X.N[i]? = some x) (hx : Loc X.env.scope x) (he : XX X e M [] tx) (hsw : swapsWith e (some (.Name x pos')) pos.line X.env = pure false := by rfl) (hf : X.fn x = true ∨ X.env.scope.names.lookup x = some .local := by first | exact .inl rfl | exact .inr rfl | assumption) :
    XS X (.Assign [.Name x pos'] e pos) [i] (sSet i tx) := ⟨ps_imp (ps_set hN hi hx he.pe hsw hf) fun D σ H h => set_lift D σ H h⟩
/-- a, b = x, y -/
def sPar (i j : Nat) (t : TXA) : TXS := fun D env => t env fun ds env1 => ∃ d e, ds = [d, e] ∧ D.nx ((env1.set i (some d)).set j (some e))
theorem s_par {i j : Nat} {x y : Str} {px py pt : Pos} {kt k2 pt2} {u : TXA} (hc : X.calm = true) (hN : X.N.Nodup) (hi : X.N[i]? = some x) (hj : X.N[j]? = some y) (hij : i ≠ j)
    (hx : X.env.scope.names.lookup x = some .local) (hy : X.env.scope.names.lookup y = some .local) (ha : XL X [a, b] M u)
    (hw : swappedStores [.Tuple [.Name x px, .Name y py] kt pt] (.Tuple [a, b] k2 pt2) X.env = pure (some [x, y]) := by rfl)
    (hsw : swapsWithSole [.Tuple [.Name x px, .Name y py] kt pt] (.Tuple [a, b] k2 pt2) pos.line X.env = pure false := by rfl) :
    XS X (.Assign [.Tuple [.Name x px, .Name y py] kt pt] (.Tuple [a, b] k2 pt2) pos) [i, j] (sPar i j u) := ⟨ps_imp (ps_par hc hN hi hj hij hx hy ha.pa hw hsw) fun D σ H ⟨S, Dt, eH, s, q, k, _⟩ => by
  subst eH
  refine ⟨S, _, rfl, s, q, fun S1 vs ds Fs ⟨d, e, ed, q1⟩ _ s1 st1 v1 => ?_⟩
  subst ed
  obtain ⟨v, w, rfl, G, E, r1, r2, g1, g2⟩ : ∃ v w, vs = [v, w] ∧ ∃ G E : AS, Rep X.K S1.Z S1.H v d G ∧ Rep X.K S1.Z S1.H w e E ∧ (∀ a, G a → Fs a) ∧ ∀ a, E a → Fs a ∧ ¬ G a := by
    cases v1.rep with
    | cons r t f g =>
      cases t with
      | cons r' t' f' g' =>
        cases t'
        exact ⟨_, _, rfl, _, _, r, r', f, fun a z => g a (f' a z)⟩
  refine ⟨v, w, rfl, ?_⟩
  have s2 := s1.set i r1 (fun a z => v1.tv a (g1 a z)) fun a z => (v1.ow a (g1 a z)).1
  have s3 := s2.set j r2 (fun a z => v1.tv a (g2 a z).1) fun a z k => by
    show ¬ putF S1.F i G k a
    by_cases hk : k = i
    · subst hk; rw [putF_same]; exact (g2 a z).2
    · rw [putF_ne hk]; exact (v1.ow a (g2 a z).1).1 k
  have ow : ∀ a, Fs a → S.H a = none ∨ ∃ i, S.F i a := fun a z => (v1.ow a z).2.imp id fun ⟨i, _, h⟩ => ⟨i, h⟩
  refine k _ ⟨S1.Z, S1.H, (S1.env.set i (some d)).set j (some e), putF (putF S1.F i G) j E⟩ q1 s3 ⟨(st1.s (A := []) (σ := σ)).ext, fun k a h => ?_, fun k n => ?_⟩
  · have h : putF (putF S1.F i G) j E k a := h
    by_cases hk : k = j
    · subst hk; rw [putF_same] at h; exact (ow a (g2 a h).1).symm
    · rw [putF_ne hk] at h
      by_cases hk2 : k = i
      · subst hk2; rw [putF_same] at h; exact (ow a (g1 a h)).symm
      · rw [putF_ne hk2] at h; exact st1.any h
  · have n1 : k ≠ i := fun z => n (by simp [z])
    have n2 : k ≠ j := fun z => n (by simp [z])
    rw [List.getElem?_set_ne (Ne.symm n2), List.getElem?_set_ne (Ne.symm n1)]⟩
/-- name op= e, a fresh value -/
def sAug (i : Nat) (t : TX) (rt : D → D → (D → Prop) → Prop) : TXS := fun D env => ∃ d0, env[i]? = some (some d0) ∧ d0.frz = d0 ∧ t env fun d env1 => rt d0 d fun r => D.nx (env1.set i (some r))
/-- what the name i owns is changed at a -/
theorem SR.mut {K : PySem.W.Frag} {σ : L2.St} {S : W} {i : Nat} {v : V} {a : Addr} {o' : HO} {d' : D} {G : AS} (s : SR K σ S) (hσ : σ[i]? = some (some v)) (ha : S.F i a)
    (rep : Rep K S.Z (upd S.H a o') v d' G) (hG : ∀ b, G b → (S.F i b ∨ ∀ j, ¬ S.F j b) ∧ (∃ o, upd S.H a o' b = some o) ∧ S.Z b = none) (hi : ∀ M', M' = i → True := fun _ _ => trivial) :
    SR K σ ⟨S.Z, upd S.H a o', S.env.set i (some d'), putF S.F i G⟩ ∧ (∀ b, upd S.H a o' b = none → S.H b = none) ∧ Ext S.Z S.H (fun b => b = a) S.Z (upd S.H a o') := by
  have x : Ext S.Z S.H (fun b => b = a) S.Z (upd S.H a o') := ⟨fun _ _ h => h, fun b o h n => .inl (by rw [upd_ne n]; exact h), fun b o h => by
    by_cases e : b = a
    · exact ⟨o', by rw [e]; exact upd_same⟩
    · exact ⟨o, by rw [upd_ne e]; exact h⟩, fun b o h n => by rw [n] at h; cases h⟩
  refine ⟨?_, fun b h => ?_, x⟩
  · refine s.go x (fun b o h => ?_) (fun j => ?_) (fun j k b h1 h2 => ?_) (by rw [List.length_set]; exact s.ln)
    · have : b ≠ a := fun e => by rw [e, (s.tr i a ha).2] at h; cases h
      rw [upd_ne this]
      exact s.zh b o h
    · by_cases hj : j = i
      · subst hj
        rw [putF_same]
        refine .inr ⟨fun d e => ?_, fun b h => (hG b h).2⟩
        have hl : j < S.env.length := by
          have := (List.getElem?_eq_some_iff.mp e).1
          simpa using this
        rw [set_same hl] at e
        cases e
        exact ⟨v, hσ, rep⟩
      · exact .inl ⟨by rw [List.getElem?_set_ne (Ne.symm hj)], rfl, putF_ne hj, fun b h z => hj (s.ap j i b h (z ▸ ha))⟩
    · have key : ∀ j, putF S.F i G j b → (S.F j b ∨ (j = i ∧ ∀ k, ¬ S.F k b)) := fun j h => by
        by_cases hj : j = i
        · subst hj
          rw [putF_same] at h
          exact (hG b h).1.imp id fun z => ⟨rfl, z⟩
        · rw [putF_ne hj] at h; exact .inl h
      rcases key j h1 with q1 | ⟨q1, n1⟩ <;> rcases key k h2 with q2 | ⟨q2, n2⟩
      · exact s.ap j k b q1 q2
      · exact absurd q1 (n2 j)
      · exact absurd q2 (n1 k)
      · rw [q1, q2]
  · by_cases e : b = a
    · rw [e, upd_same] at h; cases h
    · rw [upd_ne e] at h; exact h
/-- .. as a step -/
theorem Stp.mut {S0 S : W} {i : Nat} {a : Addr} {o' : HO} {d' : D} {G : AS} (x : Stp M S0 S) (ha : S.F i a) (hx : Ext S.Z S.H (fun b => b = a) S.Z (upd S.H a o'))
    (hG : ∀ b, G b → S.F i b ∨ S0.H b = none ∨ ∃ j, j ∈ M ∧ S0.F j b) : Stp (M ++ [i]) S0 ⟨S.Z, upd S.H a o', S.env.set i (some d'), putF S.F i G⟩ := by
  have key : ∀ b, S.F i b → (∃ j, j ∈ M ++ [i] ∧ S0.F j b) ∨ S0.H b = none := fun b h => by
    by_cases hm : i ∈ M
    · rcases x.nf i b hm h with ⟨j, q1, q2⟩ | q
      · exact .inl ⟨j, List.mem_append_left _ q1, q2⟩
      · exact .inr q
    · rw [(x.frm i hm).2] at h
      exact .inl ⟨i, by simp, h⟩
  refine ⟨x.ext.trans hx (fun c ⟨j, h1, h2⟩ => ⟨j, List.mem_append_left _ h1, h2⟩) fun c e => by subst e; exact key c ha, fun j n => ?_, fun j b hj h => ?_⟩
  · have n1 : j ∉ M := fun z => n (List.mem_append_left _ z)
    have n2 : j ≠ i := fun z => n (by simp [z])
    exact ⟨Eq.trans (List.getElem?_set_ne (Ne.symm n2)) (x.frm j n1).1, Eq.trans (putF_ne n2) (x.frm j n1).2⟩
  · have h : putF S.F i G j b := h
    by_cases e : j = i
    · subst e
      rw [putF_same] at h
      rcases hG b h with q | q | ⟨k, q1, q2⟩
      · exact key b q
      · exact .inr q
      · exact .inl ⟨k, List.mem_append_left _ q1, q2⟩
    · rw [putF_ne e] at h
      by_cases hm : j ∈ M
      · rcases x.nf j b hm h with ⟨k, q1, q2⟩ | q
        · exact .inl ⟨k, List.mem_append_left _ q1, q2⟩
        · exact .inr q
      · rw [(x.frm j hm).2] at h
        exact .inl ⟨j, hj, h⟩
end
end TT
namespace TT
open PySem PySem.Spec PyProof.Rows L2
variable [Cls]
section
variable {K : PySem.W.Frag} {Z H : Hp}
theorem RepL.snoc {vs : List V} {ds : List D} {v : V} {d : D} {F G : AS} (h : RepL K Z H vs ds F) (r : Rep K Z H v d G) (ap : ∀ a, G a → ¬ F a) : RepL K Z H (vs ++ [v]) (ds ++ [d]) (fun a => F a ∨ G a) := by
  induction vs generalizing ds F with
  | nil =>
    cases h
    exact .cons r .nil (fun a z => .inr z) (E := nF) fun a z => z.elim
  | cons w vs ih =>
    cases h with
    | cons r1 t f g =>
      rename_i G1 E1 d1 ds1
      refine .cons r1 (ih t fun a z y => ap a z (g a y).1) (fun a z => .inl (f a z)) fun a z => ?_
      rcases z with z | z
      · exact ⟨.inl (g a z).1, (g a z).2⟩
      · exact ⟨.inr z, fun y => ap a z (f a y)⟩
theorem RepL.set {vs : List V} {ds : List D} {v : V} {d : D} {F G : AS} (h : RepL K Z H vs ds F) (j : Nat) (r : Rep K Z H v d G) (ap : ∀ a, G a → ¬ F a) : RepL K Z H (vs.set j v) (ds.set j d) (fun a => F a ∨ G a) := by
  induction vs generalizing ds F j with
  | nil => cases h; simp only [List.set_nil]; exact .nil
  | cons w vs ih =>
    cases h with
    | cons r1 t f g =>
      cases j with
      | zero => exact .cons r t (fun a z => .inr z) fun a z => ⟨.inl (g a z).1, fun y => ap a y (g a z).1⟩
      | succ j =>
        refine .cons r1 (ih t j fun a z y => ap a z (g a y).1) (fun a z => .inl (f a z)) fun a z => ?_
        rcases z with z | z
        · exact ⟨.inl (g a z).1, (g a z).2⟩
        · exact ⟨.inr z, fun y => ap a z (f a y)⟩
/-- changed at a, that is none of these -/
theorem RepL.upd {vs : List V} {ds : List D} {F : AS} {a : Addr} {o : HO} (h : RepL K Z H vs ds F) (na : ¬ F a) : RepL K Z (upd H a o) vs ds F :=
  h.keep (fun _ _ h => h) fun b u f e z => ⟨by
    have nb : b ≠ a := fun e' => na (e' ▸ f)
    rw [upd_ne nb]; exact e, z⟩
theorem Rep.upd {v : V} {d : D} {F : AS} {a : Addr} {o : HO} (h : Rep K Z H v d F) (na : ¬ F a) : Rep K Z (upd H a o) v d F :=
  h.keep (fun _ _ h => h) fun b u f e z => ⟨by
    have nb : b ≠ a := fun e' => na (e' ▸ f)
    rw [upd_ne nb]; exact e, z⟩
end
section
variable {X : Cx} {e a b : Expr} {es : List Expr} {tx ty tk td : TX} {M Ma Mb R Ra Rb : List Nat} {pos p1 apos : Pos} {x : Str} {i : Nat}
theorem tyV_lst {K : PySem.W.Frag} {S : W} {σ : L2.St} {v : V} {o : Bool} {xs : List D} {F : AS} (s : SR K σ S) (r : Rep K S.Z S.H v (.lst o xs) F) : tyV K "list" v S.H := by
  obtain ⟨a, vs, rfl, h1, _⟩ := r.lst_inv s.zh
  exact .inl ⟨rfl, vs, .inl h1⟩
theorem sl_at {K : PySem.W.Frag} {S : W} {σ : L2.St} {d : D} (s : SR K σ S) (e : S.env[i]? = some (some d)) {v : V} (h : σ[i]? = some (some v)) : Rep K S.Z S.H v d (S.F i) := by
  obtain ⟨v', h', r⟩ := s.sl i d e
  rw [h] at h'
  cases h'
  exact r
/-- x.append(e) -/
def oApp (i : Nat) (t : TX) : TX := fun env Q => (∃ o xs, env[i]? = some (some (.lst o xs))) ∧ t env fun d env1 => ∃ xs, env1[i]? = some (some (.lst true xs)) ∧ xs.length < sizeLine ∧ Q .non (env1.set i (some (.lst true (xs ++ [d]))))
theorem x_append (hx : PE X (.Name x p1) (tVar i)) (ha : XX X e M [] tx)
    (hbase : attributeBase (.Name x p1) "append" X.env (eval (.Name x p1) X.env) = eval (.Name x p1) X.env := by rfl)
    (hfew : ((backTo pos (starEach [e] X.env)).all (fun x => !x.1) && (backToKw pos (keywordEach [] X.env)).all (fun x => x.1.isSome)
      && decide ([e].length + ([] : List Keyword).length + (if ([] : List Keyword).isEmpty then 0 else 1) < 30)) = true := by rfl)
    (hline : (apos.endLine == pos.line) = true := by rfl) (hs : starEach [e] X.env = (false, eval e X.env) :: starEach [] X.env := by rfl) (hplain : (backTo pos (starEach [] X.env)).any (·.1) = false := by rfl) :
    XX X (.Call (.Attribute (.Name x p1) "append" apos) [e] [] pos) (M ++ [i]) [] (oApp i tx) := ⟨pe_imp (pe_bm PySem.F.plainAttrs_list PySem.F.slot_list_append PySem.F.type_list_append mt_append hx (pa_cons ha.pe pa_nil hs) hbase hfew hline hs hplain) fun σ H Q ⟨S, Qt, eH, s, ⟨⟨o, xs0, e0⟩, q⟩, k⟩ => by
  subst eH
  obtain ⟨v0, h0, r0⟩ := s.sl i _ e0
  refine ⟨v0, h0, tyV_lst s r0, S, _, rfl, s, q, fun S1 y d Fy ⟨xs, e1, hl, q1⟩ s1 st1 v1 => ?_⟩
  have r1 := sl_at s1 e1 h0
  obtain ⟨a, vs, G, rfl, fa, ha, za, rl, hG⟩ := r1.own_inv
  have w := v1.s
  have hn : ∀ b, Fy b → ¬ S1.F i b := fun b z => (w.ow b z).1 i
  have nya : ¬ Fy a := fun z => hn a z fa
  have nga : ¬ G a := fun z => (hG a z).2 rfl
  refine ⟨a, vs, y, rfl, rfl, ha, by rw [rl.length]; exact hl, ?_⟩
  have rep : Rep X.K S1.Z (upd S1.H a (.lst (vs ++ [y]))) (.ref a) (.lst true (xs ++ [d])) (fun b => S1.F i b ∨ Fy b) :=
    .lstO (.inl fa) upd_same za ((rl.upd nga).snoc (w.rep.upd nya) fun b z y => hn b z (hG b y).1) fun b z => z.elim (fun z => ⟨.inl (hG b z).1, (hG b z).2⟩) fun z => ⟨.inr z, fun e => nya (e ▸ z)⟩
  have tr : ∀ b, S1.F i b ∨ Fy b → (∃ o, upd S1.H a (.lst (vs ++ [y])) b = some o) ∧ S1.Z b = none := fun b z => by
    have h : (∃ o, S1.H b = some o) ∧ S1.Z b = none := z.elim (s1.tr i b) (w.tv b)
    obtain ⟨⟨o, h⟩, hz⟩ := h
    refine ⟨?_, hz⟩
    by_cases e : b = a
    · exact ⟨_, by rw [e]; exact upd_same⟩
    · exact ⟨o, by rw [upd_ne e]; exact h⟩
  obtain ⟨s2, _, x2⟩ := s1.mut (i := i) h0 fa rep fun b z => ⟨z.imp id fun z => (w.ow b z).1, tr b z⟩
  exact k _ _ _ nF q1 s2 (st1.mut fa x2 fun b z => z.imp id fun z => by
    rcases v1.ow b z with ⟨j, h, _⟩ | ⟨_, h⟩
    · cases h
    · exact h) (.imm .non)⟩
/-- where a name's list (dict, ..) at a is changed to o', its tree to d' -/
theorem mut_step {K : PySem.W.Frag} {σ : L2.St} {S0 S1 : W} {o' : HO} {d' : D} {a : Addr} {Fy : AS} (s1 : SR K σ S1) (st1 : Stp M S0 S1) (h0 : σ[i]? = some (some (.ref a))) (fa : S1.F i a)
    (ow : ∀ b, Fy b → (∀ j, ¬ S1.F j b) ∧ (S0.H b = none ∨ ∃ j, j ∈ M ∧ S0.F j b)) (tv : ∀ b, Fy b → (∃ o, S1.H b = some o) ∧ S1.Z b = none)
    (rep : Rep K S1.Z (upd S1.H a o') (.ref a) d' (fun b => S1.F i b ∨ Fy b)) :
    SR K σ ⟨S1.Z, upd S1.H a o', S1.env.set i (some d'), putF S1.F i (fun b => S1.F i b ∨ Fy b)⟩ ∧ Stp (M ++ [i]) S0 ⟨S1.Z, upd S1.H a o', S1.env.set i (some d'), putF S1.F i (fun b => S1.F i b ∨ Fy b)⟩ := by
  have tr : ∀ b, S1.F i b ∨ Fy b → (∃ o, upd S1.H a o' b = some o) ∧ S1.Z b = none := fun b z => by
    have h : (∃ o, S1.H b = some o) ∧ S1.Z b = none := z.elim (s1.tr i b) (tv b)
    obtain ⟨⟨o, h⟩, hz⟩ := h
    refine ⟨?_, hz⟩
    by_cases e : b = a
    · exact ⟨_, by rw [e]; exact upd_same⟩
    · exact ⟨o, by rw [upd_ne e]; exact h⟩
  obtain ⟨s2, _, x2⟩ := s1.mut (i := i) h0 fa rep fun b z => ⟨z.imp id fun z => (ow b z).1, tr b z⟩
  exact ⟨s2, st1.mut fa x2 fun b z => z.imp id fun z => (ow b z).2⟩
theorem VP.ow' {K : PySem.W.Frag} {S S1 : W} {v : V} {d : D} {Fy : AS} (v1 : VP K M [] S S1 v d Fy) : ∀ b, Fy b → (∀ j, ¬ S1.F j b) ∧ (S.H b = none ∨ ∃ j, j ∈ M ∧ S.F j b) := fun b z => by
  rcases v1.ow b z with ⟨j, h, _⟩ | h
  · cases h
  · exact h
/-- x[k] = e, x a list -/
def sSetL (i : Nat) (te tk : TX) : TXS := fun D env => te env fun d env1 => (∃ d0, env1[i]? = some (some d0)) ∧ tk env1 fun kd env2 => ∃ xs n j, kd = .int n ∧ env2[i]? = some (some (.lst true xs)) ∧ ixN xs.length n = some j ∧ D.nx (env2.set i (some (.lst true (xs.set j d))))
def putD {κ : Type} [DecidableEq κ] (kvs : List (κ × D)) (k : κ) (d : D) : List (κ × D) :=
  if (kvs.any fun kv => decide (kv.1 = k)) = true then kvs.map (fun kv => if kv.1 = k then (kv.1, d) else kv) else kvs ++ [(k, d)]
theorem any_keys {κ : Type} [DecidableEq κ] (k : κ) : ∀ {m : List (κ × V)} {kvs : List (κ × D)}, m.map (·.1) = kvs.map (·.1) → (m.any fun kv => decide (kv.1 = k)) = kvs.any fun kv => decide (kv.1 = k)
  | [], [], _ => rfl
  | [], _ :: _, h => by cases h
  | _ :: _, [], h => by cases h
  | p :: m, q :: kvs, h => by
    have h1 : p.1 = q.1 := (List.cons.inj h).1
    rw [List.any_cons, List.any_cons, h1, any_keys k (List.cons.inj h).2]
theorem put_keys {κ : Type} [DecidableEq κ] (k : κ) (v : V) (d : D) {m : List (κ × V)} {kvs : List (κ × D)} (h : m.map (·.1) = kvs.map (·.1)) : (putK m k v).map (·.1) = (putD kvs k d).map (·.1) := by
  have e := any_keys k h
  unfold putK putD
  rw [e]
  split
  · rw [List.map_map, List.map_map]
    have h1 : (m.map ((fun p : κ × V => p.1) ∘ fun kv => if kv.1 = k then (kv.1, v) else kv)) = m.map (·.1) := List.map_congr_left fun p _ => by
      show (if p.1 = k then (p.1, v) else p).1 = p.1
      split <;> rfl
    have h2 : (kvs.map ((fun p : κ × D => p.1) ∘ fun kv => if kv.1 = k then (kv.1, d) else kv)) = kvs.map (·.1) := List.map_congr_left fun p _ => by
      show (if p.1 = k then (p.1, d) else p).1 = p.1
      split <;> rfl
    rw [h1, h2, h]
  · rw [List.map_append, List.map_append, h]; rfl
/-- keys are told once -/
theorem repl_rep {κ : Type} [DecidableEq κ] {K : PySem.W.Frag} {Z H : Hp} (k : κ) {v : V} {d : D} {G : AS} : ∀ {m : List (κ × V)} {kvs : List (κ × D)} {F : AS}, m.map (·.1) = kvs.map (·.1) → (kvs.map (·.1)).Nodup → RepL K Z H (m.map (·.2)) (kvs.map (·.2)) F → Rep K Z H v d G → (∀ a, G a → ¬ F a) →
    RepL K Z H ((m.map fun kv => if kv.1 = k then (kv.1, v) else kv).map (·.2)) ((kvs.map fun kv => if kv.1 = k then (kv.1, d) else kv).map (·.2)) (fun a => F a ∨ G a)
  | [], [], _, _, _, _, _, _ => .nil
  | [], _ :: _, _, h, _, _, _, _ => by cases h
  | _ :: _, [], _, h, _, _, _, _ => by cases h
  | (k1, v1) :: m, (k2, d1) :: kvs, F, h, nd, r, rv, ap => by
    have h1 : k1 = k2 := (List.cons.inj h).1
    subst h1
    have hk := (List.cons.inj h).2
    have nd2 := List.nodup_cons.mp nd
    cases r with
    | cons r t f g =>
      rename_i G1 E1
      by_cases e : k1 = k
      · subst e
        have n1 : (m.map fun kv => if kv.1 = k1 then (kv.1, v) else kv) = m := by
          conv => rhs; rw [← List.map_id m]
          refine List.map_congr_left fun p hp => ?_
          have : p.1 ≠ k1 := fun e => nd2.1 (by
            have h := List.mem_map_of_mem (f := fun x : κ × V => x.1) hp
            rw [e, hk] at h; exact h)
          simp [this]
        have n2 : (kvs.map fun kv => if kv.1 = k1 then (kv.1, d) else kv) = kvs := by
          conv => rhs; rw [← List.map_id kvs]
          refine List.map_congr_left fun p hp => ?_
          have : p.1 ≠ k1 := fun e => nd2.1 (by
            have h := List.mem_map_of_mem (f := fun x : κ × D => x.1) hp
            rw [e] at h; exact h)
          simp [this]
        simp only [List.map_cons, if_true]
        rw [n1, n2]
        exact .cons rv t (fun a z => .inr z) fun a z => ⟨.inl (g a z).1, fun y => ap a y (g a z).1⟩
      · simp only [List.map_cons, if_neg e]
        refine .cons r (repl_rep k hk nd2.2 t rv fun a z y => ap a z (g a y).1) (fun a z => .inl (f a z)) fun a z => ?_
        rcases z with z | z
        · exact ⟨.inl (g a z).1, (g a z).2⟩
        · exact ⟨.inr z, fun y => ap a z (f a y)⟩
theorem put_rep {κ : Type} [DecidableEq κ] {K : PySem.W.Frag} {Z H : Hp} (k : κ) {v : V} {d : D} {F G : AS} {m : List (κ × V)} {kvs : List (κ × D)} (h : m.map (·.1) = kvs.map (·.1)) (nd : (kvs.map (·.1)).Nodup) (r : RepL K Z H (m.map (·.2)) (kvs.map (·.2)) F)
    (rv : Rep K Z H v d G) (ap : ∀ a, G a → ¬ F a) : RepL K Z H ((putK m k v).map (·.2)) ((putD kvs k d).map (·.2)) (fun a => F a ∨ G a) := by
  have e := any_keys k h
  unfold putK putD
  rw [e]
  split
  · exact repl_rep k h nd r rv ap
  · rw [List.map_append, List.map_append]
    exact r.snoc rv ap
/-- x[k] = e, x a dict -/
def putX : D → D → D → Option D
  | .dct true kvs, k, d => if (kvs.map (·.1)).Nodup ∧ kvs.length < sizeLine then (keyD k).map fun k => .dct true (putD kvs k d) else none
  | .dtt true kvs, .tup ks, d => if (kvs.map (·.1)).Nodup ∧ kvs.length < sizeLine then (keysD ks).map fun k => .dtt true (putD kvs k d) else none
  | _, _, _ => none
def sPutD (i : Nat) (te tk : TX) : TXS := fun D env => te env fun d env1 => (∃ d0, env1[i]? = some (some d0)) ∧ tk env1 fun kd env2 => ∃ o r, env2[i]? = some (some o) ∧ putX o kd d = some r ∧ D.nx (env2.set i (some r))
theorem Rep.dctO_inv {K : PySem.W.Frag} {Z H : Hp} {v : V} {xs : List (Key × D)} {F : AS} (r : Rep K Z H v (.dct true xs) F) : ∃ a m G, v = .ref a ∧ F a ∧ H a = some (.dK m) ∧ Z a = none ∧ m.map (·.1) = xs.map (·.1) ∧ RepL K Z H (m.map (·.2)) (xs.map (·.2)) G ∧ ∀ b, G b → F b ∧ b ≠ a := by
  cases r with
  | dctO a b c d e f => exact ⟨_, _, _, rfl, a, b, c, d, e, f⟩
theorem Rep.dttO_inv {K : PySem.W.Frag} {Z H : Hp} {v : V} {xs : List (List Key × D)} {F : AS} (r : Rep K Z H v (.dtt true xs) F) : ∃ a m G, v = .ref a ∧ F a ∧ H a = some (.dT m) ∧ Z a = none ∧ m.map (·.1) = xs.map (·.1) ∧ RepL K Z H (m.map (·.2)) (xs.map (·.2)) G ∧ ∀ b, G b → F b ∧ b ≠ a := by
  cases r with
  | dttO a b c d e f => exact ⟨_, _, _, rfl, a, b, c, d, e, f⟩
theorem keys_len {κ : Type} {m : List (κ × V)} {kvs : List (κ × D)} (h : m.map (·.1) = kvs.map (·.1)) : m.length = kvs.length := by
  have := congrArg List.length h
  simpa using this
/-- the dict at the name behind a store -/
theorem put_dict {K : PySem.W.Frag} {σ : L2.St} {S0 S1 : W} {v0 y : V} {vk v : V} {o kd d r : D} {Fk Fy : AS} (s1 : SR K σ S1) (st1 : Stp M S0 S1) (h0 : σ[i]? = some (some v0)) (e : S1.env[i]? = some (some o)) (rk : Rep K S1.Z S1.H vk kd Fk)
    (v1 : VP K M [] S0 S1 v d Fy) (hp : putX o kd d = some r) : ∃ a H' F', v0 = .ref a ∧ DPut S1.H a vk v H' ∧ SR K σ ⟨S1.Z, H', S1.env.set i (some r), F'⟩ ∧ Stp (M ++ [i]) S0 ⟨S1.Z, H', S1.env.set i (some r), F'⟩ := by
  have r1 := sl_at s1 e h0
  have ow := v1.ow'
  cases o with
  | dct ob kvs =>
    cases ob with
    | false => cases hp
    | true =>
      obtain ⟨a, m, G, rfl, fa, ha, za, hm, rl, hG⟩ := r1.dctO_inv
      have nya : ¬ Fy a := fun z => (ow a z).1 i fa
      have nga : ¬ G a := fun z => (hG a z).2 rfl
      simp only [putX] at hp
      split at hp
      · rename_i hnd
        cases ek : keyD kd with
        | none => rw [ek] at hp; cases hp
        | some k =>
          rw [ek] at hp
          cases hp
          obtain ⟨s3, st3⟩ := mut_step (o' := .dK (putK m k v)) (d' := .dct true (putD kvs k d)) s1 st1 h0 fa ow v1.tv
            (.dctO (.inl fa) upd_same za (put_keys k v d hm) (put_rep k hm hnd.1 (rl.upd nga) (v1.rep.upd nya) fun b z y => (ow b z).1 i (hG b y).1) fun b z => z.elim (fun z => ⟨.inl (hG b z).1, (hG b z).2⟩) fun z => ⟨.inr z, fun e => nya (e ▸ z)⟩)
          exact ⟨a, _, _, rfl, .inl ⟨m, k, ha, rk.key ek, by rw [keys_len hm]; exact hnd.2, rfl⟩, s3, st3⟩
      · cases hp
  | dtt ob kvs =>
    cases ob with
    | false => cases kd <;> cases hp
    | true =>
      cases kd with
      | tup ks =>
        obtain ⟨a, m, G, rfl, fa, ha, za, hm, rl, hG⟩ := r1.dttO_inv
        obtain ⟨b, ws, rfl, hb, _, hks⟩ := rk.tup_inv s1.zh
        have nya : ¬ Fy a := fun z => (ow a z).1 i fa
        have nga : ¬ G a := fun z => (hG a z).2 rfl
        simp only [putX] at hp
        split at hp
        · rename_i hnd
          cases ek : keysD ks with
          | none => rw [ek] at hp; cases hp
          | some k =>
            rw [ek] at hp
            cases hp
            rw [hks.keys ek] at hb
            obtain ⟨s3, st3⟩ := mut_step (o' := .dT (putK m k v)) (d' := .dtt true (putD kvs k d)) s1 st1 h0 fa ow v1.tv
              (.dttO (.inl fa) upd_same za (put_keys k v d hm) (put_rep k hm hnd.1 (rl.upd nga) (v1.rep.upd nya) fun b z y => (ow b z).1 i (hG b y).1) fun b z => z.elim (fun z => ⟨.inl (hG b z).1, (hG b z).2⟩) fun z => ⟨.inr z, fun e => nya (e ▸ z)⟩)
            exact ⟨a, _, _, rfl, .inr ⟨m, k, b, ha, rfl, hb, by rw [keys_len hm]; exact hnd.2, rfl⟩, s3, st3⟩
        · cases hp
      | _ => cases hp
  | _ => cases hp
theorem s_dput {ik : Expr} (hu : X.A.units + 1 < cLine) (hx : PE X (.Name x p1) (tVar i)) (hv : XX X e Ma [] tx) (hk : XX X ik Mb Rb tk)
    (hs : swapsWith e (some (.Subscript (.Name x p1) ik apos)) pos.line X.env = pure false := by rfl) : XS X (.Assign [.Subscript (.Name x p1) ik apos] e pos) [] (sPutD i tx tk) := ⟨ps_imp (ps_dput hu hx hk.pe hv.pe hs) fun D σ H ⟨S, Dt, eH, s, q, kk, _⟩ => by
  subst eH
  refine ⟨S, _, rfl, s, q, fun S1 y d Fy ⟨⟨d0, e0⟩, q1⟩ s1 st1 v1 => ?_⟩
  obtain ⟨v0, h0, r0⟩ := s1.sl i _ e0
  refine ⟨v0, h0, S1, _, rfl, s1, q1, fun S2 kv1 kd Fk ⟨o, r, e2, hp, q2⟩ s2 st2 v2 => ?_⟩
  obtain ⟨a, H', F', rfl, dp, s3, st3⟩ := put_dict (y := y) s2 (st1.trans st2) h0 e2 v2.rep (v1.later s1 st1 st2 (by unfold Dj; rfl)) hp
  exact ⟨a, H', rfl, dp, kk σ _ q2 s3 (st3.s.mono fun _ z => z)⟩⟩
abbrev TXP := Env → (List (Key × D) → Env → Prop) → Prop
structure VPP (K : PySem.W.Frag) (M : List Nat) (S S' : W) (ps : List (V × V)) (kvs : List (Key × D)) (Fv : AS) : Prop where
  ks : ps.map (·.1) = kvs.map fun p => kV p.1
  rep : RepL K S'.Z S'.H (ps.map (·.2)) (kvs.map (·.2)) Fv
  tv : ∀ a, Fv a → (∃ o, S'.H a = some o) ∧ S'.Z a = none
  ow : ∀ a, Fv a → (∀ i, ¬ S'.F i a) ∧ (S.H a = none ∨ ∃ i, i ∈ M ∧ S.F i a)
def liftPs (K : PySem.W.Frag) (M : List Nat) (n : Nat) (t : TXP) (σ : L2.St) (H : Hp) (Q : List (V × V) → Hp → Prop) : Prop := ∃ S Qt, S.H = H ∧ SR K σ S ∧ t S.env Qt ∧
  ∀ S' ps kvs Fv, Qt kvs S'.env → kvs.length = n → SR K σ S' → Stp M S S' → VPP K M S S' ps kvs Fv → Q ps S'.H
structure XD (X : Cx) (pos : Pos) (ks : List (Option Expr)) (vs : List Expr) (M : List Nat) (t : TXP) : Prop where
  pp : ∃ trs, PPs X pos ks vs trs ∧ ∀ σ H Q, liftPs X.K M vs.length t σ H Q → tPairs trs σ H Q
def dNil : TXP := fun env Q => Q [] env
def dCons (tk tv : TX) (t : TXP) : TXP := fun env Q => tk env fun kd env1 => tv env1 fun d env2 => t env2 fun kvs env3 => ∃ k, keyD kd = some k ∧ Q ((k, d) :: kvs) env3
theorem xd_nil : XD X pos [] [] [] dNil := ⟨[], pps_nil, fun σ H Q ⟨S, Qt, eH, s, q, k⟩ => by
  subst eH
  exact k S [] [] nF q rfl s (.refl _ _) ⟨rfl, .nil, fun _ z => z.elim, fun _ z => z.elim⟩⟩
theorem xd_cons {kx vx : Expr} {ks : List (Option Expr)} {vs : List Expr} {Mc : List Nat} {t : TXP} (hk : XX X kx Ma Ra tk) (hv : XX X vx Mb [] tx) (h : XD X pos ks vs Mc t) (dj : Dj Ra (Mb ++ Mc) = true := by rfl) : XD X pos (some kx :: ks) (vx :: vs) (Ma ++ (Mb ++ Mc)) (dCons tk tx t) := by
  obtain ⟨trs, hp, hh⟩ := h
  refine ⟨_, pps_cons hk.pe hv.pe hp, fun σ H Q ⟨S, Qt, eH, s, q, k⟩ => ?_⟩
  subst eH
  refine ⟨S, _, rfl, s, q, fun S1 y kd Fk q1 s1 st1 v1 => ⟨S1, _, rfl, s1, q1, fun S2 z d Fd q2 s2 st2 v2 => hh σ S2.H _ ⟨S2, _, rfl, s2, q2, fun S3 ps kvs Fs ⟨kk, ek, q3⟩ hl s3 st3 v3 => ?_⟩⟩⟩
  have st23 := st2.trans st3
  have st := st1.trans st23
  have v1' := v1.later s1 st1 st23 dj
  have v2' := v2.later s2 st2 st3 (by unfold Dj; rfl)
  have ow2 := v2'.first st1
  have ow2' := ow2.ow'
  refine k S3 ((y, z) :: ps) ((kk, d) :: kvs) (fun a => Fd a ∨ Fs a) q3 (by rw [List.length_cons, hl]; rfl) s3 st ⟨?_, ?_, fun a z => z.elim (ow2.tv a) (v3.tv a), fun a z => ?_⟩
  · rw [List.map_cons, List.map_cons, v3.ks]
    show y :: _ = kV kk :: _
    rw [v1'.rep.key ek]
  · refine .cons ow2.rep v3.rep (fun _ z => .inl z) fun a z => ⟨.inr z, fun y => ?_⟩
    rcases (v3.ow a z).2 with h2 | ⟨i, h2, h3⟩
    · obtain ⟨⟨o, e⟩, _⟩ := v2.tv a y
      rw [h2] at e; cases e
    · exact (v2.ow' a y).1 i h3
  · rcases z with z | z
    · exact ow2' a z
    · obtain ⟨h1, h2⟩ := v3.ow a z
      refine ⟨h1, ?_⟩
      have st12 := st1.trans st2
      rcases h2 with h2 | ⟨i, h2, h3⟩
      · exact .inl (st12.none_of h2)
      · by_cases hm : i ∈ Ma ++ Mb
        · rcases st12.nf i a hm h3 with ⟨j, q1, q2⟩ | q
          · refine .inr ⟨j, ?_, q2⟩
            rw [← List.append_assoc]; exact List.mem_append_left _ q1
          · exact .inl q
        · rw [(st12.frm i hm).2] at h3
          refine .inr ⟨i, ?_, h3⟩
          rw [← List.append_assoc]; exact List.mem_append_right _ h2
theorem merge_new : ∀ (more kvs : List (Key × V)), (kvs.map (·.1) ++ more.map (·.1)).Nodup → mergeK kvs more = kvs ++ more
  | [], kvs, _ => by rw [List.append_nil]; rfl
  | (k, v) :: more, kvs, nd => by
    have hn : valV kvs k = none := by
      cases e : valV kvs k with
      | none => rfl
      | some w =>
        exfalso
        unfold valV at e
        obtain ⟨p, hp, _⟩ := Option.map_eq_some_iff.mp e
        have h1 := List.mem_of_find?_eq_some hp
        have h2 : p.1 = k := by simpa using List.find?_some hp
        have nd' := (List.nodup_append.mp nd).2.2 p.1 (List.mem_map_of_mem h1) k (by simp)
        exact nd' h2
    show mergeK (putK kvs k v) more = _
    rw [putK_new v hn, merge_new more (kvs ++ [(k, v)]) (by simpa [List.append_assoc] using nd), List.append_assoc]; rfl
def oDisp (t : TXP) : TX := fun env Q => t env fun kvs env1 => (kvs.map (·.1)).Nodup ∧ Q (.dct true kvs) env1
theorem x_disp {ks : List (Option Expr)} {vs : List Expr} {t : TXP} (h : XD X pos ks vs M t) (hall : ks.all (·.isSome) = true := by rfl) (hl : ks.length = vs.length := by rfl) (h0 : ks ≠ [] := by (intro z; cases z)) (h15 : vs.length ≤ 15 := by decide) :
    XX X (.Dict ks vs pos) M [] (oDisp t) := by
  obtain ⟨trs, hp, hh⟩ := h
  refine ⟨pe_imp (pe_disp hp hall hl h0 (by rw [hl]; exact h15)) fun σ H Q ⟨S, Qt, eH, s, q, k⟩ p hp => ?_⟩
  subst eH
  obtain ⟨x, zh⟩ := ext_new (o := .dK []) s.zh hp
  have zp : S.Z p = none := s.zh.none hp
  have s0 : SR X.K σ ⟨S.Z, upd S.H p (.dK []), S.env, S.F⟩ := s.more x zh
  have st0 : Stp [] S ⟨S.Z, upd S.H p (.dK []), S.env, S.F⟩ := .more x
  refine hh σ _ _ ⟨⟨S.Z, upd S.H p (.dK []), S.env, S.F⟩, _, rfl, s0, q, fun S1 ps kvs Fs ⟨nd, q1⟩ hl1 s1 st1 v1 => ?_⟩
  have np : ¬ ∃ i, i ∈ M ∧ S.F i p := fun ⟨i, _, z⟩ => s.noF hp z
  have hp1 : S1.H p = some (.dK []) := st1.ext.fr0 p _ upd_same zp np
  have zp1 : S1.Z p = none := by
    cases e : S1.Z p with
    | none => rfl
    | some u =>
      rcases st1.ext.nz p u e zp with e' | e'
      · exact nomatch (upd_same.symm.trans e' : (some (HO.dK []) : Option HO) = none)
      · exact absurd e' np
  have nfp : ∀ i, ¬ S1.F i p := fun i z => by
    rcases st1.any z with ⟨j, q⟩ | q
    · exact s.noF hp q
    · exact nomatch (upd_same.symm.trans q : (some (HO.dK []) : Option HO) = none)
  have nsp : ¬ Fs p := fun z => by
    rcases (v1.ow p z).2 with q | q
    · exact nomatch (upd_same.symm.trans q : (some (HO.dK []) : Option HO) = none)
    · exact np q
  -- the pairs as a dict's
  have hps : ps = (List.zip (kvs.map (·.1)) (ps.map (·.2))).map fun kv => (kV kv.1, kv.2) := by
    have h1 := v1.ks
    have h2 : ∀ (ps : List (V × V)) (ks : List Key), ps.map (·.1) = ks.map kV → ps = (List.zip ks (ps.map (·.2))).map fun kv => (kV kv.1, kv.2) := by
      intro ps
      induction ps with
      | nil => intro ks _; simp
      | cons a r ih =>
        intro ks h
        cases ks with
        | nil => cases h
        | cons k ks =>
          obtain ⟨a1, a2⟩ := a
          have h1 : a1 = kV k := (List.cons.inj h).1
          subst h1
          exact congrArg ((kV k, a2) :: ·) (ih ks (List.cons.inj h).2)
    exact h2 ps (kvs.map (·.1)) (by rw [h1, List.map_map]; rfl)
  have hlen : (kvs.map (·.1)).length = (ps.map (·.2)).length := by
    have := congrArg List.length v1.ks
    simp only [List.length_map] at this ⊢
    exact this.symm
  refine ⟨hp1, List.zip (kvs.map (·.1)) (ps.map (·.2)), hps, ?_, ?_⟩
  · rw [List.length_zip, ← hlen, Nat.min_self, List.length_map, hl1]; exact h15
  · have ek : (List.zip (kvs.map (·.1)) (ps.map (·.2))).map (·.1) = kvs.map (·.1) := List.map_fst_zip (Nat.le_of_eq hlen)
    have ev : (List.zip (kvs.map (·.1)) (ps.map (·.2))).map (·.2) = ps.map (·.2) := List.map_snd_zip (Nat.le_of_eq hlen.symm)
    rw [merge_new _ [] (by rw [List.map_nil, List.nil_append, ek]; exact nd), List.nil_append]
    have x2 : Ext S1.Z S1.H (fun b => b = p) S1.Z (upd S1.H p (.dK (List.zip (kvs.map (·.1)) (ps.map (·.2))))) := ⟨fun _ _ h => h, fun b o h n => .inl (by rw [upd_ne n]; exact h), fun b o h => by
      by_cases e : b = p
      · exact ⟨_, by rw [e]; exact upd_same⟩
      · exact ⟨o, by rw [upd_ne e]; exact h⟩, fun b o h n => by rw [n] at h; cases h⟩
    have xs0 : Ext S.Z S.H (fun a => ∃ i, i ∈ M ∧ S.F i a) S1.Z (upd S1.H p (.dK (List.zip (kvs.map (·.1)) (ps.map (·.2))))) := by
      refine (x.trans st1.ext (F2 := fun a => ∃ i, i ∈ M ∧ S.F i a) (fun _ z => z.elim) fun c z => .inl z).trans x2 (fun _ z => z) fun c e => .inr (by rw [e]; exact hp)
    refine k ⟨S1.Z, upd S1.H p (.dK (List.zip (kvs.map (·.1)) (ps.map (·.2)))), S1.env, S1.F⟩ _ _ (fun a => a = p ∨ Fs a) q1 ?_ ⟨xs0, st1.frm, fun i a m h => ?_⟩ ⟨?_, fun a z => ?_, fun a z => ?_⟩
    · refine s1.go x2 (fun a o h => ?_) (fun i => .inl ⟨rfl, rfl, rfl, fun a h e => nfp i (e ▸ h)⟩) s1.ap s1.ln
      have : a ≠ p := fun e => by rw [e, zp1] at h; cases h
      rw [upd_ne this]; exact s1.zh a o h
    · rcases st1.nf i a m h with q | q
      · exact .inl q
      · refine .inr ?_
        by_cases e : a = p
        · rw [e]; exact hp
        · have : (upd S.H p (.dK [])) a = none := q
          rw [upd_ne e] at this; exact this
    · refine .dctO (.inl rfl) upd_same zp1 (by rw [ek]) ?_ (fun b z => ⟨.inr z, fun e => nsp (e ▸ z)⟩) (G := Fs)
      rw [ev]
      exact v1.rep.upd nsp
    · rcases z with z | z
      · subst z; exact ⟨⟨_, upd_same⟩, zp1⟩
      · obtain ⟨⟨o, e⟩, z0⟩ := v1.tv a z
        have : a ≠ p := fun e => nsp (e ▸ z)
        exact ⟨⟨o, Eq.trans (upd_ne this) e⟩, z0⟩
    · rcases z with z | z
      · subst z; exact .inr ⟨nfp, .inl hp⟩
      · obtain ⟨h1, h2⟩ := v1.ow a z
        refine .inr ⟨h1, h2.imp (fun q => ?_) id⟩
        by_cases e : a = p
        · rw [e]; exact hp
        · have : (upd S.H p (.dK [])) a = none := q
          rw [upd_ne e] at this; exact this
end
end TT
namespace TT
open PySem PySem.Spec PyProof.Rows L2
variable [Cls]
/-- what is frozen stays so, what is locked stays so -/
structure GrH (Z H Z' H' : Hp) : Prop where
  zs : ∀ a o, Z a = some o → Z' a = some o
  lk : ∀ a od u, H a = some (.frz od u) → Z a ≠ none → H' a = some (.frz od u)
abbrev Gr (S S' : W) : Prop := GrH S.Z S.H S'.Z S'.H
theorem GrH.refl {Z H : Hp} : GrH Z H Z H := ⟨fun _ _ h => h, fun _ _ _ h _ => h⟩
theorem GrH.ext {Z H Z1 H1 Z2 H2 : Hp} {F0 : AS} (g : GrH Z H Z1 H1) (x : Ext Z1 H1 F0 Z2 H2) (n : ∀ a, F0 a → Z1 a = none) : GrH Z H Z2 H2 :=
  ⟨fun a o h => x.zs a o (g.zs a o h), fun a od u h z => by
    have nf : ¬ F0 a := fun q => by
      cases e : Z a with
      | none => exact z e
      | some w => have := g.zs a w e; rw [n a q] at this; cases this
    rcases x.fr a _ (g.lk a od u h z) nf with e | ⟨_, e, _⟩ | ⟨_, _, _, _, e, _⟩
    · exact e
    · exact e.elim
    · cases e⟩
theorem GrH.nw {Z H Z1 H1 Z2 H2 : Hp} (g : GrH Z H Z1 H1) (x : Ext Z1 H1 nF Z2 H2) : GrH Z H Z2 H2 := g.ext x fun _ z => z.elim
theorem GrH.stp {Z H : Hp} {K : PySem.W.Frag} {σ : L2.St} {M : List Nat} {S1 S2 : W} (g : GrH Z H S1.Z S1.H) (s : SR K σ S1) (x : Stp M S1 S2) : GrH Z H S2.Z S2.H := g.ext x.ext fun a ⟨i, _, q⟩ => (s.tr i a q).2
theorem GrH.stpS {Z H : Hp} {K : PySem.W.Frag} {σ σ1 σ2 : L2.St} {A : List Nat} {S1 S2 : W} (g : GrH Z H S1.Z S1.H) (s : SR K σ S1) (x : StpS A σ1 σ2 S1 S2) : GrH Z H S2.Z S2.H := g.ext x.ext fun a ⟨i, q⟩ => (s.tr i a q).2
theorem GrH.upd {Z H Z1 H1 : Hp} {p : Addr} {o : HO} (g : GrH Z H Z1 H1) (n : ∀ od u, H p ≠ some (.frz od u)) : GrH Z H Z1 (upd H1 p o) :=
  ⟨g.zs, fun a od u h z => by
    have ne : a ≠ p := fun e => n od u (by rw [← e]; exact h)
    rw [upd_ne ne]
    exact g.lk a od u h z⟩
/-- what a walk yields: these things, that own nothing, whatever happens meanwhile -/
structure ItOk (K : PySem.W.Frag) (S : W) (J : It) (items : List D) : Prop where
  go : ∀ (i : Nat) (Z H : Hp), GrH S.Z S.H Z H → ZH Z H → i < items.length → J.go i H
  stop : ∀ (i : Nat) (Z H : Hp), GrH S.Z S.H Z H → ZH Z H → items.length ≤ i → J.stop i H
  yld : ∀ (i : Nat) (Z H : Hp) (x : V) (H' : Hp), GrH S.Z S.H Z H → ZH Z H → J.yld i H x H' → ∀ d, items[i]? = some d → ∃ Z', Ext Z H nF Z' H' ∧ ZH Z' H' ∧ Rep K Z' H' x d nF
abbrev TXI := Env → (List D → Env → Prop) → Prop
def liftI (K : PySem.W.Frag) (M : List Nat) (t : TXI) : TI := fun σ H R => ∃ S Qt, S.H = H ∧ SR K σ S ∧ t S.env Qt ∧
  ∀ S' items J, Qt items S'.env → SR K σ S' → Stp M S S' → ItOk K S' J items → R J S'.H
structure XI (X : Cx) (tg iter : Expr) (M : List Nat) (t : TXI) : Prop where
  pi : PI X tg iter (liftI X.K M t)
theorem pi_imp {X : Cx} {tg e : Expr} {t t' : TI} (h : PI X tg e t) (i : ∀ σ H Q, t' σ H Q → t σ H Q) : PI X tg e t' := ⟨fun pins s σ H Q I q => h.run pins s σ H Q I (i σ H Q q)⟩
section
variable {K : PySem.W.Frag} {M R : List Nat} {S S1 : W} {σ : L2.St} {v : V} {d : D} {Fv : AS}
/-- a value of no name's is frozen -/
theorem VP.freeze (v1 : VP K M [] S S1 v d Fv) (s1 : SR K σ S1) (st1 : Stp M S S1) :
    SR K σ ⟨frzZ S1.Z S1.H Fv, S1.H, S1.env, S1.F⟩ ∧ Stp M S ⟨frzZ S1.Z S1.H Fv, S1.H, S1.env, S1.F⟩ ∧ ∀ G, Rep K (frzZ S1.Z S1.H Fv) S1.H v d.frz G := by
  have x := ext_frz v1.tv
  have ow := v1.ow'
  refine ⟨s1.go x (frzZ_zh s1.zh v1.tv) (fun i => .inl ⟨rfl, rfl, rfl, fun a h z => (ow a z).1 i h⟩) s1.ap s1.ln, ⟨st1.ext.trans x (fun _ z => z) fun c z => (ow c z).2.symm, st1.frm, st1.nf⟩, fun G => v1.rep.frzz v1.tv⟩
theorem RepL.at {K : PySem.W.Frag} {Z H : Hp} {vs : List V} {ds : List D} {F : AS} (h : RepL K Z H vs ds F) {i : Nat} {v : V} (e : vs[i]? = some v) : ∃ d, ds[i]? = some d ∧ Rep K Z H v d F := by
  have hl := h.length
  obtain ⟨h1, _⟩ := List.getElem?_eq_some_iff.mp e
  have : ds[i]? = some ds[i] := List.getElem?_eq_getElem (by omega)
  obtain ⟨w, h2, h3⟩ := h.get this
  rw [e] at h2; cases h2
  exact ⟨_, this, h3⟩
end
section
variable {X : Cx} {e tg a b : Expr} {tx : TX} {u : TXA} {M Ma Mb R Ra Rb : List Nat} {pos p : Pos}
/-- a list (none of a name's own: frozen ahead, or just made) -/
def iL (t : TX) : TXI := fun env Q => t env fun d env1 => ∃ xs, lstItems d = some xs ∧ Q (frzL xs) env1
theorem itl_ok {K : PySem.W.Frag} {S : W} {a : Addr} {vs : List V} {xs : List D} (h : SqL K S.Z a vs) (r : RepL K S.Z S.H vs xs nF)
    (inj : ∀ (Z H : Hp), GrH S.Z S.H Z H → ZH Z H → ∀ ws, SqL K H a ws → SqL K H a vs) : ItOk K S (Itl K a) xs where
  go := fun i Z H h1 h2 hi => by
    have hlt : i < vs.length := by rw [r.length]; exact hi
    have hv : vs[i]? = some vs[i] := List.getElem?_eq_getElem hlt
    exact ⟨vs, _, ZH.sq h2 (SqL.sub h1.zs h), hv⟩
  stop := fun i Z H h1 h2 hi => ⟨vs, ZH.sq h2 (SqL.sub h1.zs h), by rw [r.length]; exact hi⟩
  yld := fun i Z H x H' h1 h2 ⟨e, y⟩ d hd => by
    subst e
    have hx := y vs (ZH.sq h2 (SqL.sub h1.zs h))
    obtain ⟨v, hv, rv⟩ := r.get hd
    rw [hx] at hv; cases hv
    exact ⟨Z, .refl _ _ _, h2, rv.keep h1.zs fun _ _ z => z.elim⟩
theorem xi_list (h : XX X e M [] tx) : XI X tg e M (iL tx) := ⟨pi_imp (pi_list h.pe) fun σ H Q ⟨S, Qt, eH, s, q, k⟩ => by
  subst eH
  refine ⟨S, _, rfl, s, q, fun S1 v d Fv ⟨xs, ex, q1⟩ s1 st1 v1 => ?_⟩
  obtain ⟨s2, st2, rep⟩ := v1.freeze s1 st1
  have r := rep nF
  cases d with
  | lst o ys =>
    cases ex
    rw [D.frz] at r
    cases r with
    | lstF h1 h2 =>
      exact ⟨_, rfl, ⟨_, .inl (ZH.rd s2.zh h1)⟩, k ⟨frzZ S1.Z S1.H Fv, S1.H, S1.env, S1.F⟩ _ _ q1 s2 st2 (itl_ok (.inl h1) h2 fun Z H g1 g2 _ _ => .inl (ZH.rd g2 (Rd.sub g1.zs h1)))⟩
  | kst ys =>
    cases ex
    rw [D.frz] at r
    cases r with
    | kst h1 h2 =>
      exact ⟨_, rfl, ⟨_, ZH.sq s2.zh h1⟩, k ⟨frzZ S1.Z S1.H Fv, S1.H, S1.env, S1.F⟩ _ _ q1 s2 st2 (itl_ok h1 h2 fun Z H g1 g2 _ _ => ZH.sq g2 (SqL.sub g1.zs h1))⟩
  | _ => cases ex⟩
/-- a tuple -/
def iT (t : TX) : TXI := fun env Q => t env fun d env1 => ∃ xs, d = .tup xs ∧ Q (frzL xs) env1
theorem xi_tup (h : XX X e M [] tx) : XI X tg e M (iT tx) := ⟨pi_imp (pi_tup h.pe) fun σ H Q ⟨S, Qt, eH, s, q, k⟩ => by
  subst eH
  refine ⟨S, _, rfl, s, q, fun S1 v d Fv ⟨xs, ex, q1⟩ s1 st1 v1 => ?_⟩
  subst ex
  obtain ⟨s2, st2, rep⟩ := v1.freeze s1 st1
  have r := rep nF
  rw [D.frz] at r
  obtain ⟨a, vs, rfl, h1, h0, h2⟩ := r.tup_inv s2.zh
  have up : ∀ (Z H : Hp), GrH (frzZ S1.Z S1.H Fv) S1.H Z H → ZH Z H → SqT X.K H a vs := fun Z H g1 g2 => SqT.of (g2.tup (g1.zs _ _ h0))
  refine ⟨a, rfl, ⟨vs, SqT.of h1⟩, k ⟨frzZ S1.Z S1.H Fv, S1.H, S1.env, S1.F⟩ (frzL xs) _ q1 s2 st2 ⟨fun i Z H g1 g2 hi => ?_, fun i Z H g1 g2 hi => ?_, fun i Z H x H' g1 g2 ⟨e, y⟩ d hd => ?_⟩⟩
  · have hlt : i < vs.length := by rw [h2.length]; exact hi
    have hv : vs[i]? = some vs[i] := List.getElem?_eq_getElem hlt
    exact ⟨vs, _, up Z H g1 g2, hv⟩
  · exact ⟨vs, up Z H g1 g2, by rw [h2.length]; exact hi⟩
  · subst e
    have hx := y vs (up Z _ g1 g2)
    obtain ⟨v, hv, rv⟩ := h2.get hd
    rw [hx] at hv; cases hv
    exact ⟨Z, .refl _ _ _, g2, rv.keep g1.zs fun _ _ z => z.elim⟩⟩
/-- range -/
def rgD (lo : Int) (n : Nat) : List D := (List.range n).map fun i => .int (lo + (i : Nat))
theorem rgD_length (lo : Int) (n : Nat) : (rgD lo n).length = n := by unfold rgD; rw [List.length_map, List.length_range]
theorem itr_ok {K : PySem.W.Frag} {S : W} (lo : Int) (n : Nat) : ItOk K S (Itr lo n) (rgD lo n) where
  go := fun i Z H _ _ hi => by rw [rgD_length] at hi; exact hi
  stop := fun i Z H _ _ hi => by rw [rgD_length] at hi; exact hi
  yld := fun i Z H x H' _ h2 ⟨e, y⟩ d hd => by
    subst e y
    unfold rgD at hd
    rw [List.getElem?_map] at hd
    cases q : (List.range n)[i]? with
    | none => rw [q] at hd; cases hd
    | some j =>
      rw [q] at hd
      cases hd
      obtain ⟨h1, h3⟩ := List.getElem?_eq_some_iff.mp q
      rw [List.getElem_range] at h3
      subst h3
      exact ⟨Z, .refl _ _ _, h2, .int _⟩
def iR1 (u : TXA) : TXI := fun env Q => u env fun ds env1 => ∃ j : Int, ds = [.int j] ∧ -(2 ^ 62) ≤ j ∧ j < 2 ^ 62 ∧ Q (rgD 0 j.toNat) env1
def iR2 (u : TXA) : TXI := fun env Q => u env fun ds env1 => ∃ i j : Int, ds = [.int i, .int j] ∧ (-(2 ^ 62) ≤ i ∧ i < 2 ^ 62 ∧ -(2 ^ 62) ≤ j ∧ j < 2 ^ 62) ∧ Q (rgD i (j - i).toNat) env1
theorem xi_range1 (hg : Gl X "range") (hm : X.mg "range" = none) (ha : XA X [a] M R u) (hs : starEach [a] X.env = [(false, eval a X.env)] := by rfl) : XI X tg (.Call (.Name "range" p) [a] [] pos) M (iR1 u) := ⟨pi_imp (pi_range1 hg hm ha.pa hs) fun σ H Q ⟨S, Qt, eH, s, q, k⟩ => by
  subst eH
  refine ⟨S, _, rfl, s, q, fun S1 vs ds Fv ⟨j, ed, h1, h2, q1⟩ s1 st1 v1 => ?_⟩
  subst ed
  obtain ⟨v, rfl, r⟩ := paired1 v1.rep
  exact ⟨j, by rw [r.int_inv], h1, h2, k S1 _ _ q1 s1 st1 (itr_ok _ _)⟩⟩
end
abbrev TXG := D → Env → (Env → Prop) → Prop
/-- a target by what it makes of the names (A: the names) -/
def GOk (K : PySem.W.Frag) (g : TG) (A : List Nat) (gi : TXG) : Prop := ∀ (v : V) (d : D) (σ : L2.St) (S : W) (Q : L2.St → Hp → Prop) (Qt : Env → Prop), SR K σ S → Rep K S.Z S.H v d nF → gi d S.env Qt →
  (∀ σ' S', Qt S'.env → SR K σ' S' → S'.Z = S.Z → S'.H = S.H → (∀ i a, S'.F i a → S.F i a) → (∀ i, i ∉ A → σ'[i]? = σ[i]? ∧ S'.env[i]? = S.env[i]? ∧ S'.F i = S.F i) → σ'.length = σ.length → Q σ' S'.H) → g v σ S.H Q
def gNm (i : Nat) : TXG := fun d env Q => Q (env.set i (some d))
theorem gok_name {K : PySem.W.Frag} (i : Nat) : GOk K (gName i) [i] (gNm i) := fun v d σ S Q Qt s r q k => by
  refine k _ ⟨S.Z, S.H, S.env.set i (some d), putF S.F i nF⟩ q (s.set i r (fun _ z => z.elim) fun _ z => z.elim) rfl rfl (fun j a h => ?_) (fun j n => ?_) (by rw [List.length_set])
  · have h : putF S.F i nF j a := h
    by_cases e : j = i
    · subst e; rw [putF_same] at h; exact h.elim
    · rw [putF_ne e] at h; exact h
  · have e : j ≠ i := by simpa using n
    exact ⟨by rw [List.getElem?_set_ne (Ne.symm e)], by show (S.env.set i (some d))[j]? = _; rw [List.getElem?_set_ne (Ne.symm e)], putF_ne e⟩
abbrev TXGs := List D → Env → (Env → Prop) → Prop
def GsOk (K : PySem.W.Frag) (g : TGs) (A : List Nat) (gi : TXGs) : Prop := ∀ (v : List V) (d : List D) (σ : L2.St) (S : W) (Q : L2.St → Hp → Prop) (Qt : Env → Prop), SR K σ S → RepL K S.Z S.H v d nF → gi d S.env Qt →
  (∀ σ' S', Qt S'.env → SR K σ' S' → S'.Z = S.Z → S'.H = S.H → (∀ i a, S'.F i a → S.F i a) → (∀ i, i ∉ A → σ'[i]? = σ[i]? ∧ S'.env[i]? = S.env[i]? ∧ S'.F i = S.F i) → σ'.length = σ.length → Q σ' S'.H) → g v σ S.H Q
def gsNil : TXGs := fun ds env Q => ds = [] ∧ Q env
def gsCons (g : TXG) (r : TXGs) : TXGs := fun ds env Q => ∃ d ds', ds = d :: ds' ∧ g d env fun env1 => r ds' env1 Q
theorem gsok_nil {K : PySem.W.Frag} : GsOk K gNil [] gsNil := fun v d σ S Q Qt s r ⟨e, q⟩ k => by
  subst e
  cases r
  exact ⟨rfl, k σ S q s rfl rfl (fun _ _ h => h) (fun _ _ => ⟨rfl, rfl, rfl⟩) rfl⟩
theorem gsok_cons {K : PySem.W.Frag} {g : TG} {gs : TGs} {A B : List Nat} {gi : TXG} {gsi : TXGs} (h : GOk K g A gi) (h2 : GsOk K gs B gsi) : GsOk K (gCons g gs) (A ++ B) (gsCons gi gsi) := fun v d σ S Q Qt s r ⟨d1, ds, e, q⟩ k => by
  subst e
  cases r with
  | cons r1 r2 f1 f2 =>
    rename_i G1 E1 w1 ws
    refine ⟨_, _, rfl, h _ d1 σ S _ _ s (r1.mono f1) q fun σ1 S1 q1 s1 z1 h1 n1 m1 l1 => ?_⟩
    have r2' : RepL K S1.Z S1.H ws ds nF := by rw [z1, h1]; exact r2.mono fun a z => (f2 a z).1
    refine h2 _ ds σ1 S1 Q _ s1 r2' q1 fun σ2 S2 q2 s2 z2 h2 n2 m2 l2 => ?_
    refine k σ2 S2 q2 s2 (z2.trans z1) (h2.trans h1) (fun i a h => n1 i a (n2 i a h)) (fun i n => ?_) (l2.trans l1)
    have a1 := m1 i fun z => n (List.mem_append_left _ z)
    have a2 := m2 i fun z => n (List.mem_append_right _ z)
    exact ⟨a2.1.trans a1.1, a2.2.1.trans a1.2.1, a2.2.2.trans a1.2.2⟩
def gTp (n : Nat) (g : TXGs) : TXG := fun d env Q => ∃ xs, d = .tup xs ∧ xs.length = n ∧ g xs env Q
theorem gok_tup {K : PySem.W.Frag} {gs : TGs} {A : List Nat} {gi : TXGs} {n : Nat} (h : GsOk K gs A gi) : GOk K (gTup K n gs) A (gTp n gi) := fun v d σ S Q Qt s r ⟨xs, e, hn, q⟩ k => by
  subst e
  obtain ⟨a, vs, rfl, h1, _, h2⟩ := r.tup_inv s.zh
  exact ⟨a, vs, rfl, SqT.of h1, by rw [h2.length]; exact hn, h vs xs σ S Q Qt s h2 q k⟩
def forL (gi : TXG) (tb : TXS) (D0 : TEnds) : List D → Env → Prop
  | [], env => D0.nx env
  | d :: r, env => gi d env fun env1 => tb { nx := forL gi tb D0 r, rt := D0.rt, bk := D0.nx, ct := forL gi tb D0 r } env1
def sFor (ti : TXI) (gi : TXG) (tb : TXS) : TXS := fun D0 env => ti env fun items env1 => forL gi tb D0 items env1
section
variable {X : Cx} {iter tg : Expr} {body : List Stmt} {ti : TXI} {g : TG} {gi : TXG} {tb : TXS} {M A B : List Nat} {pos : Pos}
theorem s_for (hp : PassesOwn (model X.prog X.w) X.A X.env X.xe) (hc : X.calm = true) (hi : XI X tg iter M ti) (hg : PG X tg g) (hgi : GOk X.K g A gi) (hb : XSs X body B tb)
    (hs : ∀ x, foldedSetIterable iter X.env x = pure x := by intro _; rfl) : XS X (.For tg iter body [] pos) (A ++ B) (sFor ti gi tb) := ⟨ps_imp (ps_for hp hc hi.pi hg hb.pss hs) fun D0 σ H ⟨S, Dt, eH, s, q, k1, k2, k3, k4⟩ => by
  subst eH
  refine ⟨S, _, rfl, s, q, fun S1 items J q1 s1 st1 ok => ?_⟩
  refine ⟨fun i m σ' H' => m = items.length - i ∧ i ≤ items.length ∧ ∃ S', S'.H = H' ∧ SR X.K σ' S' ∧ StpS (A ++ B) σ σ' S S' ∧ Gr S1 S' ∧ forL gi tb Dt (items.drop i) S'.env,
    ⟨items.length, by simp, Nat.zero_le _, S1, rfl, s1, st1.s.mono (A := []) (fun _ z => nomatch z), GrH.refl, q1⟩, ?_⟩
  rintro i m σ' H' ⟨rfl, hi, S', rfl, s', st', zz, q'⟩
  by_cases hlt : i < items.length
  · have hd : items.drop i = items[i] :: items.drop (i + 1) := List.drop_eq_getElem_cons hlt
    rw [hd] at q'
    refine .inr ⟨ok.go i S'.Z S'.H zz s'.zh hlt, fun σ2 H2 => ∃ S2, S2.H = H2 ∧ SR X.K σ2 S2 ∧ StpS (A ++ B) σ σ2 S S2 ∧ Gr S1 S2 ∧ forL gi tb Dt (items.drop (i + 1)) S2.env,
      fun σ2 H2 ⟨S2, e2, s2, st2, z2, q2⟩ => ⟨items.length - (i + 1), by omega, rfl, hlt, S2, e2, s2, st2, z2, q2⟩, fun x H2 y => ?_⟩
    obtain ⟨Z2, x2, zh2, rx⟩ := ok.yld i S'.Z S'.H x H2 zz s'.zh y items[i] (by simp [hlt])
    have s2 : SR X.K σ' ⟨Z2, H2, S'.env, S'.F⟩ := s'.more x2 zh2
    have st2 : StpS (A ++ B) σ σ' S ⟨Z2, H2, S'.env, S'.F⟩ := ⟨st'.ext.trans x2 (fun _ z => z) fun _ z => z.elim, st'.nf, st'.sg⟩
    refine hgi x items[i] σ' ⟨Z2, H2, S'.env, S'.F⟩ _ _ s2 rx q' fun σ3 S3 q3 s3 z3 h3 n3 m3 l3 => ?_
    have st3 : StpS (A ++ B) σ σ3 S S3 := ⟨by rw [z3, h3]; exact st2.ext, fun i a h => st2.nf i a (n3 i a h), fun i n => (m3 i fun z => n (List.mem_append_left _ z)).1.trans (st2.sg i n)⟩
    have zz3 : Gr S1 S3 := by have g := zz.nw x2; unfold Gr; rw [z3, h3]; exact g
    have back : ∀ {σ4 : L2.St} {S4 : W}, StpS B σ3 σ4 S3 S4 → StpS (A ++ B) σ σ4 S S4 := fun {σ4 S4} h => (st3.trans h).mono fun i hi => by
      simp only [List.mem_append] at hi ⊢
      rcases hi with (h | h) | h <;> simp [h]
    have nxt : ∀ σ4 S4, forL gi tb Dt (items.drop (i + 1)) S4.env → SR X.K σ4 S4 → StpS B σ3 σ4 S3 S4 → ∃ S2, S2.H = S4.H ∧ SR X.K σ4 S2 ∧ StpS (A ++ B) σ σ4 S S2 ∧ Gr S1 S2 ∧ forL gi tb Dt (items.drop (i + 1)) S2.env := fun σ4 S4 q4 s4 st4 => ⟨S4, rfl, s4, back st4, zz3.stpS s3 st4, q4⟩
    exact ⟨S3, _, rfl, s3, q3, nxt, fun σ4 S4 v d Fv q4 s4 st4 w => k2 σ4 S4 v d Fv q4 s4 (back st4) (w.first st3), fun σ4 S4 q4 s4 st4 => k1 σ4 S4 q4 s4 (back st4), nxt⟩
  · have e : i = items.length := by omega
    subst e
    rw [List.drop_length] at q'
    exact .inl ⟨ok.stop _ S'.Z S'.H zz s'.zh (Nat.le_refl _), k1 σ' S' q' s' st'⟩⟩
def sWhile (c : TXT) (tb : TXS) : TXS := fun D0 env => ∃ Wv : Nat → Env → Prop, (∃ m, Wv m env) ∧ ∀ m env, Wv m env → c env fun b env1 => if b = true then tb { nx := fun e => ∃ m', m' < m ∧ Wv m' e, rt := D0.rt, bk := D0.nx, ct := fun e => ∃ m', m' < m ∧ Wv m' e } env1 else D0.nx env1
theorem s_while {c : Expr} {tc : TXT} (hp : PassesOwn (model X.prog X.w) X.A X.env X.xe) (hc : XT X c M tc) (hb : XSs X body B tb) : XS X (.While c body [] pos) B (sWhile tc tb) := ⟨ps_imp (ps_while hp hc.pt hb.pss) fun D0 σ H ⟨S, Dt, eH, s, ⟨Wv, ⟨m0, w0⟩, turn⟩, k1, k2, k3, k4⟩ => by
  subst eH
  refine ⟨fun m σ' H' => ∃ S', S'.H = H' ∧ SR X.K σ' S' ∧ StpS B σ σ' S S' ∧ Wv m S'.env, ⟨m0, S, rfl, s, .refl, w0⟩, ?_⟩
  rintro m σ' H' ⟨S', rfl, s', st', w'⟩
  refine ⟨S', _, rfl, s', turn m S'.env w', fun S2 b q2 s2 st2 => ?_⟩
  have x2 : StpS [] σ' σ' S' S2 := st2.s
  have bb : ∀ i, i ∈ B ++ [] → i ∈ B := fun i h => by simpa using h
  have st2' : StpS B σ σ' S S2 := (st'.trans x2).mono bb
  have back : ∀ {σ4 : L2.St} {S4 : W}, StpS B σ' σ4 S2 S4 → StpS B σ σ4 S S4 := fun h => (st2'.trans h).mono fun i hi => by simpa using hi
  cases b with
  | false => exact k1 σ' S2 q2 s2 st2'
  | true =>
    have nxt : ∀ σ4 S4, (∃ m', m' < m ∧ Wv m' S4.env) → SR X.K σ4 S4 → StpS B σ' σ4 S2 S4 → ∃ m', m' < m ∧ ∃ S5, S5.H = S4.H ∧ SR X.K σ4 S5 ∧ StpS B σ σ4 S S5 ∧ Wv m' S5.env := fun σ4 S4 ⟨m', hm, q4⟩ s4 st4 => ⟨m', hm, S4, rfl, s4, back st4, q4⟩
    exact ⟨fun σ4 H4 => ∃ m', m' < m ∧ ∃ S5, S5.H = H4 ∧ SR X.K σ4 S5 ∧ StpS B σ σ4 S S5 ∧ Wv m' S5.env, fun _ _ h => h, S2, _, rfl, s2, q2, nxt, fun σ4 S4 v d Fv q4 s4 st4 w => k2 σ4 S4 v d Fv q4 s4 (back st4) (w.first st2'), fun σ4 S4 q4 s4 st4 => k1 σ4 S4 q4 s4 (back st4), nxt⟩⟩
end
end TT
namespace TT
open PySem PySem.Spec PyProof.Rows L2
variable [Cls]
def wipeE (env : Env) : List Nat → Env
  | [] => env
  | v :: vs => (wipeE env vs).set v none
theorem wipeE_length (env : Env) : ∀ vs : List Nat, (wipeE env vs).length = env.length
  | [] => rfl
  | v :: vs => by unfold wipeE; rw [List.length_set, wipeE_length env vs]
theorem wipeE_out {env : Env} {i : Nat} : ∀ {vs : List Nat}, i ∉ vs → (wipeE env vs)[i]? = env[i]?
  | [], _ => rfl
  | v :: vs, h => by
    unfold wipeE
    rw [List.getElem?_set_ne (fun e => h (by simp [e])), wipeE_out fun z => h (List.mem_cons_of_mem _ z)]
theorem wipeE_in {env : Env} {i : Nat} {d : D} : ∀ {vs : List Nat}, i ∈ vs → (wipeE env vs)[i]? ≠ some (some d)
  | v :: vs, h => by
    unfold wipeE
    by_cases e : v = i
    · subst e
      rw [List.getElem?_set]
      simp only [if_true]
      split <;> simp
    · rw [List.getElem?_set_ne e]
      exact wipeE_in ((List.mem_cons.mp h).resolve_left (Ne.symm e))
theorem wipe_in {σ : L2.St} {i : Nat} : ∀ {vs : List Nat}, i ∈ vs → (wipe σ vs)[i]? = (if i < σ.length then some none else none)
  | v :: vs, h => by
    unfold wipe
    by_cases e : v = i
    · subst e
      rw [List.getElem?_set, wipe_length]
      simp
    · rw [List.getElem?_set_ne e]
      exact wipe_in ((List.mem_cons.mp h).resolve_left (Ne.symm e))
theorem wipe_congr {σ τ : L2.St} {vs : List Nat} (hl : σ.length = τ.length) (h : ∀ i, i ∉ vs → σ[i]? = τ[i]?) : wipe σ vs = wipe τ vs := by
  refine List.ext_getElem? fun i => ?_
  by_cases hi : i ∈ vs
  · rw [wipe_in hi, wipe_in hi, hl]
  · rw [wipe_out hi, wipe_out hi, h i hi]
def dropV (F : Nat → AS) (vs : List Nat) : Nat → AS := fun i a => i ∉ vs ∧ F i a
theorem dropV_out {F : Nat → AS} {vs : List Nat} {i : Nat} (h : i ∉ vs) : dropV F vs i = F i := by funext a; unfold dropV; simp [h]
section
variable {K : PySem.W.Frag} {M N R : List Nat} {S S1 S2 : W} {σ τ : L2.St} {v : V} {d : D} {Fv : AS} {vs : List Nat}
def W.wipe (S : W) (vs : List Nat) : W := ⟨S.Z, S.H, wipeE S.env vs, dropV S.F vs⟩
theorem SR.wipe (s : SR K σ S) (vs : List Nat) : SR K (L2.wipe σ vs) (S.wipe vs) := by
  refine s.go (F0 := nF) (.refl _ _ _) s.zh (fun i => ?_) (fun i j a h1 h2 => s.ap i j a h1.2 h2.2) (by rw [wipeE_length, wipe_length]; exact s.ln)
  by_cases hi : i ∈ vs
  · exact .inr ⟨fun d e => absurd e (wipeE_in hi), fun a h => absurd hi h.1⟩
  · exact .inl ⟨wipeE_out hi, wipe_out hi, dropV_out hi, fun _ _ z => z⟩
/-- back to the slots as they were -/
theorem SR.unwipe (s : SR K (L2.wipe σ vs) S) (h : ∀ i, i ∈ vs → ∀ d, S.env[i]? ≠ some (some d)) : SR K σ ⟨S.Z, S.H, S.env, dropV S.F vs⟩ := by
  refine s.go (F0 := nF) (.refl _ _ _) s.zh (fun i => ?_) (fun i j a h1 h2 => s.ap i j a h1.2 h2.2) (by rw [s.ln, wipe_length])
  by_cases hi : i ∈ vs
  · exact .inr ⟨fun d e => absurd e (h i hi d), fun a h => absurd hi h.1⟩
  · exact .inl ⟨rfl, (wipe_out hi).symm, dropV_out hi, fun _ _ z => z⟩
theorem Stp.wipe (x : Stp M S S1) : Stp (M ++ vs) S (S1.wipe vs) := by
  refine ⟨x.ext.mono fun c ⟨i, a, b⟩ => ⟨i, List.mem_append_left _ a, b⟩, fun i n => ?_, fun i a hi h => ?_⟩
  · have n1 : i ∉ M := fun z => n (List.mem_append_left _ z)
    have n2 : i ∉ vs := fun z => n (List.mem_append_right _ z)
    exact ⟨Eq.trans (wipeE_out n2) (x.frm i n1).1, Eq.trans (dropV_out n2) (x.frm i n1).2⟩
  · have h : S1.F i a := h.2
    by_cases hm : i ∈ M
    · exact (x.nf i a hm h).imp (fun ⟨j, a, b⟩ => ⟨j, List.mem_append_left _ a, b⟩) id
    · rw [(x.frm i hm).2] at h
      exact .inl ⟨i, hi, h⟩
/-- an object of nobody's here -/
structure Off (S : W) (a : Addr) (o : HO) : Prop where
  h : S.H a = some o
  z : S.Z a = none
  f : ∀ i, ¬ S.F i a
theorem Off.ext {a : Addr} {o : HO} {F0 : AS} (x : Off S a o) (e : Ext S.Z S.H F0 S1.Z S1.H) (n0 : ¬ F0 a) (nf : ∀ i, S1.F i a → (∃ j, S.F j a) ∨ S.H a = none) : Off S1 a o := by
  refine ⟨e.fr0 a o x.h x.z n0, ?_, fun i z => ?_⟩
  · cases q : S1.Z a with
    | none => rfl
    | some u =>
      rcases e.nz a u q x.z with e' | e'
      · rw [x.h] at e'; cases e'
      · exact absurd e' n0
  · rcases nf i z with ⟨j, q⟩ | q
    · exact x.f j q
    · rw [x.h] at q; cases q
theorem Off.stp {a : Addr} {o : HO} (x : Off S a o) (st : Stp M S S1) : Off S1 a o := x.ext st.ext (fun ⟨i, _, h⟩ => x.f i h) fun i h => st.any h
/-- a made list of nobody's here -/
structure Acc (K : PySem.W.Frag) (S : W) (Dd : Addr) (vs : List V) (ds : List D) (Fa : AS) : Prop where
  hd : Off S Dd (.lst vs)
  rep : RepL K S.Z S.H vs ds Fa
  off : ∀ a, Fa a → (∃ o, Off S a o) ∧ a ≠ Dd
theorem Acc.stp {Dd : Addr} {vs : List V} {ds : List D} {Fa : AS} (x : Acc K S Dd vs ds Fa) (st : Stp M S S1) : Acc K S1 Dd vs ds Fa :=
  ⟨x.hd.stp st, x.rep.ext st.ext fun a z ⟨i, _, h⟩ => by
    obtain ⟨⟨o, q⟩, _⟩ := x.off a z
    exact q.f i h, fun a z => let ⟨⟨o, q⟩, n⟩ := x.off a z; ⟨⟨o, q.stp st⟩, n⟩⟩
end
def compL (gi : TXG) (tt : TXT) (te : TX) (vs : List Nat) : List D → Env → List D → (List D → Env → Prop) → Prop
  | [], env, acc, Q => Q acc env
  | d :: r, env, acc, Q => gi d env fun env1 => tt env1 fun b env2 => if b = true then te env2 fun y env3 => compL gi tt te vs r (wipeE env3 vs) (acc ++ [y]) Q else compL gi tt te vs r (wipeE env2 vs) acc Q
def oComp (ti : TXI) (gi : TXG) (tt : TXT) (te : TX) (vs : List Nat) : TX := fun env Q => ti env fun items env1 => items.length ≤ sizeLine ∧ compL gi tt te vs items (wipeE env1 vs) [] fun acc env2 => Q (.lst true acc) env2
section
variable {X : Cx} {elt tg iter : Expr} {ifs : List Expr} {scope : Scope} {own : List (Str × Nat)} {pos spos py : Pos} {ti : TXI} {g : TG} {gi : TXG} {tt : TXT} {te : TX} {Mi Mt Me A vs : List Nat}
structure XTs (X : Cx) (ifs : List Expr) (M : List Nat) (t : TXT) : Prop where
  pts : PTs X ifs (liftT X.K M t)
theorem pts_imp {X : Cx} {e : List Expr} {t t' : L2.TT} (h : PTs X e t) (i : ∀ σ H Q, t' σ H Q → t σ H Q) : PTs X e t' := ⟨fun pins s σ H Q I q => h.run pins s σ H Q I (i σ H Q q)⟩
def tYesT : TXT := fun env Q => Q true env
theorem xts_nil : XTs X [] [] tYesT := ⟨pts_imp pts_nil fun σ H Q ⟨S, Qt, eH, s, q, k⟩ => by
  subst eH
  exact k S true q s (.refl _ _)⟩
theorem comp_lift {K : PySem.W.Frag} (hgi : GOk K g A gi) (hA : ∀ i, i ∈ A → i ∈ vs) (σ : L2.St) (H : Hp) (Q : VK) (h : lift K (Mi ++ (vs ++ (Mt ++ Me))) [] (oComp ti gi tt te vs) σ H Q) :
    tLc (liftI K Mi ti) g (liftT K Mt tt) (lift K Me [] te) vs σ H Q := by
  obtain ⟨S, Qt, eH, s, q, k⟩ := h
  subst eH
  refine ⟨S, _, rfl, s, q, fun S1 items J ⟨hlen, q1⟩ s1 st1 ok Dd hD => ?_⟩
  generalize hN : vs ++ (Mt ++ Me) = N at k
  have mvs : ∀ i, i ∈ vs → i ∈ N := fun i h => by rw [← hN]; exact List.mem_append_left _ h
  have mt : ∀ i, i ∈ Mt → i ∈ N := fun i h => by rw [← hN]; exact List.mem_append_right _ (List.mem_append_left _ h)
  have me : ∀ i, i ∈ Me → i ∈ N := fun i h => by rw [← hN]; exact List.mem_append_right _ (List.mem_append_right _ h)
  -- what holds between two turns
  let Pv : Nat → Hp → Prop := fun i H' => ∃ S' accV acc Fa, S'.H = H' ∧ SR K (wipe σ vs) S' ∧ Stp N S1 S' ∧ Gr S1 S' ∧ Acc K S' Dd accV acc Fa ∧ (∀ a, Fa a → S1.H a = none ∨ ∃ j, j ∈ N ∧ S1.F j a) ∧
    acc.length ≤ i ∧ (∀ i, i ∈ vs → ∀ d, S'.env[i]? ≠ some (some d)) ∧ compL gi tt te vs (items.drop i) S'.env acc fun acc env2 => Qt (.lst true acc) env2
  have zD : S1.Z Dd = none := s1.zh.none hD
  have p0 : Pv 0 (upd S1.H Dd (.lst [])) := by
    obtain ⟨x, zh⟩ := ext_new (o := .lst []) s1.zh hD
    have sw := s1.wipe vs
    have sN : SR K (wipe σ vs) ⟨S1.Z, upd S1.H Dd (.lst []), wipeE S1.env vs, dropV S1.F vs⟩ := sw.more x zh
    refine ⟨_, [], [], nF, rfl, sN, ?_, GrH.refl.nw x, ⟨⟨upd_same, zD, fun i z => s1.noF hD z.2⟩, .nil, fun _ z => z.elim⟩, fun _ z => z.elim, Nat.le_refl _, fun i hi d => wipeE_in hi, q1⟩
    have w : Stp ([] ++ vs) S1 (S1.wipe vs) := (Stp.refl [] S1).wipe
    exact (w.then0 (Stp.more (S := S1.wipe vs) x)).mono fun i hi => mvs i (by simpa using hi)
  refine ⟨fun i m H' => m = items.length - i ∧ i ≤ items.length ∧ Pv i H', ⟨items.length, by simp, Nat.zero_le _, p0⟩, ?_⟩
  rintro i m H' ⟨rfl, hi, S', accV, acc, Fa, rfl, s', st', zz, ac, owA, hal, hw, q'⟩
  by_cases hlt : i < items.length
  · have hd : items.drop i = items[i] :: items.drop (i + 1) := List.drop_eq_getElem_cons hlt
    rw [hd] at q'
    refine .inr ⟨ok.go i S'.Z S'.H zz s'.zh hlt, Pv (i + 1), fun H2 p2 => ⟨items.length - (i + 1), by omega, rfl, hlt, p2⟩, fun x H2 y => ?_⟩
    obtain ⟨Z2, x2, zh2, rx⟩ := ok.yld i S'.Z S'.H x H2 zz s'.zh y items[i] (by simp [hlt])
    have s2 : SR K (wipe σ vs) ⟨Z2, H2, S'.env, S'.F⟩ := s'.more x2 zh2
    have st2 : Stp N S1 ⟨Z2, H2, S'.env, S'.F⟩ := st'.then0 (.more x2)
    have ac2 : Acc K ⟨Z2, H2, S'.env, S'.F⟩ Dd accV acc Fa := ac.stp (M := []) (.more x2)
    refine hgi x items[i] (wipe σ vs) ⟨Z2, H2, S'.env, S'.F⟩ _ _ s2 rx q' fun σ3 S3 q3 s3 z3 h3 n3 m3 l3 => ?_
    have st3' : Stp A ⟨Z2, H2, S'.env, S'.F⟩ S3 := by
      obtain ⟨Z3, H3, env3, F3⟩ := S3
      obtain rfl : Z3 = Z2 := z3
      obtain rfl : H3 = H2 := h3
      exact ⟨.refl _ _ _, fun i n => (m3 i n).2, fun i a hi h => .inl ⟨i, hi, n3 i a h⟩⟩
    have st3 : Stp N S1 S3 := (st2.trans st3').mono fun i hi => (List.mem_append.mp hi).elim id fun h => mvs i (hA i h)
    have zz3 : Gr S1 S3 := by have g := zz.nw x2; unfold Gr; rw [z3, h3]; exact g
    have ac3 : Acc K S3 Dd accV acc Fa := ac2.stp st3'
    have wσ : wipe σ3 vs = wipe σ vs := by
      have h1 : wipe σ3 vs = wipe (wipe σ vs) vs := wipe_congr l3 fun i n => (m3 i fun z => n (hA i z)).1
      have h2 : wipe (wipe σ vs) vs = wipe σ vs := wipe_congr (wipe_length _ _) fun i n => wipe_out n
      exact h1.trans h2
    refine ⟨wσ, S3, _, rfl, s3, q3, fun S4 b q4 s4 st4 => ?_⟩
    have ac4 := ac3.stp st4
    have st4' : Stp N S1 S4 := (st3.trans st4).mono fun i hi => (List.mem_append.mp hi).elim id (mt i)
    have zz4 : Gr S1 S4 := zz3.stp s3 st4
    cases b with
    | false =>
      have s5 : SR K (wipe σ vs) (S4.wipe vs) := by
        have := s4.wipe vs
        rw [wσ] at this; exact this
      have w : Stp ([] ++ vs) S4 (S4.wipe vs) := (Stp.refl [] S4).wipe
      exact ⟨S4.wipe vs, accV, acc, Fa, rfl, s5, (st4'.trans w).mono fun i hi => (List.mem_append.mp hi).elim id fun h => mvs i (by simpa using h), zz4, ac4.stp w, owA, Nat.le_succ_of_le hal, fun i hi d => wipeE_in hi, q4⟩
    | true =>
      refine ⟨S4, _, rfl, s4, q4, fun S5 yv yd Fy q5 s5 st5 v5 => ?_⟩
      have ac5 := ac4.stp st5
      have st5' : Stp N S1 S5 := (st4'.trans st5).mono fun i hi => (List.mem_append.mp hi).elim id (me i)
      have zz5 : Gr S1 S5 := zz4.stp s4 st5
      refine ⟨accV, ac5.hd.h, by rw [ac5.rep.length]; exact Nat.lt_of_le_of_lt hal (Nat.lt_of_lt_of_le hlt hlen), ?_⟩
      have ow := v5.ow'
      -- y is apart from what was made so far
      have apY : ∀ a, Fy a → ¬ Fa a ∧ a ≠ Dd := fun a z => by
        have key : ∀ o, Off S4 a o → False := fun o q => by
          rcases (ow a z).2 with h | ⟨j, _, h⟩
          · rw [q.h] at h; cases h
          · exact q.f j h
        refine ⟨fun y => ?_, fun e => ?_⟩
        · obtain ⟨⟨o, q⟩, _⟩ := ac4.off a y
          exact key o q
        · subst e; exact key _ ac4.hd
      have x6 : Ext S5.Z S5.H (fun b => b = Dd) S5.Z (upd S5.H Dd (.lst (accV ++ [yv]))) := ⟨fun _ _ h => h, fun b o h n => .inl (by rw [upd_ne n]; exact h), fun b o h => by
        by_cases e : b = Dd
        · exact ⟨_, by rw [e]; exact upd_same⟩
        · exact ⟨o, by rw [upd_ne e]; exact h⟩, fun b o h n => by rw [n] at h; cases h⟩
      have s6 : SR K σ3 ⟨S5.Z, upd S5.H Dd (.lst (accV ++ [yv])), S5.env, S5.F⟩ := by
        refine s5.go x6 (fun a o h => ?_) (fun i => .inl ⟨rfl, rfl, rfl, fun a h e => ac5.hd.f i (e ▸ h)⟩) s5.ap s5.ln
        have : a ≠ Dd := fun e => by rw [e, ac5.hd.z] at h; cases h
        rw [upd_ne this]; exact s5.zh a o h
      have hDs : S1.H Dd = none := hD
      have st6 : Stp N S1 ⟨S5.Z, upd S5.H Dd (.lst (accV ++ [yv])), S5.env, S5.F⟩ := ⟨st5'.ext.trans x6 (fun _ z => z) fun c e => .inr (by rw [e]; exact hDs), st5'.frm, st5'.nf⟩
      have s7 : SR K (wipe σ vs) (W.wipe ⟨S5.Z, upd S5.H Dd (.lst (accV ++ [yv])), S5.env, S5.F⟩ vs) := by
        have := s6.wipe vs
        rw [wσ] at this; exact this
      refine ⟨_, accV ++ [yv], acc ++ [yd], fun a => Fa a ∨ Fy a, rfl, s7, (st6.wipe).mono fun i hi => (List.mem_append.mp hi).elim id (mvs i), zz5.upd (fun od u e => by rw [hDs] at e; cases e), ⟨⟨upd_same, ac5.hd.z, fun i z => ac5.hd.f i z.2⟩, ?_, fun a z => ?_⟩, fun a z => ?_, ?_, fun i hi d => wipeE_in hi, q5⟩
      · exact RepL.snoc (ac5.rep.upd fun z => (ac5.off _ z).2 rfl) (v5.rep.upd fun z => (apY _ z).2 rfl) fun a z => (apY a z).1
      · rcases z with z | z
        · obtain ⟨⟨o, q⟩, n⟩ := ac5.off a z
          exact ⟨⟨o, Eq.trans (upd_ne n) q.h, q.z, fun i y => q.f i y.2⟩, n⟩
        · obtain ⟨⟨o, q⟩, zq⟩ := v5.tv a z
          exact ⟨⟨o, Eq.trans (upd_ne (apY a z).2) q, zq, fun i y => (ow a z).1 i y.2⟩, (apY a z).2⟩
      · rcases z with z | z
        · exact owA a z
        · rcases (ow a z).2 with h | ⟨j, h1, h2⟩
          · exact .inl (st4'.none_of h)
          · by_cases hj : j ∈ N
            · exact (st4'.nf j a hj h2).symm
            · exact absurd (me j h1) hj
      · rw [List.length_append]; exact Nat.succ_le_succ hal
  · have e : i = items.length := by omega
    subst e
    rw [List.drop_length] at q'
    refine .inl ⟨ok.stop _ S'.Z S'.H zz s'.zh (Nat.le_refl _), ?_⟩
    have su := s'.unwipe hw
    have stU : Stp N S1 ⟨S'.Z, S'.H, S'.env, dropV S'.F vs⟩ := ⟨st'.ext, fun i n => ⟨(st'.frm i n).1, Eq.trans (dropV_out fun z => n (mvs i z)) (st'.frm i n).2⟩, fun i a hi h => st'.nf i a hi h.2⟩
    refine k ⟨S'.Z, S'.H, S'.env, dropV S'.F vs⟩ _ _ (fun a => a = Dd ∨ Fa a) q' su (st1.trans stU) ⟨.lstO (.inl rfl) ac.hd.h ac.hd.z ac.rep fun b z => ⟨.inr z, (ac.off b z).2⟩, fun a z => ?_, fun a z => .inr ?_⟩
    · rcases z with z | z
      · subst z; exact ⟨⟨_, ac.hd.h⟩, ac.hd.z⟩
      · obtain ⟨⟨o, q⟩, _⟩ := ac.off a z
        exact ⟨⟨o, q.h⟩, q.z⟩
    · rcases z with z | z
      · subst z; exact ⟨fun i y => ac.hd.f i y.2, .inl (st1.none_of hD)⟩
      · obtain ⟨⟨o, q⟩, _⟩ := ac.off a z
        refine ⟨fun i y => q.f i y.2, ?_⟩
        rcases owA a z with h | ⟨j, h1, h2⟩
        · exact .inl (st1.none_of h)
        · by_cases hm : j ∈ Mi
          · rcases st1.nf j a hm h2 with ⟨j', q1, q2⟩ | q
            · exact .inr ⟨j', List.mem_append_left _ q1, q2⟩
            · exact .inl q
          · rw [(st1.frm j hm).2] at h2
            exact .inr ⟨j, List.mem_append_right _ h1, h2⟩
theorem x_comp (hc : X.calm = true) (hN : X.N.Nodup) (hi : XI X tg iter Mi ti) (ok : BlkOk X.N X.env.scope scope own) (hA : ∀ i, i ∈ A → i ∈ own.map (·.2))
    (hg : ∀ (s : Shared) (H : Hp) (C : Addr) (cl : List (Str × Addr)) (fp : List Addr), PG (X.blk s H scope (compEnvC scope cl C X.env) fp) tg g) (hgi : GOk X.K g A gi) (ht : ∀ (s : Shared) (H : Hp) (C : Addr) (cl : List (Str × Addr)) (fp : List Addr), XTs (X.blk s H scope (compEnvC scope cl C X.env) fp) ifs Mt tt)
    (he : ∀ (s : Shared) (H : Hp) (C : Addr) (cl : List (Str × Addr)) (fp : List Addr), XX (X.blk s H scope (compEnvC scope cl C X.env) fp) elt Me [] te) (hs : ∀ x, foldedSetIterable iter X.env x = pure x := by intro _; rfl) :
    XX X (.ListComp elt [⟨tg, iter, ifs, 0⟩] scope pos) (Mi ++ (own.map (·.2) ++ (Mt ++ Me))) [] (oComp ti gi tt te (own.map (·.2))) :=
  ⟨pe_imp (pe_lc hc hN hi.pi ok hg (fun s H C cl fp => (ht s H C cl fp).pts) (fun s H C cl fp => (he s H C cl fp).pe) hs) fun σ H Q h => comp_lift hgi hA σ H Q h⟩
end
end TT
namespace TT
open PySem PySem.Spec PyProof.Rows L2
variable [Cls]
def fin (io : List Nat) (n : Nat) (env : Env) : Env := (List.range n).map fun i => if io.contains i then (env[i]?).join else none
theorem fin_at {io : List Nat} {n : Nat} {env : Env} {i : Nat} {d : D} (h : (fin io n env)[i]? = some (some d)) : i < n ∧ i ∈ io ∧ env[i]? = some (some d) := by
  unfold fin at h
  rw [List.getElem?_map] at h
  cases q : (List.range n)[i]? with
  | none => rw [q] at h; cases h
  | some j =>
    rw [q] at h
    obtain ⟨h1, h2⟩ := List.getElem?_eq_some_iff.mp q
    rw [List.getElem_range] at h2
    subst h2
    have h : (if io.contains i = true then (env[i]?).join else none) = some d := Option.some.inj h
    split at h
    · rename_i hc
      refine ⟨by simpa using h1, by simpa using hc, ?_⟩
      cases e : env[i]? with
      | none => rw [e] at h; cases h
      | some o => rw [e] at h; exact congrArg some h
    · cases h
/-- .. what stood so at the start (and is chosen by p) -/
noncomputable def unl (p : Addr → Prop) (H0 H : Hp) : Hp := fun a => open Classical in if p a ∧ ∃ u od, H0 a = some u ∧ IsD u ∧ H a = some (.frz od u) then H0 a else H a
theorem unl_no {p : Addr → Prop} {H0 H : Hp} {a : Addr} (h : ¬ (p a ∧ ∃ u od, H0 a = some u ∧ IsD u ∧ H a = some (.frz od u))) : unl p H0 H a = H a := by unfold unl; rw [if_neg h]
theorem unl_yes {p : Addr → Prop} {H0 H : Hp} {a : Addr} (h : p a ∧ ∃ u od, H0 a = some u ∧ IsD u ∧ H a = some (.frz od u)) : unl p H0 H a = H0 a := by unfold unl; rw [if_pos h]
theorem inv_unl {X : Cx} {pins : List (Addr × Obj)} {σ : L2.St} {H : Hp} {s : Shared} (p : Addr → Prop) (I : Inv X pins σ H s) : Inv X pins σ (unl p X.H_0 H) s := by
  let Lo : Nat → Addr → Prop := fun n a => p a ∧ (show Nat from a) < n
  have lt : ∀ {n : Nat} {a : Addr}, Lo n a → (show Nat from a) < n := fun h => h.2
  have key : ∀ n : Nat, Inv X pins σ (unl (Lo n) X.H_0 H) s := by
    intro n
    induction n with
    | zero =>
      have e : unl (Lo 0) X.H_0 H = H := funext fun a => unl_no fun z => absurd (lt z.1) (Nat.not_lt_zero _)
      rw [e]; exact I
    | succ n ih =>
      have nn : ¬ Lo n n := fun z => absurd (lt z) (Nat.lt_irrefl _)
      have up : ∀ {a : Addr}, Lo n a → Lo (n + 1) a := fun z => ⟨z.1, Nat.lt_succ_of_lt z.2⟩
      have dn : ∀ {a : Addr}, a ≠ n → Lo (n + 1) a → Lo n a := fun ne z => ⟨z.1, Nat.lt_of_le_of_ne (Nat.le_of_lt_succ z.2) ne⟩
      by_cases h : p n ∧ ∃ u od, X.H_0 n = some u ∧ IsD u ∧ H n = some (.frz od u)
      · obtain ⟨hp, u, od, h1, h2, h3⟩ := h
        have ln : Lo (n + 1) n := ⟨hp, Nat.lt_succ_self _⟩
        have e0 : unl (Lo n) X.H_0 H n = some (.frz od u) := by rw [unl_no fun z => nn z.1]; exact h3
        have := ih.unlock e0 fun o' u' e => by
          rw [h1] at e; cases e; exact h2
        have e : upd (unl (Lo n) X.H_0 H) n u = unl (Lo (n + 1)) X.H_0 H := by
          funext a
          by_cases ha : a = n
          · subst ha
            rw [upd_same, unl_yes ⟨ln, u, od, h1, h2, h3⟩, h1]
          · rw [upd_ne ha]
            by_cases q : Lo n a ∧ ∃ u od, X.H_0 a = some u ∧ IsD u ∧ H a = some (.frz od u)
            · rw [unl_yes q, unl_yes ⟨up q.1, q.2⟩]
            · rw [unl_no q, unl_no fun z => q ⟨dn ha z.1, z.2⟩]
        rw [e] at this; exact this
      · have e : unl (Lo (n + 1)) X.H_0 H = unl (Lo n) X.H_0 H := by
          funext a
          by_cases ha : a = n
          · subst ha
            rw [unl_no fun z => h ⟨z.1.1, z.2⟩, unl_no fun z => nn z.1]
          · by_cases q : Lo n a ∧ ∃ u od, X.H_0 a = some u ∧ IsD u ∧ H a = some (.frz od u)
            · rw [unl_yes q, unl_yes ⟨up q.1, q.2⟩]
            · rw [unl_no q, unl_no fun z => q ⟨dn ha z.1, z.2⟩]
        rw [e]; exact ih
  have e : unl (Lo s.heap.objs.size) X.H_0 H = unl p X.H_0 H := by
    funext a
    by_cases ha : (show Nat from a) < s.heap.objs.size
    · by_cases q : p a ∧ ∃ u od, X.H_0 a = some u ∧ IsD u ∧ H a = some (.frz od u)
      · rw [unl_yes q, unl_yes (p := Lo s.heap.objs.size) ⟨⟨q.1, ha⟩, q.2⟩]
      · rw [unl_no q, unl_no (p := Lo s.heap.objs.size) fun z => q ⟨z.1.1, z.2⟩]
    · have hn := I.hok.fresh (a := a) (Nat.le_of_not_lt ha)
      rw [unl_no (p := Lo s.heap.objs.size) fun z => ha z.1.2, unl_no fun ⟨_, u, od, _, _, e⟩ => by rw [hn] at e; cases e]
  rw [← e]; exact key _
def tUnl (H0 : Hp) (t : TS) : TS := fun D σ H => t ⟨fun σ' H' => ∃ p, D.nx σ' (unl p H0 H'), fun v H' => ∃ p, D.rt v (unl p H0 H'), fun σ' H' => ∃ p, D.bk σ' (unl p H0 H'), fun σ' H' => ∃ p, D.ct σ' (unl p H0 H')⟩ σ H
theorem pss_unl {X : Cx} {body : List Stmt} {t : TS} (h : PSs X body t) : PSs X body (tUnl X.H_0 t) := ⟨fun pins s σ H D I q => thn (h.run pins s σ H _ I q) fun f s1 q => by
  cases f with
  | next => obtain ⟨σ', H', I2, p, q⟩ := q; exact ⟨σ', _, inv_unl p I2, q⟩
  | brk => obtain ⟨σ', H', I2, p, q⟩ := q; exact ⟨σ', _, inv_unl p I2, q⟩
  | cont => obtain ⟨σ', H', I2, p, q⟩ := q; exact ⟨σ', _, inv_unl p I2, q⟩
  | ret u => obtain ⟨v, σ', H', I2, r, p, q⟩ := q; exact ⟨v, σ', _, inv_unl p I2, r, q⟩⟩
/-- what stood frozen stands as it stood -/
def Unl (S S' : W) : Prop := ∀ a o, S.H a = some o → S.Z a = some o → S'.H a = some o
/-- a state, unlocked -/
theorem SR.unl {K : PySem.W.Frag} {σ : L2.St} {S S' : W} (z0 : ZH S.Z S.H) (s : SR K σ S') (zs : ∀ a o, S.Z a = some o → S'.Z a = some o) : SR K σ ⟨S'.Z, TT.unl (fun a => S.Z a ≠ none) S.H S'.H, S'.env, S'.F⟩ ∧
    (∀ {v : V} {d : D} {F : AS}, Rep K S'.Z S'.H v d F → Rep K S'.Z (TT.unl (fun a => S.Z a ≠ none) S.H S'.H) v d F) ∧ ∀ a o, S'.H a = some o → S'.Z a = none → TT.unl (fun a => S.Z a ≠ none) S.H S'.H a = some o := by
  have un : ∀ a o, S'.H a = some o → S'.Z a = none → TT.unl (fun a => S.Z a ≠ none) S.H S'.H a = some o := fun a o h z => by
    have n0 : S.Z a = none := by
      cases e : S.Z a with
      | none => rfl
      | some u => rw [zs a u e] at z; cases z
    rw [unl_no fun q => absurd n0 q.1]
    exact h
  have rp : ∀ {v : V} {d : D} {F : AS}, Rep K S'.Z S'.H v d F → Rep K S'.Z (TT.unl (fun a => S.Z a ≠ none) S.H S'.H) v d F := fun r => r.keep (fun _ _ h => h) fun a o _ h z => ⟨un a o h z, z⟩
  refine ⟨⟨fun a o h => ?_, fun i d e => ?_, s.ap, fun i a h => ?_, s.ln, s.tb⟩, rp, un⟩
  · show TT.unl (fun a => S.Z a ≠ none) S.H S'.H a = some o ∨ (IsD o ∧ ∃ od, TT.unl (fun a => S.Z a ≠ none) S.H S'.H a = some (.frz od o)) ∨ ∃ q ps, o = mkT q ∧ TT.unl (fun a => S.Z a ≠ none) S.H S'.H a = some (.tbl ps) ∧ TbOk S'.Z a q ps
    by_cases q : S.Z a ≠ none ∧ ∃ u od, S.H a = some u ∧ IsD u ∧ S'.H a = some (.frz od u)
    · rw [unl_yes q]
      obtain ⟨hz, u, od, h1, h2, h3⟩ := q
      rcases s.zh a o h with e | ⟨e1, od', e⟩ | ⟨_, _, _, e, _⟩
      · rw [h3] at e; cases e
        exfalso
        cases z : S.Z a with
        | none => exact hz z
        | some w =>
          have := zs a w z
          rw [h] at this; cases this
          rcases z0 a _ z with e | ⟨e, _⟩ | ⟨_, _, e, _⟩
          · rw [h1] at e
            injection e with e
            rw [e] at h2; exact h2
          · exact e
          · cases e
      · rw [h3] at e; cases e; exact .inl h1
      · rw [h3] at e; cases e
    · rw [unl_no q]; exact s.zh a o h
  · obtain ⟨v, h1, r⟩ := s.sl i d e
    exact ⟨v, h1, rp r⟩
  · obtain ⟨⟨o, h1⟩, z⟩ := s.tr i a h
    exact ⟨⟨o, un a o h1 z⟩, z⟩
theorem ext_unl {S : W} {Z' H' : Hp} {F0 : AS} (x : Ext S.Z S.H F0 Z' H') : Ext S.Z S.H F0 Z' (unl (fun a => S.Z a ≠ none) S.H H') where
  zs := x.zs
  fr := fun a o h n => by
    by_cases q : S.Z a ≠ none ∧ ∃ u od, S.H a = some u ∧ IsD u ∧ H' a = some (.frz od u)
    · rw [unl_yes q]; exact .inl h
    · rw [unl_no q]
      rcases x.fr a o h n with e | ⟨e1, e2, od, e3⟩ | e
      · exact .inl e
      · exact absurd ⟨by rw [e1]; simp, o, od, h, e2, e3⟩ q
      · exact .inr (.inr e)
  th := fun a o h => by
    by_cases q : S.Z a ≠ none ∧ ∃ u od, S.H a = some u ∧ IsD u ∧ H' a = some (.frz od u)
    · rw [unl_yes q]; exact ⟨o, h⟩
    · rw [unl_no q]; exact x.th a o h
  nz := x.nz
theorem unl_keep {S : W} {Z' H' : Hp} {F0 : AS} (x : Ext S.Z S.H F0 Z' H') {a : Addr} {o : HO} (n : ¬ F0 a) (h : S.H a = some o) (hz : S.Z a = some o) : unl (fun a => S.Z a ≠ none) S.H H' a = some o := by
  by_cases q : S.Z a ≠ none ∧ ∃ u od, S.H a = some u ∧ IsD u ∧ H' a = some (.frz od u)
  · rw [unl_yes q]; exact h
  · rw [unl_no q]
    rcases x.fr a o h n with e | ⟨e1, e2, od, e3⟩ | ⟨_, _, _, e1, e2, _⟩
    · exact e
    · exact absurd ⟨by rw [e1]; simp, o, od, h, e2, e3⟩ q
    · rw [hz] at e1; cases e1; cases e2
/-- what a def promises, on trees -/
def liftSp (K : PySem.W.Frag) (n : Nat) (sp : TX) : Sp := fun vs H Q _ => vs.length = n ∧ ∃ S Qt, S.H = H ∧ SR K (vs.map some) S ∧ sp S.env Qt ∧
  ∀ S' v d Fv, Qt d S'.env → SR K (vs.map some) S' → StpS [] (vs.map some) (vs.map some) S S' → VPs K S S' v d Fv → Unl S S' → Q v S'.H
section
variable {P : Program} {w : World} {K : PySem.W.Frag} {mg : Str → Option Value} {base : Heap} {x qual : Str} {params : Arguments} {body : List Stmt} {scope : Scope} {dvs : List V} {kws : List (Str × V)} {f : Addr} {fd : FuncData} {N ps : List Str}
/-- the names a body begins with -/
def begin (N ps : List Str) (env : Env) : Env := env ++ List.replicate (N.length - ps.length) none
/-- the def's code object -/
def CdAt (K : PySem.W.Frag) (f : Addr) (cdv : Value) : Prop := ∃ oc od fd osl, K.lookup f = some ⟨oc, od, .func fd, osl⟩ ∧ fd.code = cdv
theorem fn_ok {k : Nat} {sp : TX} {Asg io : List Nat} {tb : TXS} (F : FunD K x qual params body scope dvs kws f fd) (Sc : FnScope N ps scope)
    (hbody : ∀ (cdv : Value) (_ : CdAt K f cdv) (A : Around) (outer : List PySem.Env) (s : Shared) (H : Hp) (E : XK), Room k (A.deeper (envOfC qual scope s.heap.objs.size f cdv)) → XSs (cxOf CX0 P w K mg base N qual scope f cdv A outer s H E).nox body Asg tb)
    (hio : Dj io Asg = true)
    (vc : ∀ (env : Env) (Qt : D → Env → Prop), env.length = ps.length → sp env Qt → tb { nx := fun e => Qt .non (fin io ps.length e), rt := fun r e => Qt r (fin io ps.length e) } (begin N ps env)) :
    FnOk P w K mg base CX0 (k + 1) f fd ps (liftSp K ps.length sp) := by
  have hpl : ps.length ≤ N.length := by have := congrArg List.length Sc.pre; rw [List.length_take] at this; omega
  obtain ⟨oc, od, dV, kV, doc, pm, an, cdv, ct, osl, rfl, lk, hcd, _, _⟩ := F.ex
  refine fn_of lk hcd Sc (fun vs H Q E h => h.1) fun A outer s H vs Q E hr ⟨hl, S, Qt, eH, s0, q, k⟩ => ⟨_, pss_unl (hbody cdv ⟨_, _, _, _, lk, rfl⟩ A outer s H E hr).pss.nox, ?_⟩
  subst eH
  have hln : S.env.length = vs.length := by rw [s0.ln, List.length_map]
  have sB : SR K (start N vs) ⟨S.Z, S.H, begin N ps S.env, S.F⟩ := by
    refine ⟨s0.zh, fun i d e => ?_, s0.ap, s0.tr, ?_, s0.tb⟩
    · have e : (begin N ps S.env)[i]? = some (some d) := e
      unfold begin at e
      by_cases hi : i < S.env.length
      · rw [List.getElem?_append_left hi] at e
        obtain ⟨v, h1, h2⟩ := s0.sl i d e
        refine ⟨v, ?_, h2⟩
        unfold L2.start
        rw [List.getElem?_append_left (by rw [List.length_map]; omega)]
        exact h1
      · rw [List.getElem?_append_right (by omega), List.getElem?_replicate] at e
        split at e <;> cases e
    · show (begin N ps S.env).length = (start N vs).length
      unfold begin L2.start
      rw [List.length_append, List.length_append, List.length_replicate, List.length_replicate, List.length_map, hln, hl]
  have done : ∀ (σ' : L2.St) (S' : W) (v : V) (d : D) (Fv : AS), Qt d (fin io ps.length S'.env) → SR K σ' S' → StpS Asg (start N vs) σ' ⟨S.Z, S.H, begin N ps S.env, S.F⟩ S' → VPs K ⟨S.Z, S.H, begin N ps S.env, S.F⟩ S' v d Fv → ∃ p, Q v (unl p S.H S'.H) := fun σ' S' v d Fv q1 s1 st1 v1 => by
    obtain ⟨su, ru, nu⟩ := SR.unl (S := S) s0.zh s1 st1.ext.zs
    refine ⟨fun a => S.Z a ≠ none, k ⟨S'.Z, unl (fun a => S.Z a ≠ none) S.H S'.H, fin io ps.length S'.env, fun i a => i ∈ io ∧ S'.F i a⟩ v d Fv q1 ⟨su.zh, fun i d e => ?_, fun i j a h1 h2 => s1.ap i j a h1.2 h2.2, fun i a h => su.tr i a h.2, ?_, su.tb⟩ ⟨ext_unl st1.ext, fun i a h => st1.nf i a h.2, fun _ _ => rfl⟩ ⟨ru v1.rep, fun a z => ⟨?_, (v1.tv a z).2⟩, fun a z => ⟨fun i y => (v1.ow a z).1 i y.2, (v1.ow a z).2⟩⟩ fun a o h1 h2 => ?_⟩
    · obtain ⟨h1, h2, h3⟩ := fin_at e
      obtain ⟨v, e1, r⟩ := su.sl i d h3
      refine ⟨v, ?_, r.mono fun a z => ⟨h2, z⟩⟩
      rw [st1.sg i (dj_out hio h2)] at e1
      unfold L2.start at e1
      rw [List.getElem?_append_left (by rw [List.length_map]; omega)] at e1
      exact e1
    · show (fin io ps.length S'.env).length = (vs.map some).length
      unfold fin
      rw [List.length_map, List.length_range, List.length_map, hl]
    · obtain ⟨⟨o, e⟩, hz⟩ := v1.tv a z
      exact ⟨o, nu a o e hz⟩
    · have nF : ¬ ∃ i, S.F i a := fun ⟨i, z⟩ => by rw [(s0.tr i a z).2] at h2; cases h2
      exact unl_keep st1.ext nF h1 h2
  refine ⟨⟨S.Z, S.H, begin N ps S.env, S.F⟩, _, rfl, sB, vc S.env Qt (by rw [hln, hl]) q, fun σ' S' q1 s1 st1 => ?_, fun σ' S' v d Fv q1 s1 st1 v1 => done σ' S' v d Fv q1 s1 st1 v1, fun _ _ z => z.elim, fun _ _ z => z.elim⟩
  exact done σ' S' .non .non nF q1 s1 st1 ⟨.non, fun _ z => z.elim, fun _ z => z.elim⟩
end
abbrev Arg := D ⊕ Nat
def ArgR (K : PySem.W.Frag) (S : W) (σ : L2.St) (Fv : AS) (v : V) : Arg → Prop
  | .inl d => Rep K S.Z S.H v d Fv
  | .inr i => σ[i]? = some (some v)
abbrev TXC := Env → (List Arg → Env → Prop) → Prop
/-- the slots handed over -/
def ios : List Arg → List Nat
  | [] => []
  | .inl _ :: r => ios r
  | .inr i :: r => i :: ios r
structure VPC (K : PySem.W.Frag) (M R I : List Nat) (σ : L2.St) (S S' : W) (vs : List V) (as : List Arg) (Fv : AS) : Prop where
  io : ios as = I
  rep : Paired (ArgR K S' σ Fv) vs as
  tv : ∀ a, Fv a → (∃ o, S'.H a = some o) ∧ S'.Z a = none
  ow : ∀ a, Fv a → (∃ i, i ∈ R ∧ S'.F i a) ∨ ((∀ i, ¬ S'.F i a) ∧ (S.H a = none ∨ ∃ i, i ∈ M ∧ S.F i a))
def liftC (K : PySem.W.Frag) (M R I : List Nat) (t : TXC) : TA := fun σ H Q => ∃ S Qt, S.H = H ∧ SR K σ S ∧ t S.env Qt ∧
  ∀ S' vs as Fv, Qt as S'.env → SR K σ S' → Stp M S S' → VPC K M R I σ S S' vs as Fv → Q vs S'.H
structure XC (X : Cx) (es : List Expr) (M R I : List Nat) (t : TXC) : Prop where
  pa : PA X es (liftC X.K M R I t)
def cNil : TXC := fun env Q => Q [] env
def cVal (t : TX) (u : TXC) : TXC := fun env Q => t env fun d env1 => u env1 fun as env2 => Q (.inl d :: as) env2
def cIo (i : Nat) (u : TXC) : TXC := fun env Q => (∃ d, env[i]? = some (some d)) ∧ u env fun as env2 => Q (.inr i :: as) env2
section
variable {X : Cx} {e : Expr} {es : List Expr} {M Ma Mb R Ra Rb I : List Nat} {t : TX} {u : TXC} {i : Nat}
theorem xc_nil : XC X [] [] [] [] cNil := ⟨pa_imp pa_nil fun σ H Q ⟨S, Qt, eH, s, q, k⟩ => by
  subst eH
  exact k S [] [] nF q s (.refl _ _) ⟨rfl, .nil, fun _ z => z.elim, fun _ z => z.elim⟩⟩
theorem ArgR.mono {K : PySem.W.Frag} {S : W} {σ : L2.St} {F G : AS} (h : ∀ a, F a → G a) : ∀ {vs : List V} {as : List Arg}, Paired (ArgR K S σ F) vs as → Paired (ArgR K S σ G) vs as
  | _, _, .nil => .nil
  | _, _, .cons (a := v) (b := .inl d) r t => .cons (show Rep K S.Z S.H v d G from Rep.mono r h) (ArgR.mono h t)
  | _, _, .cons (a := v) (b := .inr i) r t => .cons r (ArgR.mono h t)
theorem xc_val (h : XX X e Ma Ra t) (h2 : XC X es Mb Rb I u) (dj : Dj Ra Mb = true := by rfl) (hs : starEach (e :: es) X.env = (false, eval e X.env) :: starEach es X.env := by rfl) : XC X (e :: es) (Ma ++ Mb) (Ra ++ Rb) I (cVal t u) := ⟨pa_imp (pa_cons h.pe h2.pa hs) fun σ H Q ⟨S, Qt, eH, s, q, k⟩ => by
  subst eH
  refine ⟨S, _, rfl, s, q, fun S1 x d Fx q1 s1 st1 v1 => ⟨S1, _, rfl, s1, q1, fun S2 vs as Fs q2 s2 st2 v2 => ?_⟩⟩
  have w1 := v1.later s1 st1 st2 dj
  refine k S2 (x :: vs) (.inl d :: as) (fun a => Fx a ∨ Fs a) q2 s2 (st1.trans st2) ⟨v2.io, .cons (show Rep X.K S2.Z S2.H x d _ from w1.rep.mono fun _ z => .inl z) (ArgR.mono (fun _ z => .inr z) v2.rep), fun a z => z.elim (w1.tv a) (v2.tv a), fun a z => ?_⟩
  rcases z with z | z
  · exact (w1.ow a z).imp (fun ⟨i, a, b⟩ => ⟨i, List.mem_append_left _ a, b⟩) id
  · rcases v2.ow a z with ⟨i, h1, h2⟩ | ⟨h1, h2⟩
    · exact .inl ⟨i, List.mem_append_right _ h1, h2⟩
    · refine .inr ⟨h1, ?_⟩
      rcases h2 with h2 | ⟨i, h2, h3⟩
      · exact .inl (st1.none_of h2)
      · by_cases hm : i ∈ Ma
        · rcases st1.nf i a hm h3 with ⟨j, q1, q2⟩ | q
          · exact .inr ⟨j, List.mem_append_left _ q1, q2⟩
          · exact .inl q
        · rw [(st1.frm i hm).2] at h3
          exact .inr ⟨i, List.mem_append_right _ h2, h3⟩⟩
theorem xc_io (h : PE X e (tVar i)) (h2 : XC X es Mb Rb I u) (hs : starEach (e :: es) X.env = (false, eval e X.env) :: starEach es X.env := by rfl) : XC X (e :: es) Mb Rb (i :: I) (cIo i u) := ⟨pa_imp (pa_cons h h2.pa hs) fun σ H Q ⟨S, Qt, eH, s, ⟨⟨d, e0⟩, q⟩, k⟩ => by
  subst eH
  obtain ⟨v, h0, r0⟩ := s.sl i d e0
  exact ⟨v, h0, S, _, rfl, s, q, fun S2 vs as Fs q2 s2 st2 v2 => k S2 (v :: vs) (.inr i :: as) Fs q2 s2 st2 ⟨congrArg (i :: ·) v2.io, .cons h0 v2.rep, v2.tv, v2.ow⟩⟩⟩
end
/-- what the callee begins with -/
def given (env : Env) : List Arg → Env
  | [] => []
  | .inl d :: r => some d.frz :: given env r
  | .inr i :: r => (env[i]?).join :: given env r
/-- what the caller goes on with: the callee's last trees in the handed slots -/
def taken (env : Env) : List Arg → Env → Env
  | .inr i :: r, o :: env' => taken (env.set i o) r env'
  | .inl _ :: r, _ :: env' => taken env r env'
  | _, _ => env
mutual
def D.nf : D → Bool
  | .tup xs => nfL xs
  | .lst o xs => o && nfL xs
  | .kst _ => false
  | .dct o kvs => o && nfK kvs
  | .dtt o kvs => o && nfT kvs
  | .ins o _ fs => o && nfF fs
  | _ => true
def nfL : List D → Bool
  | [] => true
  | d :: r => d.nf && nfL r
def nfK : List (Key × D) → Bool
  | [] => true
  | (_, d) :: r => d.nf && nfK r
def nfT : List (List Key × D) → Bool
  | [] => true
  | (_, d) :: r => d.nf && nfT r
def nfF : List (Str × D) → Bool
  | [] => true
  | (_, d) :: r => d.nf && nfF r
end
theorem nfL_all : ∀ xs : List D, nfL xs = xs.all D.nf
  | [] => by rw [nfL]; rfl
  | d :: r => by rw [nfL, nfL_all r]; rfl
theorem nfK_all : ∀ xs : List (Key × D), nfK xs = nfL (xs.map (·.2))
  | [] => by rw [nfK]; rfl
  | (k, d) :: r => by rw [nfK, nfK_all r, List.map_cons, nfL]
theorem nfT_all : ∀ xs : List (List Key × D), nfT xs = nfL (xs.map (·.2))
  | [] => by rw [nfT]; rfl
  | (k, d) :: r => by rw [nfT, nfT_all r, List.map_cons, nfL]
theorem nfF_all : ∀ xs : List (Str × D), nfF xs = nfL (xs.map (·.2))
  | [] => by rw [nfF]; rfl
  | (k, d) :: r => by rw [nfF, nfF_all r, List.map_cons, nfL]
theorem Rep.thaw {K : PySem.W.Frag} {Z Z' H : Hp} {v : V} {d : D} {F : AS} (r : Rep K Z H v d F) (hn : d.nf = true) (ht : ∀ a vs, Z a = some (.tup vs) → Z' a = some (.tup vs)) (hz : ∀ a, F a → Z a = none → Z' a = none) : Rep K Z' H v d F := by
  refine Rep.rec (K := K) (Z := Z) (H := H) (motive_1 := fun v d F _ => d.nf = true → (∀ a, F a → Z a = none → Z' a = none) → Rep K Z' H v d F) (motive_2 := fun v d F _ => nfL d = true → (∀ a, F a → Z a = none → Z' a = none) → RepL K Z' H v d F)
    ?_ ?_ ?_ ?_ ?_ ?_ ?_ ?_ ?_ ?_ ?_ ?_ ?_ ?_ ?_ ?_ ?_ ?_ ?_ r hn hz
  · intro F _ _; exact .non
  · intro F b _ _; exact .bl b
  · intro F b _ _; exact .int b
  · intro F b _ _; exact .str b
  · intro F b _ _; exact .byt b
  · intro F b _ _; exact .ty b
  · intro F a vs xs h1 h2 ih h hz; rw [D.nf] at h; exact .tup (ht _ _ h1) (ih h hz)
  · intro F G a vs xs h1 h2 h3 h4 h5 ih h hz
    rw [D.nf, Bool.true_and] at h
    exact .lstO h1 h2 (hz _ h1 h3) (ih h fun b g => hz b (h5 b g).1) h5
  · intro F a vs xs h1 h2 ih h; rw [D.nf, Bool.false_and] at h; cases h
  · intro F a vs xs h1 h2 ih h; rw [D.nf] at h; cases h
  · intro F G a m kvs h1 h2 h3 h4 h5 h6 ih h hz
    rw [D.nf, Bool.true_and, nfK_all] at h
    exact .dctO h1 h2 (hz _ h1 h3) h4 (ih h fun b g => hz b (h6 b g).1) h6
  · intro F a m kvs h1 h2 h3 ih h; rw [D.nf, Bool.false_and] at h; cases h
  · intro F G a m kvs h1 h2 h3 h4 h5 h6 ih h hz
    rw [D.nf, Bool.true_and, nfT_all] at h
    exact .dttO h1 h2 (hz _ h1 h3) h4 (ih h fun b g => hz b (h6 b g).1) h6
  · intro F a m kvs h1 h2 h3 ih h; rw [D.nf, Bool.false_and] at h; cases h
  · intro F G a C dx m fs h1 h2 h3 h4 h5 h6 ih h hz
    rw [D.nf, Bool.true_and, nfF_all] at h
    exact .insO h1 h2 (hz _ h1 h3) h4 (ih h fun b g => hz b (h6 b g).1) h6
  · intro F a C dx m fs h1 h2 h3 ih h; rw [D.nf, Bool.false_and] at h; cases h
  · intro F a h1 _ _; first | exact .kt0 h1 | (rw [D.frz]; exact .kt0 h1)
  · intro F _ _; exact .nil
  · intro F G E v vs d ds h1 h2 h3 h4 ih1 ih2 h hz
    rw [nfL, Bool.and_eq_true] at h
    exact .cons (ih1 h.1 fun a g => hz a (h3 a g)) (ih2 h.2 fun a g => hz a (h4 a g).1) h3 h4
end TT
namespace TT
open PySem PySem.Spec PyProof.Rows L2
variable [Cls]
theorem taken_out {j : Nat} : ∀ {env : Env} {as : List Arg} {fe : Env}, j ∉ ios as → (taken env as fe)[j]? = env[j]?
  | env, .inr i :: r, o :: fe, h => by
    rw [taken, taken_out fun z => h (List.mem_cons_of_mem _ z), List.getElem?_set_ne fun e => h (by simp [ios, e])]
  | env, .inl _ :: r, _ :: fe, h => by rw [taken, taken_out (as := r) h]
  | _, [], _, _ => by rw [taken] <;> intros <;> contradiction
  | _, .inl _ :: _, [], _ => by rw [taken] <;> intros <;> contradiction
  | _, .inr _ :: _, [], _ => by rw [taken] <;> intros <;> contradiction
theorem taken_in {j : Nat} {d : D} : ∀ {env : Env} {as : List Arg} {fe : Env}, as.length = fe.length → (ios as).Nodup → j ∈ ios as → (taken env as fe)[j]? = some (some d) → ∃ k : Nat, as[k]? = some (.inr j) ∧ fe[k]? = some (some d)
  | env, .inr i :: r, o :: fe, hl, nd, h, e => by
    rw [taken] at e
    by_cases hj : j = i
    · subst hj
      rw [taken_out (List.nodup_cons.mp nd).1] at e
      refine ⟨0, rfl, ?_⟩
      rw [List.getElem?_set] at e
      simp only [if_true] at e
      split at e
      · exact e
      · cases e
    · obtain ⟨k, h1, h2⟩ := taken_in (as := r) (by simpa using hl) (List.nodup_cons.mp nd).2 ((List.mem_cons.mp h).resolve_left hj) e
      exact ⟨k + 1, h1, h2⟩
  | env, .inl _ :: r, _ :: fe, hl, nd, h, e => by
    rw [taken] at e
    obtain ⟨k, h1, h2⟩ := taken_in (as := r) (by simpa using hl) nd h e
    exact ⟨k + 1, h1, h2⟩
  | _, [], _, _, _, h, _ => by cases h
  | _, .inl _ :: _, [], hl, _, _, _ => by cases hl
  | _, .inr _ :: _, [], hl, _, _, _ => by cases hl
theorem taken_length : ∀ (env : Env) (as : List Arg) (fe : Env), (taken env as fe).length = env.length
  | env, .inr i :: r, o :: fe => by rw [taken, taken_length, List.length_set]
  | env, .inl _ :: r, _ :: fe => by rw [taken, taken_length]
  | _, [], _ => by rw [taken] <;> intros <;> contradiction
  | _, .inl _ :: _, [] => by rw [taken] <;> intros <;> contradiction
  | _, .inr _ :: _, [] => by rw [taken] <;> intros <;> contradiction
theorem given_length (env : Env) : ∀ as : List Arg, (given env as).length = as.length
  | [] => rfl
  | .inl _ :: r => by rw [given, List.length_cons, List.length_cons, given_length env r]
  | .inr _ :: r => by rw [given, List.length_cons, List.length_cons, given_length env r]
theorem given_at {env : Env} {d : D} : ∀ {as : List Arg} {k : Nat}, (given env as)[k]? = some (some d) → (∃ d0, as[k]? = some (.inl d0) ∧ d = d0.frz) ∨ ∃ i, as[k]? = some (.inr i) ∧ env[i]? = some (some d)
  | .inl d0 :: r, 0, h => by rw [given] at h; exact .inl ⟨d0, rfl, by simpa using h.symm⟩
  | .inr i :: r, 0, h => by
    rw [given] at h
    refine .inr ⟨i, rfl, ?_⟩
    have h : (env[i]?).join = some d := by simpa using h
    cases e : env[i]? with
    | none => rw [e] at h; cases h
    | some o => rw [e] at h; exact congrArg some h
  | .inl d0 :: r, k + 1, h => by rw [given] at h; exact given_at (as := r) (k := k) (by simpa using h)
  | .inr i :: r, k + 1, h => by rw [given] at h; exact given_at (as := r) (k := k) (by simpa using h)
theorem ios_mem {i : Nat} : ∀ {as : List Arg} {k : Nat}, as[k]? = some (.inr i) → i ∈ ios as
  | .inl d0 :: r, 0, h => by cases h
  | .inr j :: r, 0, h => by cases h; exact List.mem_cons_self
  | .inl d0 :: r, k + 1, h => ios_mem (as := r) (k := k) h
  | .inr j :: r, k + 1, h => List.mem_cons_of_mem _ (ios_mem (as := r) (k := k) h)
theorem ios_inj {i : Nat} : ∀ {as : List Arg} {k l : Nat}, (ios as).Nodup → as[k]? = some (.inr i) → as[l]? = some (.inr i) → k = l
  | .inl d0 :: r, 0, _, _, h, _ => by cases h
  | .inl d0 :: r, _, 0, _, _, h => by cases h
  | .inr j :: r, 0, 0, _, _, _ => rfl
  | .inr j :: r, 0, l + 1, nd, h, h2 => by cases h; exact absurd (ios_mem (as := r) (k := l) h2) (List.nodup_cons.mp nd).1
  | .inr j :: r, k + 1, 0, nd, h, h2 => by cases h2; exact absurd (ios_mem (as := r) (k := k) h) (List.nodup_cons.mp nd).1
  | .inl d0 :: r, k + 1, l + 1, nd, h, h2 => congrArg (· + 1) (ios_inj (as := r) nd h h2)
  | .inr j :: r, k + 1, l + 1, nd, h, h2 => congrArg (· + 1) (ios_inj (as := r) (List.nodup_cons.mp nd).2 h h2)
theorem paired_at {α β : Type} {G : α → β → Prop} : ∀ {l₁ : List α} {l₂ : List β} {k : Nat} {b : β}, Paired G l₁ l₂ → l₂[k]? = some b → ∃ a, l₁[k]? = some a ∧ G a b
  | _, _, _, _, .nil, at_ => by simp at at_
  | _, _, 0, _, .cons hd_ _, at_ => by
    simp at at_
    exact ⟨_, rfl, at_ ▸ hd_⟩
  | _, _, k + 1, _, .cons _ t, e => paired_at (k := k) t (by simpa using e)
def nfE (env : Env) : Bool := env.all fun o => match o with
  | some d => d.nf
  | none => true
theorem nfE_at {env : Env} (h : nfE env = true) {k : Nat} {d : D} (e : env[k]? = some (some d)) : d.nf = true := by
  have := List.all_eq_true.mp h (some d) (List.mem_of_getElem? e)
  exact this
/-- the call on trees; bor: some argument is a name's own thing, that is only looked at -/
def oFn (sp : TX) (n : Nat) (bor : Bool) (u : TXC) : TX := fun env Q => u env fun as env1 => as.length = n ∧ sp (given env1 as) fun r fe => (bor = true → r.nf = true ∧ nfE fe = true) ∧ Q r (taken env1 as fe)
open Classical in
noncomputable def thawZ (Z Z2 : Hp) (F : AS) : Hp := fun a => if F a then Z a else Z2 a
section
variable {K : PySem.W.Frag} {M R I : List Nat} {sp : TX} {u : TXC} {n : Nat}
def noTup : Option HO → Prop
  | some (.tup _) => False
  | some (.ext _) => False
  | _ => True
theorem Rep.shrink {Z H : Hp} {v : V} {d : D} {F : AS} (r : Rep K Z H v d F) : Rep K Z H v d (fun a => F a ∧ noTup (H a)) := by
  refine Rep.rec (K := K) (Z := Z) (H := H) (motive_1 := fun v d F _ => Rep K Z H v d (fun a => F a ∧ noTup (H a))) (motive_2 := fun v d F _ => RepL K Z H v d (fun a => F a ∧ noTup (H a)))
    ?_ ?_ ?_ ?_ ?_ ?_ ?_ ?_ ?_ ?_ ?_ ?_ ?_ ?_ ?_ ?_ ?_ ?_ ?_ r
  · intro F; exact .non
  · intro F b; exact .bl b
  · intro F b; exact .int b
  · intro F b; exact .str b
  · intro F b; exact .byt b
  · intro F b; exact .ty b
  · intro F a vs xs h1 h2 ih; exact .tup h1 ih
  · intro F G a vs xs h1 h2 h3 h4 h5 ih; exact .lstO ⟨h1, by rw [h2]; trivial⟩ h2 h3 ih fun b z => ⟨⟨(h5 b z.1).1, z.2⟩, (h5 b z.1).2⟩
  · intro F a vs xs h1 h2 ih; exact .lstF h1 h2
  · intro F a vs xs h1 h2 ih; exact .kst h1 h2
  · intro F G a m kvs h1 h2 h3 h4 h5 h6 ih; exact .dctO ⟨h1, by rw [h2]; trivial⟩ h2 h3 h4 ih fun b z => ⟨⟨(h6 b z.1).1, z.2⟩, (h6 b z.1).2⟩
  · intro F a m kvs h1 h2 h3 ih; exact .dctF h1 h2 h3
  · intro F G a m kvs h1 h2 h3 h4 h5 h6 ih; exact .dttO ⟨h1, by rw [h2]; trivial⟩ h2 h3 h4 ih fun b z => ⟨⟨(h6 b z.1).1, z.2⟩, (h6 b z.1).2⟩
  · intro F a m kvs h1 h2 h3 ih; exact .dttF h1 h2 h3
  · intro F G a C dx m fs h1 h2 h3 h4 h5 h6 ih; exact .insO ⟨h1, by rw [h2]; trivial⟩ h2 h3 h4 ih fun b z => ⟨⟨(h6 b z.1).1, z.2⟩, (h6 b z.1).2⟩
  · intro F a C dx m fs h1 h2 h3 ih; exact .insF h1 h2 h3
  · intro F a h1 ; first | exact .kt0 h1 | (rw [D.frz]; exact .kt0 h1)
  · intro F; exact .nil
  · intro F G E v vs d ds h1 h2 h3 h4 ih1 ih2; exact .cons ih1 ih2 (fun b z => ⟨h3 b z.1, z.2⟩) fun b z => ⟨⟨(h4 b z.1).1, z.2⟩, fun y => (h4 b z.1).2 y.1⟩
theorem ArgR.shrink {S : W} {σ : L2.St} {F : AS} : ∀ {vs : List V} {as : List Arg}, Paired (ArgR K S σ F) vs as → Paired (ArgR K S σ (fun a => F a ∧ noTup (S.H a))) vs as
  | _, _, .nil => .nil
  | _, _, .cons (a := v) (b := .inl d) r t => .cons (show Rep K S.Z S.H v d _ from Rep.shrink r) (ArgR.shrink t)
  | _, _, .cons (a := v) (b := .inr i) r t => .cons r (ArgR.shrink t)
theorem call_core {σ : L2.St} {S S1 : W} {vs : List V} {as : List Arg} {Fv : AS} {E : XK} {bor : Bool} {Qt : D → Env → Prop} {Q : VK} (s1 : SR K σ S1) (st1 : Stp M S S1) (v0 : VPC K M R I σ S S1 vs as Fv) (nd : I.Nodup) (dj : Dj R I = true) (hb : bor = true ∨ R = [])
    (hn : as.length = n) (q : sp (given S1.env as) fun r fe => (bor = true → r.nf = true ∧ nfE fe = true) ∧ Qt r (taken S1.env as fe))
    (k : ∀ S' v d Fv, Qt d S'.env → SR K σ S' → Stp (M ++ I) S S' → VP K (M ++ I) [] S S' v d Fv → Q v S'.H) : liftSp K n sp vs S1.H Q E := by
  obtain ⟨Fv, v1, ht, hx⟩ : ∃ Fv, VPC K M R I σ S S1 vs as Fv ∧ (∀ a vs, Fv a → S1.H a ≠ some (.tup vs)) ∧ ∀ a φ, Fv a → S1.H a ≠ some (.ext φ) := ⟨fun a => Fv a ∧ noTup (S1.H a), ⟨v0.io, ArgR.shrink v0.rep, fun a z => v0.tv a z.1, fun a z => v0.ow a z.1⟩, fun a vs z e => by
    have := z.2
    rw [e] at this
    exact this, fun a vs z e => by
    have := z.2
    rw [e] at this
    exact this⟩
  have hvl : vs.length = as.length := Paired.length v1.rep
  have ndI : (ios as).Nodup := by rw [v1.io]; exact nd
  -- what the callee may change is apart from what it looks at
  have apart : ∀ i, i ∈ I → ∀ a, S1.F i a → ¬ Fv a := fun i hi a h z => by
    rcases v1.ow a z with ⟨r, hr, e⟩ | ⟨e, _⟩
    · exact dj_out dj hr (s1.ap i r a h e ▸ hi)
    · exact e i h
  have hI : ∀ {i k : Nat}, as[k]? = some (Sum.inr i : Arg) → i ∈ I := fun {i k} h => v1.io ▸ ios_mem (as := as) (k := k) h
  have x0 := ext_frz v1.tv
  let Sc : W := ⟨frzZ S1.Z S1.H Fv, S1.H, given S1.env as, fun k a => ∃ i, as[k]? = some (.inr i) ∧ S1.F i a⟩
  have sc : SR K (vs.map some) Sc := by
    refine ⟨frzZ_zh s1.zh v1.tv, fun k d e => ?_, fun k l a ⟨i, h1, h2⟩ ⟨j, h3, h4⟩ => ?_, fun k a ⟨i, h1, h2⟩ => ⟨(s1.tr i a h2).1, ?_⟩, ?_, fun p hp => x0.zs _ _ (s1.tb p hp)⟩
    · rcases given_at e with ⟨d0, h1, rfl⟩ | ⟨i, h1, h2⟩
      · obtain ⟨v, hv, r⟩ := paired_at v1.rep h1
        have r : Rep K S1.Z S1.H v d0 Fv := r
        exact ⟨v, by rw [List.getElem?_map, hv]; rfl, r.frzz v1.tv⟩
      · obtain ⟨v, hv, r⟩ := paired_at v1.rep h1
        have r : σ[i]? = some (some v) := r
        refine ⟨v, by rw [List.getElem?_map, hv]; rfl, ?_⟩
        exact ((sl_at s1 h2 r).ext x0 fun a z => apart i (hI h1) a z).mono fun a z => ⟨i, h1, z⟩
    · have := s1.ap i j a h2 h4
      subst this
      exact ios_inj ndI h1 h3
    · show frzZ S1.Z S1.H Fv a = none
      rw [frzZ_out (apart i (hI h1) a h2)]
      exact (s1.tr i a h2).2
    · show (given S1.env as).length = (vs.map some).length
      rw [given_length, List.length_map, hvl]
  refine ⟨hvl.trans hn, Sc, _, rfl, sc, q, fun S2 v d Fr ⟨hnf, q2⟩ s2 st2 v2 ul => ?_⟩
  have fl : as.length = S2.env.length := by rw [s2.ln, List.length_map, hvl]
  have xc : Ext (frzZ S1.Z S1.H Fv) S1.H (fun a => ∃ (k i : Nat), as[k]? = some (Sum.inr i : Arg) ∧ S1.F i a) S2.Z S2.H := st2.ext
  let F3 : Nat → AS := fun j a => (j ∈ I ∧ ∃ k, as[k]? = some (.inr j) ∧ S2.F k a) ∨ (j ∉ I ∧ S1.F j a)
  -- the rest, whatever is kept frozen
  have rest : ∀ (Z3 : Hp) (Fz : AS), (∀ a o, S1.Z a = some o → Z3 a = some o) → (∀ a o, Z3 a = some o → S2.Z a = some o) → (∀ a o, Z3 a = some o → S1.Z a = none → S1.H a = none ∨ (∃ i, i ∈ I ∧ S1.F i a) ∨ Fz a) →
      (∀ a, Fz a → (∀ i, ¬ S1.F i a) ∧ (S.H a = none ∨ ∃ i, i ∈ M ∧ S.F i a)) → Rep K Z3 S2.H v d Fr → (∀ (kk : Nat) (v' : V) (d' : D), S2.env[kk]? = some (some d') → Rep K S2.Z S2.H v' d' (S2.F kk) → Rep K Z3 S2.H v' d' (S2.F kk)) → (∀ c q, S2.Z c = some (LamX.CodeO c q) → Z3 c = some (LamX.CodeO c q)) → Q v S2.H := by
    intro Z3 Fz z1 z2 z4 zf rr rio z5
    have x3 : Ext S1.Z S1.H (fun a => (∃ i, i ∈ I ∧ S1.F i a) ∨ Fz a) Z3 S2.H := ⟨z1, fun a o h nn => (xc.fr a o h fun ⟨kk, i, h1, h2⟩ => nn (.inl ⟨i, hI h1, h2⟩)).elim .inl fun z => z.elim (fun ⟨e1, _⟩ => .inl (ul a o h e1)) fun ⟨m, ps, ps', e1, e2, e3⟩ => .inr (.inr ⟨m, ps, ps', by
      have e1 : frzZ S1.Z S1.H Fv a = some (mkT m) := e1
      by_cases hf : Fv a
      · rw [frzZ_in hf, h, e2] at e1; cases e1
      · rwa [frzZ_out hf] at e1, e2, e3⟩), xc.th, fun a o h1 h2 => z4 a o h1 h2⟩
    have s3 : SR K σ ⟨Z3, S2.H, taken S1.env as S2.env, F3⟩ := by
      refine s1.go x3 (fun a o h => (s2.zh a o (z2 a o h)).imp id (.imp id fun ⟨m, ps, e1, e2, e3⟩ => ⟨m, ps, e1, e2, e3.sub' z5⟩)) (fun j => ?_) (fun i j a h1 h2 => ?_) (by rw [taken_length]; exact s1.ln)
      · by_cases hj : j ∈ I
        · refine .inr ⟨fun d' e => ?_, fun a h => ?_⟩
          · obtain ⟨kk, h1, h2⟩ := taken_in fl ndI (by rw [v1.io]; exact hj) e
            obtain ⟨w, hw, r⟩ := s2.sl kk d' h2
            obtain ⟨w', hw', r'⟩ := paired_at v1.rep h1
            have r' : σ[j]? = some (some w') := r'
            rw [List.getElem?_map, hw'] at hw
            cases hw
            exact ⟨w, r', (rio kk w d' h2 r).mono fun a z => .inl ⟨hj, kk, h1, z⟩⟩
          · rcases h with ⟨_, kk, h1, h2⟩ | ⟨h1, _⟩
            · obtain ⟨⟨o, h3⟩, h4⟩ := s2.tr kk a h2
              refine ⟨⟨o, h3⟩, ?_⟩
              cases e : Z3 a with
              | none => rfl
              | some u => have := z2 a u e; rw [h4] at this; cases this
            · exact absurd hj h1
        · refine .inl ⟨taken_out (by rw [v1.io]; exact hj), rfl, ?_, fun a h => ?_⟩
          · funext a
            show ((j ∈ I ∧ _) ∨ (j ∉ I ∧ S1.F j a)) = S1.F j a
            simp [hj]
          · rintro (⟨i, hi, e⟩ | e)
            · exact hj (s1.ap i j a e h ▸ hi)
            · exact (zf a e).1 j h
      · -- apart
        have own : ∀ kk, S2.F kk a → (∃ i, i ∈ I ∧ S1.F i a) ∨ S1.H a = none := fun kk h => (st2.nf kk a h).imp (fun ⟨l, i, e1, e2⟩ => ⟨i, hI e1, e2⟩) id
        have mix : ∀ kk j, S2.F kk a → j ∉ I → S1.F j a → False := fun kk j h hj h2 => by
          rcases own kk h with ⟨i, hi, e⟩ | e
          · exact hj (s1.ap i j a e h2 ▸ hi)
          · obtain ⟨⟨o, e'⟩, _⟩ := s1.tr j a h2
            rw [e] at e'; cases e'
        rcases h1 with ⟨hi, k1, e1, f1⟩ | ⟨hi, f1⟩ <;> rcases h2 with ⟨hj, k2, e2, f2⟩ | ⟨hj, f2⟩
        · have := s2.ap k1 k2 a f1 f2
          subst this
          rw [e1] at e2
          cases e2
          rfl
        · exact (mix k1 j f1 hj f2).elim
        · exact (mix k2 i f2 hi f1).elim
        · exact s1.ap i j a f1 f2
    have back : ∀ a, (∃ i, i ∈ I ∧ S1.F i a) → (∃ i, i ∈ M ++ I ∧ S.F i a) ∨ S.H a = none := fun a ⟨i, hi, h⟩ => by
      by_cases hm : i ∈ M
      · rcases st1.nf i a hm h with ⟨j, h1, h2⟩ | h
        · exact .inl ⟨j, List.mem_append_left _ h1, h2⟩
        · exact .inr h
      · rw [(st1.frm i hm).2] at h
        exact .inl ⟨i, List.mem_append_right _ hi, h⟩
    have st3 : Stp (M ++ I) S ⟨Z3, S2.H, taken S1.env as S2.env, F3⟩ := by
      refine ⟨st1.ext.trans x3 (fun c ⟨i, a, b⟩ => ⟨i, List.mem_append_left _ a, b⟩) fun c z => ?_, fun i hn => ?_, fun i a hi h => ?_⟩
      · rcases z with z | z
        · exact back c z
        · exact (zf c z).2.symm.imp (fun ⟨i, a, b⟩ => ⟨i, List.mem_append_left _ a, b⟩) id
      · have n1 : i ∉ M := fun z => hn (List.mem_append_left _ z)
        have n2 : i ∉ I := fun z => hn (List.mem_append_right _ z)
        refine ⟨(taken_out (by rw [v1.io]; exact n2)).trans (st1.frm i n1).1, ?_⟩
        refine Eq.trans ?_ (st1.frm i n1).2
        funext a
        show ((i ∈ I ∧ _) ∨ (i ∉ I ∧ S1.F i a)) = S1.F i a
        simp [n2]
      · rcases h with ⟨hi, kk, h1, h2⟩ | ⟨hi2, h2⟩
        · rcases st2.nf kk a h2 with ⟨l, j, e1, e2⟩ | e
          · exact back a ⟨j, hI e1, e2⟩
          · exact .inr (st1.none_of e)
        · have hm : i ∈ M := (List.mem_append.mp hi).resolve_right hi2
          rcases st1.nf i a hm h2 with ⟨j, h1, h2⟩ | h
          · exact .inl ⟨j, List.mem_append_left _ h1, h2⟩
          · exact .inr h
    refine k ⟨Z3, S2.H, taken S1.env as S2.env, F3⟩ v d Fr q2 s3 st3 ⟨rr, fun a z => ⟨(v2.tv a z).1, ?_⟩, fun a z => .inr ⟨fun j h => ?_, ?_⟩⟩
    · show Z3 a = none
      cases e : Z3 a with
      | none => rfl
      | some u => have := z2 a u e; rw [(v2.tv a z).2] at this; cases this
    · rcases h with ⟨hj, kk, h1, h2⟩ | ⟨hj, h2⟩
      · exact (v2.ow a z).1 kk h2
      · rcases (v2.ow a z).2 with e | ⟨l, i, e1, e2⟩
        · obtain ⟨⟨o, e'⟩, _⟩ := s1.tr j a h2
          rw [show S1.H a = none from e] at e'; cases e'
        · exact hj (s1.ap i j a e2 h2 ▸ hI e1)
    · rcases (v2.ow a z).2 with e | ⟨l, i, e1, e2⟩
      · exact .inl (st1.none_of e)
      · exact (back a ⟨i, hI e1, e2⟩).symm
  by_cases hR : R = []
  · subst hR
    have ow : ∀ a, Fv a → (∀ i, ¬ S1.F i a) ∧ (S.H a = none ∨ ∃ i, i ∈ M ∧ S.F i a) := fun a z => by
      rcases v1.ow a z with ⟨r, hr, _⟩ | h
      · cases hr
      · exact h
    refine rest S2.Z Fv (fun a o h => xc.zs a o (x0.zs a o h)) (fun _ _ h => h) (fun a o h hz => ?_) ow v2.rep (fun _ _ _ _ h => h) fun _ _ h => h
    by_cases hf : Fv a
    · exact .inr (.inr hf)
    · have : frzZ S1.Z S1.H Fv a = none := by rw [frzZ_out hf]; exact hz
      exact (xc.nz a o h this).imp id fun ⟨kk, i, h1, h2⟩ => .inl ⟨i, hI h1, h2⟩
  · have hbor : bor = true := hb.resolve_right hR
    obtain ⟨n1, n2⟩ := hnf hbor
    have tin : ∀ {a}, Fv a → thawZ S1.Z S2.Z Fv a = S1.Z a := fun h => by unfold thawZ; rw [if_pos h]
    have tout : ∀ {a}, ¬ Fv a → thawZ S1.Z S2.Z Fv a = S2.Z a := fun h => by unfold thawZ; rw [if_neg h]
    -- what was only looked at holds no tuple
    have looked : ∀ a o, Fv a → S2.Z a = some o → S1.H a = some o := fun a o h e => by
      obtain ⟨⟨o1, e1⟩, _⟩ := v1.tv a h
      have : S2.Z a = some o1 := xc.zs a o1 (by rw [frzZ_in h]; exact e1)
      rw [e] at this; cases this
      exact e1
    have keepT : ∀ {v' : V} {d' : D} {F' : AS}, Rep K S2.Z S2.H v' d' F' → d'.nf = true → (∀ a, F' a → S2.Z a = none) → Rep K (thawZ S1.Z S2.Z Fv) S2.H v' d' F' := fun r h hz => by
      refine r.thaw h (fun a vs e => ?_) fun a z e => ?_
      · by_cases hf : Fv a
        · exact absurd (looked a _ hf e) (ht a vs hf)
        · rw [tout hf]; exact e
      · by_cases hf : Fv a
        · rw [tin hf]; exact (v1.tv a hf).2
        · rw [tout hf]; exact e
    refine rest (thawZ S1.Z S2.Z Fv) nF (fun a o h => ?_) (fun a o h => ?_) (fun a o h hz => ?_) (fun a z => z.elim) (keepT v2.rep n1 fun a z => (v2.tv a z).2) (fun kk v' d' e r => keepT r (nfE_at n2 e) fun a z => (s2.tr kk a z).2) fun c q h => ?_
    · by_cases hf : Fv a
      · rw [tin hf]; exact h
      · rw [tout hf]; exact xc.zs a o (x0.zs a o h)
    · by_cases hf : Fv a
      · rw [tin hf, (v1.tv a hf).2] at h; cases h
      · rw [tout hf] at h; exact h
    · by_cases hf : Fv a
      · rw [tin hf, hz] at h; cases h
      · rw [tout hf] at h
        have : frzZ S1.Z S1.H Fv a = none := by rw [frzZ_out hf]; exact hz
        exact (xc.nz a o h this).imp id fun ⟨kk, i, h1, h2⟩ => .inl ⟨i, hI h1, h2⟩
    · by_cases hf : Fv c
      · exact absurd (looked c _ hf h) (hx c _ hf)
      · rw [tout hf]; exact h
end
section
variable {X : Cx} {f : Addr} {fd : FuncData} {ps ks : List Str} {kk : Nat} {sp : TX} {u u2 : TXC} {e : Expr} {es : List Expr} {M R I M2 R2' I2 : List Nat} {x : Str} {p pos : Pos} {kws : List Keyword}
/-- f(e, ..) -/
theorem x_call (bor : Bool) (F : FnOk X.prog X.w X.K X.mg X.base CX0 kk f fd ps (liftSp X.K ps.length sp)) (hr : Room kk X.A) (hg : Gl X x) (hm : X.mg x = some (.ref f)) (hk : PySem.W.keepIn X.K (.ref f) = true) (hb : Binds X.K fd ps [])
    (ha : XC X (e :: es) M R I u) (nd : I.Nodup := by decide) (dj : Dj R I = true := by rfl) (hbor : bor = true ∨ R = [] := by first | exact .inl rfl | exact .inr rfl)
    (hdbg : (x == ("__debug__" : Str)) = false := by decide) (he : starEach (e :: es) X.env = (false, eval e X.env) :: starEach es X.env := by rfl) (hpln : (backTo pos (starEach es X.env)).any (·.1) = false := by rfl) :
    XX X (.Call (.Name x p) (e :: es) [] pos) (M ++ I) [] (oFn sp ps.length bor u) := ⟨pe_imp (pe_call F hr hg hm hk hb .nil (E := E0) pass0 ha.pa hdbg he hpln) fun σ H Q ⟨S, Qt, eH, s, q, k⟩ => by
  subst eH
  refine ⟨S, _, rfl, s, q, fun S1 vs as Fv ⟨hn, q1⟩ s1 st1 v1 => ?_⟩
  show liftSp X.K ps.length sp (vs ++ []) S1.H Q E0
  rw [List.append_nil]
  exact call_core s1 st1 v1 nd dj hbor hn q1 k⟩
structure XK (X : Cx) (kws : List Keyword) (M R I : List Nat) (t : TXC) : Prop where
  pk : PK X kws (liftC X.K M R I t)
end
end TT
namespace TT
open PySem PySem.Spec PyProof.Rows L2
variable [Cls]
section
variable {X : Cx} {a b e : Expr} {es : List Expr} {M Ma Mb R Ra Rb : List Nat} {ta tb t : TX} {u : TXA} {pos p : Pos}
def CPowW (i j : Int) : Prop := 0 ≤ j ∧ (Builtin.Int.intBits i : Int) * j ≤ 2 ^ 27
theorem op_powW : OpR X (binaryOp .Pow) (rI CPowW fun i j => .int (i ^ j.toNat)) := opI fun _ _ _ _ _ _ _ hc q => pow_int hc.1 hc.2 q
abbrev rPowI : D → D → (D → Prop) → Prop := rI2 CPowW fun i j => .int (i ^ j.toNat)
theorem o_powW : OpT X (binaryOp .Pow) rPowI := opT_I op_powW fun i j _ _ => .int _
abbrev rFdivW : D → D → (D → Prop) → Prop := rI2 CDivW fun i j => .int (i / j)
theorem o_fdivW : OpT X (binaryOp .FloorDiv) rFdivW := opT_I op_fdivW fun i j _ _ => .int _
theorem bits_le {i : Int} {k : Nat} (hk : 0 < k) (h : i.natAbs < 2 ^ k) : Builtin.Int.intBits i ≤ k := by
  have := PySem.Flt.log2_lt_of hk h
  unfold Builtin.Int.intBits
  split <;> omega
theorem powW_of {i j : Int} {k : Nat} (hk : 0 < k) (h : i.natAbs < 2 ^ k) (hj : 0 ≤ j) (hb : (k : Int) * j ≤ 2 ^ 27) : CPowW i j := by
  refine ⟨hj, Int.le_trans (Int.mul_le_mul_of_nonneg_right ?_ hj) hb⟩
  have := bits_le hk h
  omega
/-- xs * bool -/
def rRepB : D → D → (D → Prop) → Prop := fun x y Q => ∃ xs k, lstItems x = some xs ∧ y = .bl k ∧ frzL xs = xs ∧ Q (.lst true (if k = true then xs else []))
/-- xs[::-1] -/
def oRev (t : TX) : TX := fun env Q => t env fun d env1 => ∃ xs, lstItems d = some xs ∧ frzL xs = xs ∧ Q (.lst true xs.reverse) env1
theorem RepL.reverse {K : PySem.W.Frag} {Z H : Hp} : ∀ {vs : List V} {ds : List D}, RepL K Z H vs ds nF → RepL K Z H vs.reverse ds.reverse nF
  | _, _, .nil => .nil
  | _, _, .cons r t f g => by
    rw [List.reverse_cons, List.reverse_cons]
    exact (RepL.reverse (t.mono fun a z => (g a z).1)).append (.cons (G := nF) (E := nF) (r.mono fun a z => f a z) .nil (fun _ z => z.elim) fun _ z => z.elim)
/-- list(range(..)) -/
abbrev TXR := Env → (Int → Int → Env → Prop) → Prop
def gR1 (t : TX) : TXR := fun env Q => t env fun d env1 => ∃ n, d = .int n ∧ Q 0 n env1
def gR2 (ta tb : TX) : TXR := fun env Q => ta env fun d env1 => tb env1 fun e env2 => ∃ i j, d = .int i ∧ e = .int j ∧ Q i j env2
structure XR (X : Cx) (e : Expr) (M : List Nat) (t : TXR) : Prop where
  pr : ∃ tt : L2.St → Hp → (Int → Int → Hp → Prop) → Prop, PRg X e tt ∧ ∀ σ (H : Hp) (Q : Int → Int → Hp → Prop), (∃ S Qt, S.H = H ∧ SR X.K σ S ∧ t S.env Qt ∧ ∀ S' i j, Qt i j S'.env → SR X.K σ S' → Stp M S S' → Q i j S'.H) → tt σ H Q
theorem xr_1 (hg : Gl X "range") (hm : X.mg "range" = none) (ha : XX X a M R t) (na : starEach [a] X.env = (false, eval a X.env) :: starEach [] X.env := by rfl) : XR X (.Call (.Name "range" p) [a] [] pos) M (gR1 t) := ⟨_, prg_1 hg hm ha.pe na, fun σ H Q ⟨S, Qt, eH, s, q, k⟩ => by
  subst eH
  refine ⟨S, _, rfl, s, q, fun S1 x d Fx ⟨n, e1, q1⟩ s1 st1 v1 => ?_⟩
  subst e1
  exact ⟨n, v1.rep.int_inv, k S1 0 n q1 s1 st1⟩⟩
theorem xr_2 (hg : Gl X "range") (hm : X.mg "range" = none) (ha : XX X a Ma Ra ta) (hb : XX X b Mb Rb tb) (dj : Dj Ra Mb = true := by rfl) (na : starEach [a, b] X.env = (false, eval a X.env) :: starEach [b] X.env := by rfl) (nb : starEach [b] X.env = (false, eval b X.env) :: starEach [] X.env := by rfl) (np : (backTo pos (starEach [b] X.env)).any (·.1) = false := by rfl) : XR X (.Call (.Name "range" p) [a, b] [] pos) (Ma ++ Mb) (gR2 ta tb) := ⟨_, prg_2 hg hm ha.pe hb.pe na nb np, fun σ H Q ⟨S, Qt, eH, s, q, k⟩ => by
  subst eH
  refine two dj s q fun S' x d Fx y e Fy ⟨i, j, e1, e2, q1⟩ s1 st v1 v2 => ?_
  subst e1 e2
  exact ⟨i, j, v1.rep.int_inv, v2.rep.int_inv, k S' i j q1 s1 st⟩⟩
def oLR (t : TXR) : TX := fun env Q => t env fun i j env1 => RgOk i j ∧ Q (.lst true (rgD i (j - i).toNat)) env1
theorem rep_rg {K : PySem.W.Frag} {Z H : Hp} (i : Int) (n : Nat) : RepL K Z H ((List.range n).map fun k => V.int (i + (k : Nat))) (rgD i n) nF := by
  unfold rgD
  have h1 : ((List.range n).map fun k : Nat => V.int (i + (k : Nat))) = ((List.range n).map fun k : Nat => i + (k : Nat)).map V.int := by rw [List.map_map]; rfl
  have h2 : ((List.range n).map fun k : Nat => D.int (i + (k : Nat))) = ((List.range n).map fun k : Nat => i + (k : Nat)).map D.int := by rw [List.map_map]; rfl
  rw [h1, h2]
  exact .of_ints _
theorem x_listRg {r : TXR} (hc : X.calm = true) (hg : Gl X "list") (hm : X.mg "list" = none) (h : XR X e M r) (na : starEach [e] X.env = (false, eval e X.env) :: starEach [] X.env := by rfl) : XX X (.Call (.Name "list" p) [e] [] pos) M [] (oLR r) := by
  obtain ⟨tt, h1, h2⟩ := h.pr
  refine ⟨pe_imp (pe_listRg hc hg hm h1 na) fun σ H Q ⟨S, Qt, eH, s, q, k⟩ => h2 σ H _ ⟨S, _, eH, s, q, fun S1 i j ⟨ok, q1⟩ s1 st1 => ⟨ok, fun p hp => ?_⟩⟩⟩
  have f := Fr.lst (q := p) s1 hp (rep_rg (K := X.K) (Z := S1.Z) (H := S1.H) i (j - i).toNat)
  exact k ⟨_, _, S1.env, S1.F⟩ _ _ _ q1 (f.sr s1) (st1.then0 f.stp) ((f.vp s1).then0 st1)
/-- x or y by truth -/
def truD : D → Option Bool
  | .lst _ xs => some (!xs.isEmpty)
  | .kst xs => some (!xs.isEmpty)
  | .tup xs => some (!xs.isEmpty)
  | .int i => some (i != 0)
  | .bl b => some b
  | .non => some false
  | .str z => if z.length ≤ sizeLine then some ((z.length : Int) != 0) else none
  | _ => none
theorem isEmpty_len {α β : Type} {xs : List α} {ys : List β} (h : xs.length = ys.length) : xs.isEmpty = ys.isEmpty := by
  cases xs <;> cases ys <;> simp at h ⊢
theorem Rep.tru {K : PySem.W.Frag} {S : W} {σ : L2.St} {v : V} {d : D} {F : AS} {k : Bool} (s : SR K σ S) (r : Rep K S.Z S.H v d F) (h : truD d = some k) : TruV K v S.H k := by
  cases d with
  | non => obtain rfl := r.non_inv; cases h; rfl
  | bl b => obtain rfl := r.bl_inv; cases h; rfl
  | int i => obtain rfl := r.int_inv; cases h; rfl
  | str z =>
    obtain rfl := r.str_inv
    simp only [truD] at h
    split at h
    · rename_i hz; cases h; exact ⟨hz, rfl⟩
    · cases h
  | lst o xs =>
    obtain ⟨a, vs, rfl, h1, h2⟩ := r.lst_inv s.zh
    cases h
    exact .inl ⟨vs, .inl h1, by rw [isEmpty_len h2.length]⟩
  | kst xs =>
    obtain ⟨a, vs, rfl, h1, h2⟩ := r.kst_inv s.zh
    cases h
    exact .inl ⟨vs, h1, by rw [isEmpty_len h2.length]⟩
  | tup xs =>
    obtain ⟨a, vs, rfl, h1, _, h2⟩ := r.tup_inv s.zh
    cases h
    exact .inr (.inl ⟨vs, SqT.of h1, by rw [isEmpty_len h2.length]⟩)
  | _ => cases h
def oOrT (ta tb : TX) : TX := fun env Q => ta env fun x env1 => ∃ k, truD x = some k ∧ if k = true then Q x env1 else tb env1 Q
def oAndT (ta tb : TX) : TX := fun env Q => ta env fun x env1 => ∃ k, truD x = some k ∧ if k = true then tb env1 Q else Q x env1
theorem x_orT {rest : List Expr} (ha : XX X a Ma Ra ta) (hb : XX X (.BoolOp .Or (b :: rest) pos) Mb Rb tb) : XX X (.BoolOp .Or (a :: b :: rest) pos) (Ma ++ Mb) (Ra ++ Rb) (oOrT ta tb) := ⟨pe_imp (pe_orT ha.pe hb.pe) fun σ H Q ⟨S, Qt, eH, s, q, k⟩ => by
  subst eH
  refine ⟨S, _, rfl, s, q, fun S1 x d Fx ⟨c, e, q1⟩ s1 st1 v1 => ⟨c, v1.rep.tru s1 e, ?_⟩⟩
  cases c with
  | true => exact k S1 x d Fx q1 s1 (st1.mono fun _ z => List.mem_append_left _ z) (v1.mono (fun _ z => List.mem_append_left _ z) fun _ z => List.mem_append_left _ z)
  | false => exact ⟨S1, _, rfl, s1, q1, fun S2 y e Fy q2 s2 st2 v2 => k S2 y e Fy q2 s2 (st1.trans st2) ((v2.first st1).mono (fun _ z => z) fun _ z => List.mem_append_right _ z)⟩⟩
/-- a value as a test by its truth -/
def tTru (t : TX) : TXT := fun env Q => t env fun d env1 => ∃ k, truD d = some k ∧ Q k env1
end
structure StpG (A : List Nat) (Fv : AS) (σ σ' : L2.St) (S S' : W) : Prop where
  ext : Ext S.Z S.H (fun a => (∃ i, S.F i a) ∨ Fv a) S'.Z S'.H
  nf : ∀ i a, S'.F i a → (∃ j, S.F j a) ∨ Fv a ∨ S.H a = none
  sg : ∀ i, i ∉ A → σ'[i]? = σ[i]?
def GA (X : Cx) (tg : Expr) (A : List Nat) (gi : TXG) : Prop := ∃ g, PG X tg g ∧ ∀ (v : V) (d : D) (Fv : AS) (σ : L2.St) (S : W) (Q : L2.St → Hp → Prop) (Qt : Env → Prop), SR X.K σ S → Rep X.K S.Z S.H v d Fv → (∀ a, Fv a → (∃ o, S.H a = some o) ∧ S.Z a = none) → (∀ a, Fv a → ∀ i, ¬ S.F i a) → gi d S.env Qt →
  (∀ σ' S', Qt S'.env → SR X.K σ' S' → StpG A Fv σ σ' S S' → Q σ' S'.H) → g v σ S.H Q
def GAs (X : Cx) (tgs : List Expr) (A : List Nat) (gi : TXGs) : Prop := ∃ g, PGs X tgs g ∧ ∀ (vs : List V) (ds : List D) (Fv : AS) (σ : L2.St) (S : W) (Q : L2.St → Hp → Prop) (Qt : Env → Prop), SR X.K σ S → RepL X.K S.Z S.H vs ds Fv → (∀ a, Fv a → (∃ o, S.H a = some o) ∧ S.Z a = none) → (∀ a, Fv a → ∀ i, ¬ S.F i a) → gi ds S.env Qt →
  (∀ σ' S', Qt S'.env → SR X.K σ' S' → StpG A Fv σ σ' S S' → Q σ' S'.H) → g vs σ S.H Q
section
variable {X : Cx} {e tg ik : Expr} {tgs : List Expr} {A B M R : List Nat} {gi : TXG} {gsi : TXGs} {i : Nat} {x : Str} {pos p1 apos tpos : Pos} {tx tk : TX}
theorem ga_name (hN : X.N.Nodup) (hi : X.N[i]? = some x) (hx : Loc X.env.scope x) (hf : X.fn x = true ∨ X.env.scope.names.lookup x = some .local := by first | exact .inl rfl | exact .inr rfl | assumption) : GA X (.Name x pos) [i] (gNm i) :=
  ⟨_, pg_name hN hi hx hf, fun v d Fv σ S Q Qt s r tv ow q k => k _ ⟨S.Z, S.H, S.env.set i (some d), putF S.F i Fv⟩ q (s.set i r tv ow) ⟨.refl _ _ _, fun j a h => by
    have h : putF S.F i Fv j a := h
    by_cases e : j = i
    · subst e; rw [putF_same] at h; exact .inr (.inl h)
    · rw [putF_ne e] at h; exact .inl ⟨j, h⟩, fun j n => by
    have e : j ≠ i := by simpa using n
    rw [List.getElem?_set_ne (Ne.symm e)]⟩⟩
theorem gas_nil : GAs X [] [] gsNil := ⟨_, pgs_nil, fun vs ds Fv σ S Q Qt s r tv ow ⟨e, q⟩ k => by
  subst e
  cases r
  exact ⟨rfl, k σ S q s ⟨.refl _ _ _, fun i a h => .inl ⟨i, h⟩, fun _ _ => rfl⟩⟩⟩
theorem gas_cons (h : GA X tg A gi) (h2 : GAs X tgs B gsi) (hsw : (assignEach (tg :: tgs) X.env).map (·.2) = assign tg X.env :: (assignEach tgs X.env).map (·.2) := by rfl) : GAs X (tg :: tgs) (A ++ B) (gsCons gi gsi) := by
  obtain ⟨g, hg, hh⟩ := h
  obtain ⟨g2, hg2, hh2⟩ := h2
  refine ⟨_, pgs_cons hg hg2 hsw, fun vs ds Fv σ S Q Qt s r tv ow ⟨d1, ds', e, q⟩ k => ?_⟩
  subst e
  cases r with
  | cons r1 r2 f1 f2 =>
    rename_i G E v1 ws
    refine ⟨v1, ws, rfl, hh v1 d1 G σ S _ _ s r1 (fun a z => tv a (f1 a z)) (fun a z => ow a (f1 a z)) q fun σ1 S1 q1 s1 st1 => ?_⟩
    have off : ∀ a, E a → ¬ ((∃ i, S.F i a) ∨ G a) := fun a z y => y.elim (fun ⟨i, y⟩ => ow a (f2 a z).1 i y) fun y => (f2 a z).2 y
    refine hh2 ws ds' E σ1 S1 Q _ s1 (r2.ext st1.ext off) (fun a z => ?_) (fun a z i y => ?_) q1 fun σ2 S2 q2 s2 st2 => k σ2 S2 q2 s2 ⟨st1.ext.trans st2.ext (fun _ z => z.imp id (f1 _)) fun c h => ?_, fun i a h => ?_, fun i n => ?_⟩
    · obtain ⟨⟨o, e⟩, hz⟩ := tv a (f2 a z).1
      refine ⟨⟨o, st1.ext.fr0 a o e hz (off a z)⟩, ?_⟩
      cases q : S1.Z a with
      | none => rfl
      | some u =>
        rcases st1.ext.nz a u q hz with e' | e'
        · rw [e] at e'; cases e'
        · exact absurd e' (off a z)
    · rcases st1.nf i a y with h | h | h
      · exact off a z (.inl h)
      · exact (f2 a z).2 h
      · obtain ⟨⟨o, e⟩, _⟩ := tv a (f2 a z).1
        rw [e] at h; cases h
    · rcases h with ⟨i, h⟩ | h
      · rcases st1.nf i c h with h | h | h
        · exact .inl (.inl h)
        · exact .inl (.inr (f1 c h))
        · exact .inr h
      · exact .inl (.inr (f2 c h).1)
    · have none_of : S1.H a = none → S.H a = none := fun h => by
        cases q : S.H a with
        | none => rfl
        | some u =>
          obtain ⟨o', e'⟩ := st1.ext.th a u q
          rw [h] at e'; cases e'
      rcases st2.nf i a h with ⟨j, h⟩ | h | h
      · rcases st1.nf j a h with h | h | h
        · exact .inl h
        · exact .inr (.inl (f1 a h))
        · exact .inr (.inr h)
      · exact .inr (.inl (f2 a h).1)
      · exact .inr (.inr (none_of h))
    · exact (st2.sg i fun z => n (List.mem_append_right _ z)).trans (st1.sg i fun z => n (List.mem_append_left _ z))
/-- d[k] as a target, d a name's dict -/
def gPutD (i : Nat) (tk : TX) : TXG := fun d env Q => (∃ d0, env[i]? = some (some d0)) ∧ tk env fun kd env2 => env2 = env ∧ ∃ o r, env[i]? = some (some o) ∧ putX o kd d = some r ∧ Q (env.set i (some r))
theorem ga_dput (hu : X.A.units + 1 < cLine) (hx : PE X (.Name x p1) (tVar i)) (hk : XX X ik [] R tk)
    (ha : ∀ v, assign (.Subscript (.Name x p1) ik apos) X.env v = (do
      let cv1 ← holding [v] (eval (.Name x p1) X.env)
      let kv1 ← holding [v, cv1] (eval ik X.env)
      standAt apos
      holding [v, cv1, kv1] (setItem cv1 kv1 v)
      release [v, cv1, kv1] []) := by intro _; rfl) : GA X (.Subscript (.Name x p1) ik apos) [] (gPutD i tk) := ⟨_, pg_sub hx hk.pe (set_dict hu) ha, fun v d Fv σ S Q Qt s r tv ow ⟨⟨d0, e0⟩, q⟩ k => by
  obtain ⟨v0, h0, r0⟩ := s.sl i _ e0
  refine ⟨v0, h0, S, _, rfl, s, q, fun S1 kv kd Fk ⟨eenv, o, r', e1, hp, q1⟩ s1 st1 v1 => ?_⟩
  have hF : S1.F = S.F := funext fun j => (st1.frm j (by simp)).2
  have x0 : Ext S.Z S.H nF S1.Z S1.H := st1.ext.mono fun _ ⟨_, h, _⟩ => by cases h
  have tv1 : ∀ a, Fv a → (∃ o, S1.H a = some o) ∧ S1.Z a = none := fun a z => by
    obtain ⟨⟨o, e⟩, hz⟩ := tv a z
    refine ⟨⟨o, x0.fr0 a o e hz fun z => z⟩, ?_⟩
    cases q : S1.Z a with
    | none => rfl
    | some u =>
      rcases x0.nz a u q hz with e' | e'
      · rw [e] at e'; cases e'
      · exact e'.elim
  have vp : VP X.K [] [] S1 S1 v d Fv ∨ True := .inr trivial
  -- the pair of the value and this state, as a step of a name beyond all names
  obtain ⟨a, H', F', rfl, dp, s3, st3⟩ := put_dict (M := [i]) (S0 := ⟨S1.Z, S1.H, S1.env, fun j a => if j = i then S1.F i a ∨ Fv a else S1.F j a⟩) (y := v) s1
    ⟨.refl _ _ _, fun j hj => ⟨rfl, by
      have : j ≠ i := by simpa using hj
      funext a
      show S1.F j a = (if j = i then _ else _)
      rw [if_neg this]⟩, fun j a hj h => .inl ⟨i, by simp, by
      have : j = i := by simpa using hj
      subst this
      show (if j = j then _ else _)
      rw [if_pos rfl]; exact .inl h⟩⟩ h0 (by rw [eenv]; exact e1) v1.rep
    (Fy := Fv) ⟨r.ext x0 fun _ _ z => z, tv1, fun a z => .inr ⟨fun j y => ow a z j (by rw [← hF]; exact y), .inr ⟨i, by simp, by
      show (if i = i then _ else _)
      rw [if_pos rfl]; exact .inr z⟩⟩⟩ hp
  refine ⟨a, H', rfl, dp, k σ ⟨S1.Z, H', S1.env.set i (some r'), F'⟩ (by rw [eenv]; exact q1) s3 ⟨?_, fun j b h => ?_, fun _ _ => rfl⟩⟩
  · refine x0.trans st3.ext (fun _ z => z.elim) fun c ⟨j, h1, h2⟩ => .inl ?_
    have : j = i := by simpa using h1
    subst this
    have h2 : (if j = j then S1.F j c ∨ Fv c else S1.F j c) := h2
    rw [if_pos rfl] at h2
    exact h2.imp (fun h => ⟨j, by rw [← hF]; exact h⟩) id
  · rcases st3.any h with ⟨l, h⟩ | h
    · have h : (if l = i then S1.F i b ∨ Fv b else S1.F l b) := h
      by_cases e : l = i
      · rw [if_pos e] at h
        rw [← hF]
        exact h.elim (fun h => .inl ⟨i, h⟩) fun h => .inr (.inl h)
      · rw [if_neg e] at h
        exact .inl ⟨l, by rw [← hF]; exact h⟩
    · exact .inr (.inr (st1.none_of h))⟩
/-- (a, ..) = e, e any tuple -/
def gTpl (n : Nat) (g : TXGs) : TXG := fun d env Q => ∃ xs, d = .tup xs ∧ xs.length = n ∧ g xs env Q
theorem ga_tup {k n : Nat} (hc : X.calm = true) (h : GAs X tgs A gsi) (hn : (assignEach tgs X.env).length = n := by rfl) (hst : (assignEach tgs X.env).findIdx? (·.1) = none := by rfl) : GA X (.Tuple tgs k pos) A (gTpl n gsi) := by
  obtain ⟨g, hg, hh⟩ := h
  refine ⟨_, pg_tup hc hg hn hst, fun v d Fv σ S Q Qt s r tv ow ⟨xs, e, hl, q⟩ k => ?_⟩
  subst e
  obtain ⟨a, vs, rfl, h1, _, h2⟩ := r.tup_inv s.zh
  exact ⟨a, vs, rfl, SqT.of h1, by rw [h2.length]; exact hl, hh vs xs Fv σ S Q Qt s h2 tv ow q k⟩
def sAsgT (t : TX) (g : TXG) : TXS := fun D env => t env fun d env1 => g d env1 D.nx
theorem s_asgT (he : XX X e M [] tx) (hg : GA X tg A gi) (hsw : swapsWithSole [tg] e pos.line X.env = pure false := by rfl) (hw : swappedStores [tg] e X.env = pure none := by rfl)
    (h1 : (assignEach [tg] X.env).map (·.2) = [assign tg X.env] := by rfl) : XS X (.Assign [tg] e pos) A (sAsgT tx gi) := by
  obtain ⟨g, hg, hh⟩ := hg
  refine ⟨ps_imp (ps_asg he.pe hg hsw hw h1) fun D σ H ⟨S, Dt, eH, s, q, k, _⟩ => ?_⟩
  subst eH
  refine ⟨S, _, rfl, s, q, fun S1 v d Fv q1 s1 st1 v1 => ?_⟩
  have w := v1.s
  refine hh v d Fv σ S1 _ _ s1 w.rep w.tv (fun a z => (w.ow a z).1) q1 fun σ2 S2 q2 s2 st2 => k σ2 S2 q2 s2 ⟨?_, fun i a h => ?_, st2.sg⟩
  · have x1 := (st1.s (A := []) (σ := σ))
    exact x1.ext.trans st2.ext (fun _ z => z) fun c z => z.elim (fun ⟨i, h⟩ => x1.nf i c h) fun z => (w.ow c z).2.symm
  · rcases st2.nf i a h with ⟨j, h⟩ | h | h
    · exact st1.any h
    · exact (w.ow a h).2.symm
    · exact .inr (st1.none_of h)
/-- a, b, c = x, y, z -/
def sPar3 (i j l : Nat) (t : TXA) : TXS := fun D env => t env fun ds env1 => ∃ d e f, ds = [d, e, f] ∧ D.nx (((env1.set i (some d)).set j (some e)).set l (some f))
theorem s_par3 {i j l : Nat} {x y z : Str} {a b c : Expr} {px py pz pt : Pos} {kt k2 pt2} {u : TXA} (hc : X.calm = true) (hN : X.N.Nodup) (hi : X.N[i]? = some x) (hj : X.N[j]? = some y) (hl : X.N[l]? = some z) (hij : i ≠ j) (hil : i ≠ l) (hjl : j ≠ l)
    (hx : X.env.scope.names.lookup x = some .local) (hy : X.env.scope.names.lookup y = some .local) (hz : X.env.scope.names.lookup z = some .local) (ha : XL X [a, b, c] M u)
    (hw : swappedStores [.Tuple [.Name x px, .Name y py, .Name z pz] kt pt] (.Tuple [a, b, c] k2 pt2) X.env = pure (some [x, y, z]) := by rfl)
    (hsw : swapsWithSole [.Tuple [.Name x px, .Name y py, .Name z pz] kt pt] (.Tuple [a, b, c] k2 pt2) pos.line X.env = pure false := by rfl) :
    XS X (.Assign [.Tuple [.Name x px, .Name y py, .Name z pz] kt pt] (.Tuple [a, b, c] k2 pt2) pos) [i, j, l] (sPar3 i j l u) := ⟨ps_imp (ps_par3 hc hN hi hj hl hij hil hjl hx hy hz ha.pa hw hsw) fun D σ H ⟨S, Dt, eH, s, q, k, _⟩ => by
  subst eH
  refine ⟨S, _, rfl, s, q, fun S1 vs ds Fs ⟨d, e, f, ed, q1⟩ _ s1 st1 v1 => ?_⟩
  subst ed
  obtain ⟨v, w, y, rfl, G, E, L, r1, r2, r3, g1, g2, g3⟩ : ∃ v w y, vs = [v, w, y] ∧ ∃ G E L : AS, Rep X.K S1.Z S1.H v d G ∧ Rep X.K S1.Z S1.H w e E ∧ Rep X.K S1.Z S1.H y f L ∧ (∀ a, G a → Fs a) ∧ (∀ a, E a → Fs a ∧ ¬ G a) ∧ ∀ a, L a → Fs a ∧ ¬ G a ∧ ¬ E a := by
    cases v1.rep with
    | cons r t f g =>
      cases t with
      | cons r' t' f' g' =>
        cases t' with
        | cons r'' t'' f'' g'' =>
          cases t''
          exact ⟨_, _, _, rfl, _, _, _, r, r', r'', f, fun a z => g a (f' a z), fun a z => ⟨(g a (g' a (f'' a z)).1).1, (g a (g' a (f'' a z)).1).2, (g' a (f'' a z)).2⟩⟩
  refine ⟨v, w, y, rfl, ?_⟩
  have s2 := s1.set i r1 (fun a z => v1.tv a (g1 a z)) fun a z => (v1.ow a (g1 a z)).1
  have s3 := s2.set j r2 (fun a z => v1.tv a (g2 a z).1) fun a z k => by
    show ¬ putF S1.F i G k a
    by_cases hk : k = i
    · subst hk; rw [putF_same]; exact (g2 a z).2
    · rw [putF_ne hk]; exact (v1.ow a (g2 a z).1).1 k
  have s4 := s3.set l r3 (fun a z => v1.tv a (g3 a z).1) fun a z k => by
    show ¬ putF (putF S1.F i G) j E k a
    by_cases hk : k = j
    · subst hk; rw [putF_same]; exact (g3 a z).2.2
    · rw [putF_ne hk]
      by_cases hk2 : k = i
      · subst hk2; rw [putF_same]; exact (g3 a z).2.1
      · rw [putF_ne hk2]; exact (v1.ow a (g3 a z).1).1 k
  have ow : ∀ a, Fs a → S.H a = none ∨ ∃ i, S.F i a := fun a z => (v1.ow a z).2.imp id fun ⟨i, _, h⟩ => ⟨i, h⟩
  refine k _ ⟨S1.Z, S1.H, ((S1.env.set i (some d)).set j (some e)).set l (some f), putF (putF (putF S1.F i G) j E) l L⟩ q1 s4 ⟨(st1.s (A := []) (σ := σ)).ext, fun k a h => ?_, fun k n => ?_⟩
  · have h : putF (putF (putF S1.F i G) j E) l L k a := h
    by_cases hk0 : k = l
    · subst hk0; rw [putF_same] at h; exact (ow a (g3 a h).1).symm
    rw [putF_ne hk0] at h
    by_cases hk : k = j
    · subst hk; rw [putF_same] at h; exact (ow a (g2 a h).1).symm
    · rw [putF_ne hk] at h
      by_cases hk2 : k = i
      · subst hk2; rw [putF_same] at h; exact (ow a (g1 a h)).symm
      · rw [putF_ne hk2] at h; exact st1.any h
  · have n1 : k ≠ i := fun z => n (by simp [z])
    have n2 : k ≠ j := fun z => n (by simp [z])
    have n3 : k ≠ l := fun z => n (by simp [z])
    rw [List.getElem?_set_ne (Ne.symm n3), List.getElem?_set_ne (Ne.symm n2), List.getElem?_set_ne (Ne.symm n1)]⟩
end
end TT
namespace TT
open PySem PySem.Spec PyProof.Rows L2
variable [Cls]
section
variable {X : Cx} {e e2 : Expr} {es elts : List Expr} {M Ma Mb R Ra Rb : List Nat} {tx : TX} {pos p tpos : Pos} {kk0 : Nat}
def enumL (k : Int) : List D → List D
  | [] => []
  | d :: r => .tup [.int k, d] :: enumL (k + 1) r
def iEn (t : TX) : TXI := fun env Q => t env fun d env1 => ∃ xs, lstItems d = some xs ∧ Q (enumL 0 (frzL xs)) env1
end
/-- the def named x stands and keeps its promise -/
def FnAt (P : Program) (w : World) (K : PySem.W.Frag) (mg : Str → Option Value) (base : Heap) (x : Str) (k : Nat) (ps : List Str) (sp : TX) : Prop :=
  ∃ f fd, FnOk P w K mg base CX0 k f fd ps (liftSp K ps.length sp) ∧ mg x = some (.ref f) ∧ PySem.W.keepIn K (.ref f) = true ∧ Binds K fd ps []
section
variable {X : Cx} {ps ks : List Str} {kk : Nat} {sp : TX} {u u2 : TXC} {e : Expr} {es : List Expr} {M R I M2 R2' I2 : List Nat} {x : Str} {p pos : Pos} {kws : List Keyword}
theorem x_fn (bor : Bool) (F : FnAt X.prog X.w X.K X.mg X.base x kk ps sp) (hr : Room kk X.A) (hg : Gl X x)
    (ha : XC X (e :: es) M R I u) (nd : I.Nodup := by decide) (dj : Dj R I = true := by rfl) (hbor : bor = true ∨ R = [] := by first | exact .inl rfl | exact .inr rfl)
    (hdbg : (x == ("__debug__" : Str)) = false := by decide) (he : starEach (e :: es) X.env = (false, eval e X.env) :: starEach es X.env := by rfl) (hpln : (backTo pos (starEach es X.env)).any (·.1) = false := by rfl) :
    XX X (.Call (.Name x p) (e :: es) [] pos) (M ++ I) [] (oFn sp ps.length bor u) := by
  obtain ⟨f, fd, h1, h2, h3, h4⟩ := F
  exact x_call bor h1 hr hg h2 h3 h4 ha nd dj hbor hdbg he hpln
def oFnK (sp : TX) (n m : Nat) (bor : Bool) (u u2 : TXC) : TX := fun env Q => u env fun as env1 => as.length = n ∧ u2 env1 fun bs env2 => bs.length = m ∧ sp (given env2 (as ++ bs)) fun r fe => (bor = true → r.nf = true ∧ nfE fe = true) ∧ Q r (taken env2 (as ++ bs) fe)
end
/-- the law's promise: of a script it hands back True -/
def spLaw : TX := fun env Q => ∃ ns : List Int, env = [some (.kst (ns.map D.int))] ∧ ns.length ≤ 63 ∧ ∀ fe, Q (.bl true) fe
theorem memA : ∀ {l : List (Addr × Str)} {a : Addr} {q : Str}, l.lookup a = some q → (a, q) ∈ l
  | [], _, _, h => by cases h
  | (b, r) :: l, a, q, h => by
    rw [List.lookup_cons] at h
    cases e : a == b with
    | true =>
      rw [e] at h
      cases h
      have : a = b := by simpa using e
      subst this
      exact List.mem_cons_self
    | false => rw [e] at h; exact List.mem_cons_of_mem _ (memA h)
/-- the tables are marked -/
def tbZ (H : Hp) : Hp := fun b => match Cls.tb.lookup b with
  | some q => some (mkT q)
  | none => H b
theorem law_sp {K : PySem.W.Frag} {H : Hp} {a : Addr} {ns : List Int} (ht : ∀ p, p ∈ Cls.tb → H p.1 = some (.tbl #[]) ∧ Cls.tb.lookup p.1 = some p.2) (hl : ns.length ≤ 63) (hs : SqL K H a (ns.map V.int)) : liftSp K 1 spLaw [.ref a] H (fun v _ => v = .bl true) (fun _ _ _ => False) := by
  have tk : ∀ b o, H b = some o → (∀ ps, o ≠ .tbl ps) → tbZ H b = some o := fun b o h n => by
    unfold tbZ
    cases q : Cls.tb.lookup b with
    | none => exact h
    | some w =>
      have := (ht (b, w) (memA q)).1
      rw [h] at this
      exact absurd (Option.some.inj this) (n _)
  have zh : ZH (tbZ H) H := fun b o h => by
    unfold tbZ at h
    cases q : Cls.tb.lookup b with
    | none => rw [q] at h; exact .inl h
    | some w =>
      rw [q] at h
      cases h
      exact .inr (.inr ⟨w, #[], rfl, (ht (b, w) (memA q)).1, memA q, trivial, fun pos cv e => by simp [codeAmong] at e⟩)
  have hs' : SqL K (tbZ H) a (ns.map V.int) := by
    rcases hs with (h | ⟨o, h⟩) | h
    · exact .inl (.inl (tk _ _ h fun _ z => by cases z))
    · exact .inl (.inr ⟨o, tk _ _ h fun _ z => by cases z⟩)
    · exact .inr h
  refine ⟨rfl, ⟨tbZ H, H, [some (.kst (ns.map D.int))], fun _ => nF⟩, fun d _ => d = .bl true, rfl, ⟨zh, fun i d e => ?_, fun i j b z => z.elim, fun i b z => z.elim, rfl, fun p hp => ?_⟩, ⟨ns, rfl, hl, fun _ => rfl⟩, fun S' v d Fv q _ _ v1 _ => ?_⟩
  · cases i with
    | zero =>
      cases e
      exact ⟨.ref a, rfl, .kst hs' (.of_ints ns)⟩
    | succ i => cases e
  · show tbZ H p.1 = some (mkT p.2)
    unfold tbZ
    rw [(ht p hp).2]
  · subst q
    exact v1.rep.bl_inv
end TT
namespace TT
open PySem PySem.Spec PyProof.Rows L2
variable [Cls]
theorem hu65 {k : Nat} {A : Around} (h : Room k A) : A.units + 65 < cLine := by have := h.un; omega
abbrev VC (io : List Nat) (N ps : List Str) (sp : TX) (tb : TXS) : Prop := ∀ (env : Env) (Qt : D → Env → Prop), env.length = ps.length → sp env Qt → tb { nx := fun e => Qt .non (fin io ps.length e), rt := fun r e => Qt r (fin io ps.length e) } (begin N ps env)
end TT
namespace TT
open PySem PySem.Spec PyProof.Rows L2
variable [Cls]
section frz
@[simp] theorem frz_non : D.non.frz = .non := by rw [D.frz]
@[simp] theorem frz_bl (b) : (D.bl b).frz = .bl b := by rw [D.frz]
@[simp] theorem frz_int (b) : (D.int b).frz = .int b := by rw [D.frz]
@[simp] theorem frz_str (b) : (D.str b).frz = .str b := by rw [D.frz]
@[simp] theorem frz_tup (xs) : (D.tup xs).frz = .tup (xs.map D.frz) := by rw [D.frz, frzL_map]
@[simp] theorem frz_lst (o xs) : (D.lst o xs).frz = .lst false (xs.map D.frz) := by rw [D.frz, frzL_map]
@[simp] theorem frz_kst (xs) : (D.kst xs).frz = .kst (xs.map D.frz) := by rw [D.frz, frzL_map]
@[simp] theorem frz_dct (o kvs) : (D.dct o kvs).frz = .dct false (kvs.map fun p => (p.1, p.2.frz)) := by rw [D.frz, frzK_map]
@[simp] theorem frz_dtt (o kvs) : (D.dtt o kvs).frz = .dtt false (kvs.map fun p => (p.1, p.2.frz)) := by rw [D.frz, frzT_map]
@[simp] theorem map_frz_int : ∀ ns : List Int, (ns.map D.int).map D.frz = ns.map D.int
  | [] => rfl
  | n :: r => by rw [List.map_cons, List.map_cons, map_frz_int r, frz_int]
@[simp] theorem comp_frz_int : D.frz ∘ D.int = D.int := funext frz_int
@[simp] theorem comp_frz_bl : D.frz ∘ D.bl = D.bl := funext frz_bl
theorem rgD_map (lo : Int) (n : Nat) : rgD lo n = ((List.range n).map fun i => lo + (i : Nat)).map D.int := by unfold rgD; rw [List.map_map]; rfl
@[simp] theorem frz_rgD (lo : Int) (n : Nat) : (rgD lo n).map D.frz = rgD lo n := by rw [rgD_map, map_frz_int]
/-- rows of ints, as tuples -/
def rowD (r : List Int) : D := .tup (r.map D.int)
@[simp] theorem frz_rowD (r : List Int) : (rowD r).frz = rowD r := by unfold rowD; rw [frz_tup, map_frz_int]
@[simp] theorem comp_frz_rowD : D.frz ∘ rowD = rowD := funext frz_rowD
@[simp] theorem map_frz_rowD (rs : List (List Int)) : (rs.map rowD).map D.frz = rs.map rowD := by rw [List.map_map, comp_frz_rowD]
end frz
section nf
@[simp] theorem nf_non : D.non.nf = true := by rw [D.nf] <;> intros <;> contradiction
@[simp] theorem nf_bl (b) : (D.bl b).nf = true := by rw [D.nf] <;> intros <;> contradiction
@[simp] theorem nf_int (b) : (D.int b).nf = true := by rw [D.nf] <;> intros <;> contradiction
@[simp] theorem nf_str (b) : (D.str b).nf = true := by rw [D.nf] <;> intros <;> contradiction
@[simp] theorem nf_tup (xs) : (D.tup xs).nf = xs.all D.nf := by rw [D.nf, nfL_all]
@[simp] theorem nf_lst (o xs) : (D.lst o xs).nf = (o && xs.all D.nf) := by rw [D.nf, nfL_all]
@[simp] theorem all_nf_int (ns : List Int) : (ns.map D.int).all D.nf = true := by simp
@[simp] theorem nf_rowD (r : List Int) : (rowD r).nf = true := by unfold rowD; simp
@[simp] theorem nfE_nil : nfE [] = true := rfl
@[simp] theorem nfE_none (e : Env) : nfE (none :: e) = nfE e := rfl
@[simp] theorem nfE_some (d : D) (e : Env) : nfE (some d :: e) = (d.nf && nfE e) := rfl
end nf
def blQ (d : D) (P : Bool → Prop) : Prop := ∃ b, d = .bl b ∧ P b
@[simp] theorem blQ_bl (b : Bool) (P : Bool → Prop) : blQ (.bl b) P = P b := by
  refine propext ⟨?_, fun h => ⟨b, rfl, h⟩⟩
  rintro ⟨c, h, p⟩
  cases h
  exact p
def int2Q (ds : List D) (P : Int → Int → Prop) : Prop := ∃ i j, ds = [.int i, .int j] ∧ P i j
@[simp] theorem int2Q_eq (i j : Int) (P : Int → Int → Prop) : int2Q [.int i, .int j] P = P i j := by
  refine propext ⟨?_, fun h => ⟨i, j, rfl, h⟩⟩
  rintro ⟨a, b, h, p⟩
  cases h
  exact p
def two_ (ds : List D) (P : D → D → Prop) : Prop := ∃ i j, ds = [i, j] ∧ P i j
@[simp] theorem two_eq (i j : D) (P : D → D → Prop) : two_ [i, j] P = P i j := by
  refine propext ⟨?_, fun h => ⟨i, j, rfl, h⟩⟩
  rintro ⟨a, b, h, p⟩
  cases h
  exact p
def three_ (ds : List D) (P : D → D → D → Prop) : Prop := ∃ i j k, ds = [i, j, k] ∧ P i j k
@[simp] theorem three_eq (i j k : D) (P : D → D → D → Prop) : three_ [i, j, k] P = P i j k := by
  refine propext ⟨?_, fun h => ⟨i, j, k, rfl, h⟩⟩
  rintro ⟨a, b, c, h, p⟩
  cases h
  exact p
def cons_ (ds : List D) (P : D → List D → Prop) : Prop := ∃ i j, ds = i :: j ∧ P i j
@[simp] theorem cons_eq (i : D) (j : List D) (P : D → List D → Prop) : cons_ (i :: j) P = P i j := by
  refine propext ⟨?_, fun h => ⟨i, j, rfl, h⟩⟩
  rintro ⟨a, b, h, p⟩
  cases h
  exact p
def truQ (d : D) (P : Bool → Prop) : Prop := ∃ k, truD d = some k ∧ P k
theorem truQ_of {d : D} {b : Bool} (h : truD d = some b) (P : Bool → Prop) : truQ d P = P b := by
  refine propext ⟨?_, fun p => ⟨b, h, p⟩⟩
  rintro ⟨c, e, p⟩
  rw [h] at e
  cases e
  exact p
@[simp] theorem truQ_bl (b : Bool) (P : Bool → Prop) : truQ (.bl b) P = P b := truQ_of rfl P
@[simp] theorem truQ_int (i : Int) (P : Bool → Prop) : truQ (.int i) P = P (i != 0) := truQ_of rfl P
@[simp] theorem truQ_lst (o : Bool) (xs : List D) (P : Bool → Prop) : truQ (.lst o xs) P = P (!xs.isEmpty) := truQ_of rfl P
@[simp] theorem truQ_kst (xs : List D) (P : Bool → Prop) : truQ (.kst xs) P = P (!xs.isEmpty) := truQ_of rfl P
@[simp] theorem truQ_tup (xs : List D) (P : Bool → Prop) : truQ (.tup xs) P = P (!xs.isEmpty) := truQ_of rfl P
@[simp] theorem truQ_non (P : Bool → Prop) : truQ .non P = P false := truQ_of rfl P
def isLst : D → Bool
  | .lst _ _ => true
  | _ => false
@[simp] theorem isLst_lst (o : Bool) (xs : List D) : isLst (.lst o xs) = true := rfl
section read
variable {env : Env} {Q : D → Env → Prop} {D0 : TEnds} {i j n : Nat} {ta tb tc : TX} {rt rt' : D → D → (D → Prop) → Prop} {c c' : TXT} {u u2 : TXA} {cu cu2 : TXC} {QA : List D → Env → Prop} {QB : Bool → Env → Prop} {QP : D → Prop}
@[simp ↓] theorem r_vImm : vImm i env Q = ∃ d, env[i]? = some (some d) ∧ d.frz = d ∧ Q d env := rfl
@[simp ↓] theorem r_vView : vView i env Q = ∃ d, env[i]? = some (some d) ∧ Q d env := rfl
@[simp ↓] theorem r_vFrz : vFrz i env Q = ∃ d, env[i]? = some (some d) ∧ Q d.frz (env.set i (some d.frz)) := rfl
@[simp ↓] theorem r_vMove : vMove i env Q = ∃ d, env[i]? = some (some d) ∧ Q d (env.set i none) := rfl
@[simp ↓] theorem r_cD {d : D} : cD d env Q = Q d env := rfl
@[simp ↓] theorem r_oOp : oOp rt ta tb env Q = ta env fun d env1 => tb env1 fun e env2 => rt d e fun r => Q r env2 := rfl
@[simp ↓] theorem r_oUn {ut : D → (D → Prop) → Prop} : oUn ut ta env Q = ta env fun d env1 => ut d fun r => Q r env1 := rfl
@[simp ↓] theorem r_tBl : tBl ta env QB = ta env fun d env1 => blQ d fun b => QB b env1 := rfl
@[simp ↓] theorem r_tNotT : tNotT c env QB = c env fun b env1 => QB (!b) env1 := rfl
@[simp ↓] theorem r_tAndT : tAndT c c' env QB = c env fun b env1 => if b = true then c' env1 QB else QB false env1 := rfl
@[simp ↓] theorem r_tOrT : tOrT c c' env QB = c env fun b env1 => if b = true then QB true env1 else c' env1 QB := rfl
@[simp ↓] theorem r_oAnd : oAnd ta tb env Q = ta env fun x env1 => blQ x fun c => if c = true then tb env1 Q else Q (.bl false) env1 := rfl
@[simp ↓] theorem r_oOr : oOr ta tb env Q = ta env fun x env1 => blQ x fun c => if c = true then Q (.bl true) env1 else tb env1 Q := rfl
@[simp ↓] theorem r_oOrT : oOrT ta tb env Q = ta env fun x env1 => truQ x fun k => if k = true then Q x env1 else tb env1 Q := rfl
@[simp ↓] theorem r_oAndT : oAndT ta tb env Q = ta env fun x env1 => truQ x fun k => if k = true then tb env1 Q else Q x env1 := rfl
@[simp ↓] theorem r_tTru : tTru ta env QB = ta env fun x env1 => truQ x fun k => QB k env1 := rfl
@[simp ↓] theorem r_oNot : oNot ta env Q = ta env fun x env1 => blQ x fun c => Q (.bl (!c)) env1 := rfl
@[simp ↓] theorem r_oIf : oIf c ta tb env Q = c env fun b env1 => if b = true then ta env1 Q else tb env1 Q := rfl
@[simp ↓] theorem r_oChain : oChain rt rt' ta tb tc env Q = ta env fun x env1 => tb env1 fun y env2 => rt x y fun z => blQ z fun k => if k = true then tc env2 fun w env3 => rt' y w fun z' => Q z' env3 else Q (.bl false) env2 := rfl
@[simp ↓] theorem r_oImm : oImm ta env Q = ta env fun d env1 => d.frz = d ∧ Q d env1 := rfl
@[simp ↓] theorem r_aNil : aNil env QA = QA [] env := rfl
@[simp ↓] theorem r_aCons : aCons ta u env QA = ta env fun d env1 => u env1 fun ds env2 => QA (d :: ds) env2 := rfl
@[simp ↓] theorem r_oLst : oLst u env Q = u env fun ds env1 => Q (.lst true ds) env1 := rfl
@[simp ↓] theorem r_oTup : oTup u env Q = u env fun ds env1 => Q (.tup ds) env1 := rfl
@[simp ↓] theorem r_oCall {rt : List D → (D → Prop) → Prop} : oCall rt u env Q = u env fun ds env1 => rt ds fun r => Q r env1 := rfl
@[simp ↓] theorem r_oIx : oIx ta tb env Q = ta env fun d env1 => tb env1 fun k env2 => ∃ r, getIx d k = some r ∧ Q r env2 := rfl
@[simp ↓] theorem r_oDGet : oDGet ta tb env Q = ta env fun d env1 => tb env1 fun k env2 => ∃ r, dget d k = some (some r) ∧ Q r env2 := rfl
@[simp ↓] theorem r_sNext : sNext D0 env = D0.nx env := rfl
@[simp ↓] theorem r_sSeq {t v : TXS} : sSeq t v D0 env = t { D0 with nx := v D0 } env := rfl
@[simp ↓] theorem r_sSet : sSet i ta D0 env = ta env fun d env1 => D0.nx (env1.set i (some d)) := rfl
@[simp ↓] theorem r_sRet : sRet ta D0 env = ta env fun d env1 => D0.rt d env1 := rfl
@[simp ↓] theorem r_sExpr : sExpr ta D0 env = ta env fun _ env1 => D0.nx env1 := rfl
@[simp ↓] theorem r_sIf {t v : TXS} : sIf c t v D0 env = c env fun b env1 => if b = true then t D0 env1 else v D0 env1 := rfl
@[simp ↓] theorem r_sAug : sAug i ta rt D0 env = ∃ d0, env[i]? = some (some d0) ∧ d0.frz = d0 ∧ ta env fun d env1 => rt d0 d fun r => D0.nx (env1.set i (some r)) := rfl
@[simp ↓] theorem r_oFn {sp : TX} {b : Bool} : oFn sp n b cu env Q = cu env fun as env1 => as.length = n ∧ sp (given env1 as) fun r fe => (b = true → r.nf = true ∧ nfE fe = true) ∧ Q r (taken env1 as fe) := rfl
@[simp ↓] theorem r_cNil {QC : List Arg → Env → Prop} : cNil env QC = QC [] env := rfl
@[simp ↓] theorem r_cVal {QC : List Arg → Env → Prop} : cVal ta cu env QC = ta env fun d env1 => cu env1 fun as env2 => QC (.inl d :: as) env2 := rfl
@[simp ↓] theorem r_cIo {QC : List Arg → Env → Prop} : cIo i cu env QC = ((∃ d, env[i]? = some (some d)) ∧ cu env fun as env2 => QC (.inr i :: as) env2) := rfl
@[simp ↓] theorem r_oFnK {sp : TX} {m : Nat} {b : Bool} : oFnK sp n m b cu cu2 env Q = cu env fun as env1 => as.length = n ∧ cu2 env1 fun bs env2 => bs.length = m ∧ sp (given env2 (as ++ bs)) fun r fe => (b = true → r.nf = true ∧ nfE fe = true) ∧ Q r (taken env2 (as ++ bs) fe) := rfl
@[simp] theorem g_nil : given env [] = [] := rfl
@[simp] theorem g_inl {d : D} {as : List Arg} : given env (.inl d :: as) = some d.frz :: given env as := rfl
@[simp] theorem g_inr {as : List Arg} : given env (.inr i :: as) = (env[i]?).join :: given env as := rfl
@[simp] theorem t_nil {fe : Env} : taken env [] fe = env := by cases fe <;> rfl
theorem t_emp {as : List Arg} : taken env as [] = env := by
  match as with
  | [] => rfl
  | .inl _ :: _ => rfl
  | .inr _ :: _ => rfl
@[simp] theorem t_inl {d : D} {as : List Arg} {fe : Env} : taken env (.inl d :: as) fe = taken env as fe.tail := by
  cases fe with
  | nil => rw [List.tail_nil, t_emp, t_emp]
  | cons o r => rfl
@[simp] theorem t_inr {as : List Arg} {o} {fe : Env} : taken env (.inr i :: as) (o :: fe) = taken (env.set i o) as fe := rfl
@[simp] theorem r_rI2 {C : Int → Int → Prop} {g : Int → Int → D} {x y : D} : rI2 C g x y QP = ∃ i j, x = .int i ∧ y = .int j ∧ C i j ∧ QP (g i j) := rfl
@[simp] theorem r_rI2' {g : Int → Int → D} {x y : D} : rI2' g x y QP = ∃ i j, x = .int i ∧ y = .int j ∧ QP (g i j) := rfl
@[simp] theorem r_rU1 {g : Int → D} {x : D} : rU1 g x QP = ∃ i, x = .int i ∧ QP (g i) := rfl
@[simp] theorem r_r1 {g : D → (D → Prop) → Prop} {ds : List D} : r1 g ds QP = ∃ d, ds = [d] ∧ g d QP := rfl
@[simp] theorem r_gLen {ds : List D} : gLen ds QP = ∃ d, ds = [d] ∧ ∃ n, lenD d = some n ∧ QP (.int n) := rfl
@[simp] theorem r_gInt {ds : List D} : gInt ds QP = ∃ d, ds = [d] ∧ ∃ n, intD d = some n ∧ QP (.int n) := rfl
@[simp] theorem r_gAbs {ds : List D} : gAbs ds QP = ∃ d, ds = [d] ∧ ∃ i, d = .int i ∧ QP (.int (if i < 0 then -i else i)) := rfl
@[simp] theorem r_gTuple {ds : List D} : gTuple ds QP = ∃ d, ds = [d] ∧ ∃ xs, itemsD d = some xs ∧ frzL xs = xs ∧ QP (.tup xs) := rfl
@[simp] theorem r_gList {ds : List D} : gList ds QP = ∃ d, ds = [d] ∧ ∃ xs, itemsD d = some xs ∧ frzL xs = xs ∧ QP (.lst true xs) := rfl
@[simp] theorem r_gMin2 {ds : List D} : gMin2 ds QP = int2Q ds fun i j => QP (.int (if j < i then j else i)) := rfl
@[simp] theorem r_gMax2 {ds : List D} : gMax2 ds QP = int2Q ds fun i j => QP (.int (if j > i then j else i)) := rfl
@[simp] theorem r_gAny {ds : List D} : gAny ds QP = ∃ d, ds = [d] ∧ ∃ (o : Bool) (ns : List Bool), d = .lst o (ns.map D.bl) ∧ QP (.bl (ns.any id)) := rfl
@[simp] theorem r_gAll {ds : List D} : gAll ds QP = ∃ d, ds = [d] ∧ ∃ (o : Bool) (ns : List Bool), d = .lst o (ns.map D.bl) ∧ QP (.bl (ns.all id)) := rfl
@[simp] theorem len_lst {o xs} : lenD (.lst o xs) = some (xs.length : Int) := rfl
@[simp] theorem len_kst {xs} : lenD (.kst xs) = some (xs.length : Int) := rfl
@[simp] theorem len_tup {xs} : lenD (.tup xs) = some (xs.length : Int) := rfl
@[simp] theorem len_rowD {r} : lenD (rowD r) = some (r.length : Int) := by unfold rowD; simp
@[simp] theorem int_int {i : Int} : intD (.int i) = some i := rfl
@[simp] theorem items_lst {o xs} : itemsD (.lst o xs) = some xs := rfl
@[simp] theorem items_tup {xs} : itemsD (.tup xs) = some xs := rfl
@[simp] theorem items_kst {xs} : itemsD (.kst xs) = some xs := rfl
@[simp] theorem li_lst {o xs} : lstItems (.lst o xs) = some xs := rfl
@[simp] theorem li_kst {xs} : lstItems (.kst xs) = some xs := rfl
variable {QI : List D → Env → Prop}
@[simp ↓] theorem r_iL : iL ta env QI = ta env fun d env1 => ∃ xs, lstItems d = some xs ∧ QI (frzL xs) env1 := rfl
@[simp ↓] theorem r_iT : iT ta env QI = ta env fun d env1 => ∃ xs, d = .tup xs ∧ QI (frzL xs) env1 := rfl
@[simp ↓] theorem r_iEn : iEn ta env QI = ta env fun d env1 => ∃ xs, lstItems d = some xs ∧ QI (enumL 0 (frzL xs)) env1 := rfl
@[simp ↓] theorem r_iR1 : iR1 u env QI = u env fun ds env1 => ∃ j : Int, ds = [.int j] ∧ -(2 ^ 62) ≤ j ∧ j < 2 ^ 62 ∧ QI (rgD 0 j.toNat) env1 := rfl
@[simp ↓] theorem r_iR2 : iR2 u env QI = u env fun ds env1 => int2Q ds fun i j => (-(2 ^ 62) ≤ i ∧ i < 2 ^ 62 ∧ -(2 ^ 62) ≤ j ∧ j < 2 ^ 62) ∧ QI (rgD i (j - i).toNat) env1 := rfl
@[simp ↓] theorem r_sFor {ti : TXI} {gi : TXG} {t : TXS} : sFor ti gi t D0 env = ti env fun items env1 => forL gi t D0 items env1 := rfl
@[simp ↓] theorem r_oComp {ti : TXI} {gi : TXG} {vs : List Nat} : oComp ti gi c ta vs env Q = ti env fun items env1 => items.length ≤ sizeLine ∧ compL gi c ta vs items (wipeE env1 vs) [] fun acc env2 => Q (.lst true acc) env2 := rfl
@[simp ↓] theorem r_tYesT : tYesT env QB = QB true env := rfl
variable {QG : Env → Prop} {d : D} {ds : List D} {g : TXG} {gs : TXGs}
@[simp ↓] theorem r_gNm : gNm i d env QG = QG (env.set i (some d)) := rfl
@[simp ↓] theorem r_gTp : gTp n gs d env QG = ∃ xs, d = .tup xs ∧ xs.length = n ∧ gs xs env QG := rfl
@[simp ↓] theorem r_gTpl : gTpl n gs d env QG = ∃ xs, d = .tup xs ∧ xs.length = n ∧ gs xs env QG := rfl
@[simp ↓] theorem r_gsNil : gsNil ds env QG = (ds = [] ∧ QG env) := rfl
@[simp ↓] theorem r_gsCons : gsCons g gs ds env QG = cons_ ds fun d ds' => g d env fun env1 => gs ds' env1 QG := rfl
@[simp ↓] theorem r_gPutD : gPutD i ta d env QG = ((∃ d0, env[i]? = some (some d0)) ∧ ta env fun kd env2 => env2 = env ∧ ∃ o r, env[i]? = some (some o) ∧ putX o kd d = some r ∧ QG (env.set i (some r))) := rfl
@[simp ↓] theorem r_sAsgT : sAsgT ta g D0 env = ta env fun d env1 => g d env1 D0.nx := rfl
@[simp ↓] theorem r_sPar : sPar i j u D0 env = u env fun ds env1 => two_ ds fun d e => D0.nx ((env1.set i (some d)).set j (some e)) := rfl
@[simp ↓] theorem r_sPar3 {l : Nat} : sPar3 i j l u D0 env = u env fun ds env1 => three_ ds fun d e f => D0.nx (((env1.set i (some d)).set j (some e)).set l (some f)) := rfl
@[simp ↓] theorem r_sPutD : sPutD i ta tb D0 env = ta env fun d env1 => (∃ d0, env1[i]? = some (some d0)) ∧ tb env1 fun kd env2 => ∃ o r, env2[i]? = some (some o) ∧ putX o kd d = some r ∧ D0.nx (env2.set i (some r)) := rfl
@[simp ↓] theorem r_sSetL : sSetL i ta tb D0 env = ta env fun d env1 => (∃ d0, env1[i]? = some (some d0)) ∧ tb env1 fun kd env2 => ∃ xs n j, kd = .int n ∧ env2[i]? = some (some (.lst true xs)) ∧ ixN xs.length n = some j ∧ D0.nx (env2.set i (some (.lst true (xs.set j d)))) := rfl
@[simp ↓] theorem r_oApp : oApp i ta env Q = ((∃ d0, env[i]? = some (some d0) ∧ isLst d0 = true) ∧ ta env fun d env1 => ∃ xs, env1[i]? = some (some (.lst true xs)) ∧ xs.length < sizeLine ∧ Q .non (env1.set i (some (.lst true (xs ++ [d]))))) := by
  refine congr (congrArg And (propext ⟨?_, ?_⟩)) rfl
  · rintro ⟨o, xs, h⟩
    exact ⟨_, h, rfl⟩
  · rintro ⟨d0, h, e⟩
    cases d0 with
    | lst o xs => exact ⟨o, xs, h⟩
    | _ => cases e
@[simp ↓] theorem r_oSl {tl th : TXO} : oSl ta tl th env Q = ta env fun d env1 => tl env1 fun lo env2 => th env2 fun hi env3 => ∃ xs, lstItems d = some xs ∧ frzL (cutL xs lo hi) = cutL xs lo hi ∧ Q (.lst true (cutL xs lo hi)) env3 := rfl
@[simp ↓] theorem r_pNone {QO : Option Int → Env → Prop} : pNone env QO = QO none env := rfl
@[simp ↓] theorem r_pSome {QO : Option Int → Env → Prop} : pSome ta env QO = ta env fun d env1 => ∃ i, d = .int i ∧ QO (some i) env1 := rfl
@[simp ↓] theorem r_oDisp {t : TXP} : oDisp t env Q = t env fun kvs env1 => (kvs.map (·.1)).Nodup ∧ Q (.dct true kvs) env1 := rfl
@[simp ↓] theorem r_dNil {QX : List (Key × D) → Env → Prop} : dNil env QX = QX [] env := rfl
@[simp ↓] theorem r_dCons {t : TXP} {QX : List (Key × D) → Env → Prop} : dCons ta tb t env QX = ta env fun kd env1 => tb env1 fun d env2 => t env2 fun kvs env3 => ∃ k, keyD kd = some k ∧ QX ((k, d) :: kvs) env3 := rfl
@[simp ↓] theorem r_oDIn {neg : Bool} : oDIn neg ta tb env Q = ta env fun k env1 => tb env1 fun d env2 => ∃ o, dget d k = some o ∧ Q (.bl (if neg then !o.isSome else o.isSome)) env2 := rfl
@[simp] theorem cat_lsts {o o' : Bool} {xs ys : List D} : rCatT (.lst o xs) (.lst o' ys) QP = (frzL xs = xs ∧ frzL ys = ys ∧ xs.length + ys.length ≤ sizeLine ∧ QP (.lst true (xs ++ ys))) := by
  refine propext ⟨?_, fun h => ⟨o, xs, o', ys, rfl, rfl, h⟩⟩
  rintro ⟨_, _, _, _, e, e', h⟩
  cases e
  cases e'
  exact h
@[simp ↓] theorem r_rRepT {x y : D} : rRepT x y QP = ∃ xs k, x = .lst true xs ∧ y = .int k ∧ frzL xs = xs ∧ -(2 ^ 63) ≤ k ∧ k < 2 ^ 63 ∧ xs.length * k.toNat ≤ sizeLine ∧ QP (.lst true (List.replicate k.toNat xs).flatten) := rfl
@[simp ↓] theorem r_rRepB {x y : D} : rRepB x y QP = blQ y fun k => ∃ xs, lstItems x = some xs ∧ frzL xs = xs ∧ QP (.lst true (if k = true then xs else [])) := by
  refine propext ⟨?_, ?_⟩
  · rintro ⟨xs, k, a, b, c, d⟩
    exact ⟨k, b, xs, a, c, d⟩
  · rintro ⟨k, b, xs, a, c, d⟩
    exact ⟨xs, k, a, b, c, d⟩
@[simp ↓] theorem r_oRev : oRev ta env Q = ta env fun d env1 => ∃ xs, lstItems d = some xs ∧ frzL xs = xs ∧ Q (.lst true xs.reverse) env1 := rfl
@[simp ↓] theorem r_gR1 {QR : Int → Int → Env → Prop} : gR1 ta env QR = ta env fun d env1 => ∃ n, d = .int n ∧ QR 0 n env1 := rfl
@[simp ↓] theorem r_gR2 {QR : Int → Int → Env → Prop} : gR2 ta tb env QR = ta env fun d env1 => tb env1 fun e env2 => ∃ i j, d = .int i ∧ e = .int j ∧ QR i j env2 := rfl
@[simp ↓] theorem r_oLR {t : TXR} : oLR t env Q = t env fun i j env1 => RgOk i j ∧ Q (.lst true (rgD i (j - i).toNat)) env1 := rfl
@[simp] theorem frzL_ints (ns : List Int) : frzL (ns.map D.int) = ns.map D.int := by rw [frzL_map, map_frz_int]
end read
theorem fin_nil (n : Nat) (env : Env) : fin [] n env = List.replicate n none := by
  unfold fin
  induction n with
  | zero => rfl
  | succ n ih => rw [List.range_succ, List.map_append, ih, List.replicate_succ']; rfl
theorem ixN_of {n : Nat} {i : Int} (h0 : 0 ≤ i) (h1 : i < n) : ixN n i = some i.toNat := by unfold ixN; rw [if_pos h0, if_pos h1]
@[simp] theorem py_int (i : Int) : (D.int i).py = .int i := by rw [D.py]
@[simp] theorem cmp_int (i : Int) : cmpD (.int i) = true := by
  unfold cmpD
  rw [D.pyok, D.py] <;> first | rfl | (intros; contradiction)
theorem cut_to {α : Type} (xs : List α) (k : Nat) : cutL xs none (some (k : Int)) = xs.take k := by
  unfold cutL
  rw [HT.sIx_none, HT.sIx_nat, Nat.sub_zero, List.drop_zero]
  by_cases h : k ≤ xs.length
  · rw [Nat.min_eq_left h]
  · rw [Nat.min_eq_right (by omega), List.take_of_length_le (Nat.le_refl _), List.take_of_length_le (by omega)]
end TT
namespace TT
open PySem PySem.Spec PyProof.Rows L2
variable [Cls]
structure Cmp {α : Type} [DecidableEq α] (e : α → D) (k : Nat) : Prop where
  ok : ∀ a, (e a).pyok = true
  lay : ∀ a, (e a).py.canLay0 = true
  dep : ∀ a, (e a).py.depth ≤ k
  eqv : ∀ a b, PyData.eqv (e a).py (e b).py = decide (a = b)
theorem cmp_int0 : Cmp D.int 0 := by
  refine ⟨fun a => by rw [D.pyok] <;> intros <;> contradiction, fun a => by rw [py_int]; simp only [PyData.canLay0], fun a => by rw [py_int]; simp only [PyData.depth]; exact Nat.le_refl _, fun a b => ?_⟩
  rw [py_int, py_int]
  simp only [PyData.eqv]
  rw [Bool.eq_iff_iff, beq_iff_eq, decide_eq_true_eq]
section
variable {α : Type} [DecidableEq α] {e : α → D} {k : Nat}
theorem Cmp.layAll (h : Cmp e k) : ∀ xs : List α, PyData.canLayAll0 (pyL (xs.map e)) = true
  | [] => by rw [List.map_nil, pyL]; simp only [PyData.canLayAll0]
  | a :: r => by rw [List.map_cons, pyL]; simp only [PyData.canLayAll0]; rw [h.lay, h.layAll r]; rfl
theorem Cmp.depAll (h : Cmp e k) : ∀ xs : List α, PyData.depthAll (pyL (xs.map e)) ≤ k
  | [] => by rw [List.map_nil, pyL]; simp only [PyData.depthAll]; exact Nat.zero_le _
  | a :: r => by rw [List.map_cons, pyL]; simp only [PyData.depthAll]; exact Nat.max_le.mpr ⟨h.dep a, h.depAll r⟩
theorem Cmp.eqvAll (h : Cmp e k) : ∀ xs ys : List α, PyData.eqvAll (pyL (xs.map e)) (pyL (ys.map e)) = decide (xs = ys)
  | [], [] => by rw [List.map_nil, pyL]; simp only [PyData.eqvAll, decide_true]
  | [], _ :: _ => by rw [List.map_nil, List.map_cons, pyL, pyL]; simp [PyData.eqvAll]
  | _ :: _, [] => by rw [List.map_nil, List.map_cons, pyL, pyL]; simp [PyData.eqvAll]
  | x :: xs, y :: ys => by
    rw [List.map_cons, List.map_cons, pyL, pyL, PyData.eqvAll, h.eqv, h.eqvAll xs ys, ← Bool.decide_and]
    exact decide_eq_decide.mpr (by rw [List.cons.injEq])
theorem Cmp.okAll (h : Cmp e k) (xs : List α) : pyokL (xs.map e) = true := by
  rw [pyokL_all, List.all_map, List.all_eq_true]
  intro a _
  exact h.ok a
theorem py_tup (xs : List D) : (D.tup xs).py = .tuple (pyL xs) := by rw [D.py]
theorem py_lst (o : Bool) (xs : List D) : (D.lst o xs).py = .list (pyL xs) := by rw [D.py]
theorem Cmp.tup (h : Cmp e k) : Cmp (fun xs : List α => .tup (xs.map e)) (k + 1) := by
  refine ⟨fun a => ?_, fun a => ?_, fun a => ?_, fun a b => ?_⟩
  · show (D.tup _).pyok = true
    rw [D.pyok]; exact h.okAll a
  · show (D.tup _).py.canLay0 = true
    rw [py_tup]; simp only [PyData.canLay0]; exact h.layAll a
  · show (D.tup _).py.depth ≤ _
    rw [py_tup]; simp only [PyData.depth]; exact Nat.succ_le_succ (h.depAll a)
  · show PyData.eqv (D.tup _).py (D.tup _).py = _
    rw [py_tup, py_tup]; simp only [PyData.eqv]; exact h.eqvAll a b
theorem Cmp.lst (h : Cmp e k) (o : Bool) : Cmp (fun xs : List α => .lst o (xs.map e)) (k + 1) := by
  refine ⟨fun a => ?_, fun a => ?_, fun a => ?_, fun a b => ?_⟩
  · show (D.lst _ _).pyok = true
    rw [D.pyok]; exact h.okAll a
  · show (D.lst _ _).py.canLay0 = true
    rw [py_lst]; simp only [PyData.canLay0]; exact h.layAll a
  · show (D.lst _ _).py.depth ≤ _
    rw [py_lst]; simp only [PyData.depth]; exact Nat.succ_le_succ (h.depAll a)
  · show PyData.eqv (D.lst _ _).py (D.lst _ _).py = _
    rw [py_lst, py_lst]; simp only [PyData.eqv]; exact h.eqvAll a b
theorem Cmp.cmpD (h : Cmp e k) (hk : k ≤ 64 := by decide) (a : α) : cmpD (e a) = true := by
  unfold TT.cmpD SeqAt.shaped
  rw [h.ok, h.lay, decide_eq_true (Nat.le_trans (h.dep a) hk)]; rfl
theorem Cmp.anyL (h : Cmp e k) (a : α) : ∀ xs : List α, ((xs.map e).any fun z => PyData.eqv z.py (e a).py) = decide (a ∈ xs)
  | [] => by simp
  | x :: xs => by
    rw [List.map_cons, List.any_cons, h.eqv, h.anyL a xs, ← Bool.decide_or]
    exact decide_eq_decide.mpr (by rw [List.mem_cons]; exact or_congr_left eq_comm)
end
@[simp] theorem r_rIsN {x y : D} {QP : D → Prop} : rIsN x y QP = (y = .non ∧ QP (.bl (isNon x))) := rfl
@[simp] theorem r_rNotN {x y : D} {QP : D → Prop} : rNotN x y QP = (y = .non ∧ QP (.bl (!isNon x))) := rfl
@[simp] theorem isNon_lst {o xs} : isNon (.lst o xs) = false := rfl
@[simp] theorem isNon_non : isNon .non = true := rfl
end TT
namespace TT
open PySem PySem.Spec PyProof.Rows L2
variable [Cls]
section
variable {X : Cx} {e : Expr} {M : List Nat} {t : TX}
/-- nobody will change it -/
def oFrz (t : TX) : TX := fun env Q => t env fun d env1 => Q d.frz env1
theorem x_frzv (h : XX X e M [] t) : XX X e M [] (oFrz t) := ⟨pe_imp h.pe fun σ H Q ⟨S, Qt, eH, s, q, k⟩ => by
  subst eH
  refine ⟨S, _, rfl, s, q, fun S1 v d Fv q1 s1 st1 v1 => ?_⟩
  obtain ⟨s2, st2, rep⟩ := v1.freeze s1 st1
  exact k ⟨frzZ S1.Z S1.H Fv, S1.H, S1.env, S1.F⟩ v d.frz nF q1 s2 st2 (.imm (rep nF))⟩
@[simp ↓] theorem r_oFrz {env : Env} {Q : D → Env → Prop} : oFrz t env Q = t env fun d env1 => Q d.frz env1 := rfl
end
/-- v, that is d and owns G, lies within v0, that owns F; up tells v0's tree by v's -/
structure Hole (K : PySem.W.Frag) (Z H : Hp) (F : AS) (v0 v : V) (d : D) (G : AS) (up : D → D) : Prop where
  rep : Rep K Z H v d G
  sub : ∀ a, G a → F a
  back : ∀ (Z' H' : Hp) (d' : D) (G' : AS), (∀ a o, Z a = some o → Z' a = some o) → (∀ a o, F a → ¬ G a → H a = some o → H' a = some o) → (∀ a, F a → ¬ G a → Z a = none → Z' a = none) → (∀ a, G' a → G a ∨ ¬ F a) →
    Rep K Z' H' v d' G' → Rep K Z' H' v0 (up d') (fun a => F a ∨ G' a)
theorem Hole.root {K : PySem.W.Frag} {Z H : Hp} {F : AS} {v : V} {d : D} (r : Rep K Z H v d F) : Hole K Z H F v v d F id :=
  ⟨r, fun _ h => h, fun _ _ _ _ _ _ _ _ r' => r'.mono fun _ h => .inr h⟩
theorem Hole.on {K : PySem.W.Frag} {Z H Z2 H2 : Hp} {F : AS} {v0 v : V} {d : D} {G : AS} {up : D → D} (h : Hole K Z H F v0 v d G up) (hz : ∀ a o, Z a = some o → Z2 a = some o) (hh : ∀ a o, F a → H a = some o → H2 a = some o) (hn : ∀ a, F a → Z a = none → Z2 a = none) :
    Hole K Z2 H2 F v0 v d G up :=
  ⟨h.rep.keep hz fun a o g e z => ⟨hh a o (h.sub a g) e, hn a (h.sub a g) z⟩, h.sub, fun Z' H' d' G' h1 h2 h3 h4 r => h.back Z' H' d' G' (fun a o z => h1 a o (hz a o z)) (fun a o f g e => h2 a o f g (hh a o f e)) (fun a f g z => h3 a f g (hn a f z)) h4 r⟩
/-- one item of a list, as a hole -/
theorem RepL.hole {K : PySem.W.Frag} {Z H : Hp} : ∀ {vs : List V} {ds : List D} {F : AS} {j : Nat} {d : D}, RepL K Z H vs ds F → ds[j]? = some d →
    ∃ v G, vs[j]? = some v ∧ Rep K Z H v d G ∧ (∀ a, G a → F a) ∧ ∀ (Z' H' : Hp) (d' : D) (G' : AS), (∀ a o, Z a = some o → Z' a = some o) → (∀ a o, F a → ¬ G a → H a = some o → H' a = some o) → (∀ a, F a → ¬ G a → Z a = none → Z' a = none) → (∀ a, G' a → G a ∨ ¬ F a) →
      Rep K Z' H' v d' G' → RepL K Z' H' vs (ds.set j d') (fun a => F a ∨ G' a)
  | _, _, _, _, _, .nil, e => by simp at e
  | _, _, F, 0, _, .cons (G := G) (E := E) r t f g, e => by
    simp at e
    subst e
    refine ⟨_, G, rfl, r, f, fun Z' H' d' G' h1 h2 h3 h4 r' => ?_⟩
    refine .cons r' (t.keep h1 fun a o z ha zn => ⟨h2 a o (g a z).1 (g a z).2 ha, h3 a (g a z).1 (g a z).2 zn⟩) (fun a z => .inr z) fun a z => ⟨.inl (g a z).1, fun y => ?_⟩
    rcases h4 a y with q | q
    · exact (g a z).2 q
    · exact q (g a z).1
  | _, _, F, j + 1, _, .cons (G := G) (E := E) r t f g, e => by
    obtain ⟨v, G1, hv, r1, hs, back⟩ := RepL.hole (j := j) t (by simpa using e)
    refine ⟨v, G1, by simpa using hv, r1, fun a z => (g a (hs a z)).1, fun Z' H' d' G' h1 h2 h3 h4 r' => ?_⟩
    refine .cons (G := G) (E := fun a => E a ∨ G' a) (r.keep h1 fun a o z ha zn => ?_) (back Z' H' d' G' h1 (fun a o z n ha => h2 a o (g a z).1 n ha) (fun a z n zn => h3 a (g a z).1 n zn) (fun a z => (h4 a z).imp id fun q y => q (g a y).1) r') (fun a z => .inl (f a z)) fun a z => ?_
    · have na : ¬ G1 a := fun y => (g a (hs a y)).2 z
      exact ⟨h2 a o (f a z) na ha, h3 a (f a z) na zn⟩
    · rcases z with z | z
      · exact ⟨.inl (g a z).1, (g a z).2⟩
      · refine ⟨.inr z, fun y => ?_⟩
        rcases h4 a z with q | q
        · exact (g a (hs a q)).2 y
        · exact q (f a y)
theorem valV_of_at {κ : Type} [DecidableEq κ] : ∀ {m : List (κ × V)} {k : κ} {j : Nat} {w : V}, (m.map (·.1))[j]? = some k → (m.map (·.2))[j]? = some w → (m.map (·.1)).Nodup → valV m k = some w
  | [], _, _, _, h, _, _ => by simp at h
  | p :: r, k, 0, w, h, h2, _ => by
    simp at h h2
    rw [valV_pos h, h2]
  | p :: r, k, j + 1, w, h, h2, nd => by
    rw [List.map_cons, List.nodup_cons] at nd
    have h : (r.map (·.1))[j]? = some k := by simpa using h
    have h2 : (r.map (·.2))[j]? = some w := by simpa using h2
    have : ¬ p.1 = k := fun e => nd.1 (e ▸ List.mem_of_getElem? h)
    rw [valV_neg this]
    exact valV_of_at h h2 nd.2
theorem lookK_at {κ : Type} [DecidableEq κ] : ∀ {kvs : List (κ × D)} {k : κ} {d : D}, lookK kvs k = some d → (kvs.map (·.1)).Nodup → ∃ j : Nat, (kvs.map (·.2))[j]? = some d ∧ (kvs.map (·.1))[j]? = some k ∧ ∀ d', (putD kvs k d').map (·.2) = (kvs.map (·.2)).set j d' ∧ (putD kvs k d').map (·.1) = kvs.map (·.1)
  | [], _, _, h, _ => by simp [lookK] at h
  | p :: r, k, d, h, nd => by
    rw [List.map_cons, List.nodup_cons] at nd
    by_cases e : p.1 = k
    · have hd : p.2 = d := by simpa [lookK, e] using h
      refine ⟨0, by simp [hd], by simp [e], fun d' => ?_⟩
      have rest : r.map (fun kv => if kv.1 = k then (kv.1, d') else kv) = r := by
        refine Eq.trans (List.map_congr_left fun q hq => ?_) (List.map_id r)
        have : q.1 ≠ k := fun z => nd.1 (by rw [e, ← z]; exact List.mem_map_of_mem hq)
        simp [this]
      unfold putD
      simp [e, rest]
    · have h' : lookK r k = some d := by simpa [lookK, e] using h
      obtain ⟨j, h1, h1k, h2⟩ := lookK_at h' nd.2
      refine ⟨j + 1, by simpa using h1, by simpa using h1k, fun d' => ?_⟩
      obtain ⟨a, b⟩ := h2 d'
      have hany : (r.any fun kv => decide (kv.1 = k)) = true := by
        unfold lookK at h'
        cases q : r.find? fun p => decide (p.1 = k) with
        | none => rw [q] at h'; cases h'
        | some w => exact List.any_eq_true.mpr ⟨w, List.mem_of_find?_eq_some q, by have := List.find?_some q; exact this⟩
      unfold putD at a b ⊢
      rw [if_pos hany] at a b
      rw [if_pos (by simp only [List.any_cons, hany, Bool.or_true])]
      simp only [List.map_cons, e, if_false, List.set_cons_succ]
      exact ⟨congrArg _ a, congrArg _ b⟩
section steps
variable {K : PySem.W.Frag} {Z H : Hp} {F : AS} {v0 v : V} {G : AS} {up : D → D}
theorem Hole.key {kvs : List (Key × D)} {k : Key} {d : D} (h : Hole K Z H F v0 v (.dct true kvs) G up) (e : lookK kvs k = some d) (nd : (kvs.map (·.1)).Nodup) :
    ∃ (a : Addr) (m : List (Key × V)) (w : V) (G1 : AS), v = .ref a ∧ H a = some (.dK m) ∧ valV m k = some w ∧ Hole K Z H F v0 w d G1 (fun d' => up (.dct true (putD kvs k d'))) := by
  obtain ⟨a, m, G0, rfl, ga, ha, za, hk, rl, hG⟩ := h.rep.dctO_inv
  obtain ⟨j, hj, hjk, hput⟩ := lookK_at e nd
  obtain ⟨w, G1, hw, rw', hs, back⟩ := rl.hole hj
  refine ⟨a, m, w, G1, rfl, ha, valV_of_at (by rw [hk]; exact hjk) hw (by rw [hk]; exact nd), rw', fun b z => h.sub b (hG b (hs b z)).1, fun Z' H' d' G' h1 h2 h3 h4 r' => ?_⟩
  have n1 : ∀ b, G b → ¬ G1 b → F b := fun b z _ => h.sub b z
  have na : ¬ G1 a := fun z => (hG a (hs a z)).2 rfl
  have rep : Rep K Z' H' (.ref a) (.dct true (putD kvs k d')) (fun b => G b ∨ G' b) := by
    refine .dctO (G := fun b => G0 b ∨ G' b) (.inl ga) (h2 a _ (h.sub a ga) na ha) (h3 a (h.sub a ga) na za) (by rw [(hput d').2]; exact hk) ?_ fun b z => ?_
    · rw [(hput d').1]
      exact back Z' H' d' G' h1 (fun b o z n e => h2 b o (h.sub b (hG b z).1) n e) (fun b z n e => h3 b (h.sub b (hG b z).1) n e) (fun b z => (h4 b z).imp id fun q y => q (h.sub b (hG b y).1)) r'
    · rcases z with z | z
      · exact ⟨.inl (hG b z).1, (hG b z).2⟩
      · refine ⟨.inr z, fun e => ?_⟩
        subst e
        rcases h4 b z with q | q
        · exact na q
        · exact q (h.sub b ga)
  have := h.back Z' H' (.dct true (putD kvs k d')) (fun b => G b ∨ G' b) h1 (fun b o f n e => h2 b o f (fun z => n (hG b (hs b z)).1) e) (fun b f n e => h3 b f (fun z => n (hG b (hs b z)).1) e) (fun b z => z.elim .inl fun z => (h4 b z).imp (fun q => (hG b (hs b q)).1) id) rep
  exact this.mono fun b z => z.elim .inl fun z => z.elim (fun z => .inl (h.sub b z)) .inr
end steps
abbrev TXH := Env → (D → (D → D) → Env → Prop) → Prop
def liftP (K : PySem.W.Frag) (i : Nat) (M : List Nat) (t : TXH) : TE := fun σ H Q => ∃ S Qt, S.H = H ∧ SR K σ S ∧ t S.env Qt ∧
  ∀ S' v0 v d G up, Qt d up S'.env → SR K σ S' → Stp M S S' → σ[i]? = some (some v0) → Hole K S'.Z S'.H (S'.F i) v0 v d G up → Q v S'.H
structure XP (X : Cx) (e : Expr) (i : Nat) (M : List Nat) (t : TXH) : Prop where
  pe : PE X e (liftP X.K i M t)
def hName (i : Nat) : TXH := fun env Q => ∃ d, env[i]? = some (some d) ∧ Q d id env
section
variable {X : Cx} {a b e o : Expr} {M Ma R : List Nat} {th : TXH} {ta tb tk : TX} {i : Nat} {pos apos : Pos} {x : Str}
theorem xp_name (hx : PE X e (tVar i)) : XP X e i [] (hName i) := ⟨pe_imp hx fun σ H Q ⟨S, Qt, eH, s, ⟨d, e0, q⟩, k⟩ => by
  subst eH
  obtain ⟨v, h0, r⟩ := s.sl i d e0
  exact ⟨v, h0, k S v v d (S.F i) id q s (.refl _ _) h0 (.root r)⟩⟩
theorem Hole.stp {K : PySem.W.Frag} {S S1 : W} {σ : L2.St} {v0 v : V} {d : D} {G : AS} {up : D → D} (h : Hole K S.Z S.H (S.F i) v0 v d G up) (s : SR K σ S) (st : Stp M S S1) (hi : i ∉ M) : Hole K S1.Z S1.H (S1.F i) v0 v d G up := by
  rw [(st.frm i hi).2]
  have off : ∀ a, S.F i a → ¬ ∃ j, j ∈ M ∧ S.F j a := fun a f ⟨j, hj, g⟩ => hi (s.ap i j a f g ▸ hj)
  refine h.on st.ext.zs (fun a o f e => st.ext.fr0 a o e (s.tr i a f).2 (off a f)) fun a f z => ?_
  cases q : S1.Z a with
  | none => rfl
  | some u =>
    rcases st.ext.nz a u q z with e | e
    · obtain ⟨⟨o, e'⟩, _⟩ := s.tr i a f
      rw [e] at e'; cases e'
    · exact absurd e (off a f)
/-- what changes the inner list: its new items, what they own -/
theorem Hole.write {K : PySem.W.Frag} {S : W} {σ : L2.St} {v0 : V} {a : Addr} {d' : D} {G : AS} {up : D → D} {xs : List D} {o' : HO} {Fy : AS} (h : Hole K S.Z S.H (S.F i) v0 (.ref a) (.lst true xs) G up) (s : SR K σ S) (h0 : σ[i]? = some (some v0))
    (ga : G a) (rep : Rep K S.Z (upd S.H a o') (.ref a) d' (fun b => G b ∨ Fy b)) (ow : ∀ b, Fy b → (∀ j, ¬ S.F j b)) (tv : ∀ b, Fy b → (∃ o, S.H b = some o) ∧ S.Z b = none) :
    SR K σ ⟨S.Z, upd S.H a o', S.env.set i (some (up d')), putF S.F i (fun b => S.F i b ∨ Fy b)⟩ ∧ Ext S.Z S.H (fun b => b = a) S.Z (upd S.H a o') := by
  have big := h.back S.Z (upd S.H a o') d' (fun b => G b ∨ Fy b) (fun _ _ z => z) (fun b o f n e => by
    have : b ≠ a := fun z => n (z ▸ ga)
    rw [upd_ne this]; exact e) (fun _ _ _ z => z) (fun b z => z.imp id fun z => ow b z i) rep
  have big : Rep K S.Z (upd S.H a o') v0 (up d') (fun b => S.F i b ∨ Fy b) := big.mono fun b z => z.elim .inl fun z => z.elim (fun z => .inl (h.sub b z)) .inr
  have fa := h.sub a ga
  obtain ⟨s2, _, x2⟩ := s.mut (i := i) h0 fa big fun b z => ⟨z.imp id fun z => ow b z, by
    have h : (∃ o, S.H b = some o) ∧ S.Z b = none := z.elim (s.tr i b) (tv b)
    obtain ⟨⟨o, h⟩, hz⟩ := h
    refine ⟨?_, hz⟩
    by_cases e : b = a
    · exact ⟨_, by rw [e]; exact upd_same⟩
    · exact ⟨o, by rw [upd_ne e]; exact h⟩⟩
  exact ⟨s2, x2⟩
theorem isLst_inv {d : D} (h : isLst d = true) : ∃ o xs, d = .lst o xs := by
  cases d with
  | lst o xs => exact ⟨o, xs, rfl⟩
  | _ => cases h
/-- path.clear() -/
def hClear (i : Nat) (th : TXH) : TX := fun env Q => th env fun d up env1 => ∃ xs, d = .lst true xs ∧ Q .non (env1.set i (some (up (.lst true []))))
theorem RepL.erase {K : PySem.W.Frag} {Z H : Hp} : ∀ {vs : List V} {ds : List D} {F : AS} (j : Nat), RepL K Z H vs ds F → RepL K Z H (vs.eraseIdx j) (ds.eraseIdx j) F
  | _, _, _, _, .nil => .nil
  | _, _, _, 0, .cons r t f g => t.mono fun a z => (g a z).1
  | _, _, _, j + 1, .cons r t f g => .cons r (RepL.erase j t) f g
/-- path.pop(n): an item that owns nothing -/
def hPop (i : Nat) (th : TXH) (ta : TX) : TX := fun env Q => th env fun d up env1 => isLst d = true ∧ ta env1 fun nd env2 => ∃ xs n j y, d = .lst true xs ∧ nd = .int n ∧ -(2 ^ 63) ≤ n ∧ n < 2 ^ 63 ∧ ixN xs.length n = some j ∧ xs[j]? = some y ∧ y.frz = y ∧ Q y (env2.set i (some (up (.lst true (xs.eraseIdx j)))))
theorem xp_pop (ho : XP X o i M th) (ha : XX X e Ma R ta) (hi : i ∉ Ma := by decide)
    (hbase : attributeBase o "pop" X.env (eval o X.env) = eval o X.env := by rfl)
    (few : ((backTo pos (starEach [e] X.env)).all (fun z => !z.1) && (backToKw pos (keywordEach [] X.env)).all (fun z => z.1.isSome) && decide ([e].length + ([] : List Keyword).length + (if ([] : List Keyword).isEmpty then 0 else 1) < 30)) = true := by rfl)
    (hline : (apos.endLine == pos.line) = true := by rfl) (star : starEach [e] X.env = (false, eval e X.env) :: starEach [] X.env := by rfl) (plain : (backTo pos (starEach [] X.env)).any (·.1) = false := by rfl) :
    XX X (.Call (.Attribute o "pop" apos) [e] [] pos) (M ++ Ma ++ [i]) [] (hPop i th ta) := ⟨pe_imp (pe_bm PySem.F.plainAttrs_list PySem.F.slot_list_pop PySem.F.type_list_pop mt_popAt ho.pe (pa_cons ha.pe pa_nil star) hbase few hline star plain) fun σ H Q ⟨S, Qt, eH, s, q, k⟩ => by
  subst eH
  refine ⟨S, _, rfl, s, q, fun S1 v0 v d G up ⟨isl, q1⟩ s1 st1 h0 hole => ?_⟩
  obtain ⟨oo, ys, rfl⟩ := isLst_inv isl
  refine ⟨tyV_lst s1 hole.rep, S1, _, rfl, s1, q1, fun S2 y dy Fy ⟨xs, n, j, it, ed, en, b1, b2, hj, hit, hfr, q2⟩ s2 st2 v2 => ?_⟩
  cases ed
  subst en
  have h2 := hole.stp s1 st2 hi
  obtain ⟨a, vs, G0, rfl, ga, ha, za, rl, hG⟩ := h2.rep.own_inv
  obtain ⟨w, hw, rw'⟩ := rl.get hit
  refine ⟨a, vs, n, j, w, rfl, by rw [v2.rep.int_inv], ha, b1, b2, by rw [rl.length]; exact (ixN_seq hj).1, hw, ?_⟩
  have nga : ¬ G0 a := fun z => (hG a z).2 rfl
  obtain ⟨s3, x3⟩ := h2.write (o' := .lst (vs.eraseIdx j)) (d' := .lst true (ys.eraseIdx j)) (Fy := nF) s2 h0 ga (.lstO (G := G0) (.inl ga) upd_same za ((rl.erase j).upd nga) fun b z => ⟨.inl (hG b z).1, (hG b z).2⟩) (fun _ z => z.elim) (fun _ z => z.elim)
  exact k _ _ _ nF q2 s3 ((st1.trans st2).mut (h2.sub a ga) x3 fun b z => z.elim .inl fun z => z.elim) (.imm (rw'.imm hfr))⟩
section read
variable {env : Env} {Q : D → Env → Prop} {QH : D → (D → D) → Env → Prop}
@[simp ↓] theorem r_hClear : hClear i th env Q = th env fun d up env1 => ∃ xs, d = .lst true xs ∧ Q .non (env1.set i (some (up (.lst true [])))) := rfl
@[simp ↓] theorem r_hPop : hPop i th ta env Q = th env fun d up env1 => isLst d = true ∧ ta env1 fun nd env2 => ∃ xs n j y, d = .lst true xs ∧ nd = .int n ∧ -(2 ^ 63) ≤ n ∧ n < 2 ^ 63 ∧ ixN xs.length n = some j ∧ xs[j]? = some y ∧ y.frz = y ∧ Q y (env2.set i (some (up (.lst true (xs.eraseIdx j))))) := rfl
end read
end
end TT
namespace TT
open PySem PySem.Spec PyProof.Rows L2
variable [Cls]
def lstO (its : List Value) (c : Nat) : Obj := { cls := .type "list", dict := none, data := .seq its.toArray c, slots := #[] }
theorem RepA.two {K : PySem.W.Frag} {Z H : Hp} {F : AS} {vs : List V} {d e : D} (h : RepA K Z H F vs [d, e]) : ∃ v w, vs = [v, w] ∧ Rep K Z H v d F ∧ Rep K Z H w e F := paired2 h
section
variable {X : Cx} {a : Expr} {M R : List Nat} {ta : TX} {pos p p2 : Pos}
def oSumL (t : TX) : TX := fun env Q => t env fun d env1 => ∃ (o : Bool) (xss : List (List D)), d = .lst o (xss.map fun xs => D.lst false xs) ∧ (∀ xs ∈ xss, frzL xs = xs) ∧ xss.flatten.length ≤ sizeLine ∧ Q (.lst true xss.flatten) env1
end
@[simp ↓] theorem r_oSumL {ta : TX} {env : Env} {Q : D → Env → Prop} : oSumL ta env Q = ta env fun d env1 => ∃ (o : Bool) (xss : List (List D)), d = .lst o (xss.map fun xs => D.lst false xs) ∧ (∀ xs ∈ xss, frzL xs = xs) ∧ xss.flatten.length ≤ sizeLine ∧ Q (.lst true xss.flatten) env1 := rfl
def absI (i : Int) : Int := if i < 0 then -i else i
def byAbs (ns : List Int) : List Int := ns.mergeSort fun a b => decide (absI a ≤ absI b)
section
variable {X : Cx} {a : Expr} {M R : List Nat} {ta : TX} {pos p p2 kpos : Pos}
def oSortAbs (t : TX) : TX := fun env Q => t env fun d env1 => ∃ (ns : List Int), lstItems d = some (ns.map D.int) ∧ Q (.lst true ((byAbs ns).map D.int)) env1
@[simp ↓] theorem r_oSortAbs {env : Env} {Q : D → Env → Prop} : oSortAbs ta env Q = ta env fun d env1 => ∃ (ns : List Int), lstItems d = some (ns.map D.int) ∧ Q (.lst true ((byAbs ns).map D.int)) env1 := rfl
end
end TT
namespace TT
open PySem PySem.Spec PyProof.Rows L2
variable [Cls]
section
variable {X : Cx}
/-- max(ns), min(ns) of ints -/
def gTop (up : Bool) : List D → (D → Prop) → Prop := r1 fun d Q => ∃ ns : List Int, lstItems d = some (ns.map D.int) ∧ ns ≠ [] ∧ ∀ m, m ∈ ns → (∀ y, y ∈ ns → if up = true then y ≤ m else m ≤ y) → Q (.int m)
/-- max(ns, default=z), min(..) -/
def oTopDf (up : Bool) (t : TX) (z : D) : TX := fun env Q => t env fun d env1 => ∃ ns : List Int, lstItems d = some (ns.map D.int) ∧ ∀ m, (ns = [] ∧ m = z ∨ ∃ i, m = .int i ∧ i ∈ ns ∧ ∀ y, y ∈ ns → if up = true then y ≤ i else i ≤ y) → Q m env1
variable {a e2 : Expr} {M R : List Nat} {ta : TX} {pos p kpos : Pos} {x : Str} {id : String} {v : V} {z : D} {up : Bool}
@[simp ↓] theorem r_oTopDf {env : Env} {Q : D → Env → Prop} : oTopDf up ta z env Q = ta env fun d env1 => ∃ ns : List Int, lstItems d = some (ns.map D.int) ∧ ∀ m, (ns = [] ∧ m = z ∨ ∃ i, m = .int i ∧ i ∈ ns ∧ ∀ y, y ∈ ns → if up = true then y ≤ i else i ≤ y) → Q m env1 := rfl
end
@[simp] theorem r_gTop {up : Bool} {ds : List D} {QP : D → Prop} : gTop up ds QP = ∃ d, ds = [d] ∧ ∃ ns : List Int, lstItems d = some (ns.map D.int) ∧ ns ≠ [] ∧ ∀ m, m ∈ ns → (∀ y, y ∈ ns → if up = true then y ≤ m else m ≤ y) → QP (.int m) := rfl
end TT
namespace TT
open PySem PySem.Spec PyProof.Rows L2
variable [Cls]
/-- `FnOk`, asked only where no guard is up -/
structure FnG (P : Program) (w : World) (K : PySem.W.Frag) (mg : Str → Option Value) (base : Heap) (k : Nat) (f : Addr) (fd : FuncData) (ps : List Str) (sp : Sp) : Prop where
  ln : ∀ vs H Q E, sp vs H Q E → vs.length = ps.length
  go : ∀ (A : Around) (outer : List PySem.Env) (s : Shared) (H : Hp) (args : Args) (us : List Value) (vs : List V) (Q : VK) (E : L2.XK), A.guards = some [] → Room k A → Env0 P w K mg base A outer s H → BindsTo s fd args (ps.zip us) → Vals vs us → sp vs H Q E →
    codeAny (model P w) A (.call (.ref f) args) (CR CX0 outer P w H s Q E) s
section
variable {P : Program} {w : World} {K : PySem.W.Frag} {mg : Str → Option Value} {base : Heap} {k : Nat} {f : Addr} {fd : FuncData} {ps : List Str} {sp : Sp}
/-- a def by its body, no guard up -/
theorem fnG_body {name qual : Str} {params : Arguments} {body : List Stmt} {scope : Scope} {dV kV doc pm cdv ct oc : Value} {an od : Option Addr} {osl : Array (Option Value)} {N : List Str}
    (lk : K.lookup f = some ⟨oc, od, .func (PySem.W.fnOf name qual params body scope dV kV doc pm an cdv ct), osl⟩) (hcd : PySem.W.codeIn K cdv qual = true) (S : FnScope N ps scope)
    (ln : ∀ vs H Q E, sp vs H Q E → vs.length = ps.length)
    (hb : ∀ (A : Around) (outer : List PySem.Env) (s : Shared) (H : Hp) (vs : List V) (Q : VK) (E : L2.XK), A.guards = some [] → Room k (A.deeper (envOfC qual scope s.heap.objs.size f cdv)) → sp vs H Q E →
      ∃ t, PSs (cxOf CX0 P w K mg base N qual scope f cdv A outer s H E) body t ∧ t { nx := fun _ H' => Q .non H', rt := Q } (start N vs) H) :
    FnG P w K mg base (k + 1) f (PySem.W.fnOf name qual params body scope dV kV doc pm an cdv ct) ps sp := by
  constructor
  · exact ln
  · intro A outer s H args us vs Q E hG hr e0 hbd rv hsp
    obtain ⟨t, ht, hq⟩ := hb A outer s H vs Q E hG (Room.deeper hr _) hsp
    have olds := fun b o e => (e0.bs b o e).1
    have KX := e0.mod.kin.keeps olds
    refine codeAny_call_function hr.depth (KX _ _ lk) rfl S.co S.gen rfl (PySem.W.codeRec_of KX hcd) (hbd _ _ _ _ (wpAny_newFunctionEnv_cells S.kind (fun y hy => ?_) fun env he s1 x => ?_))
    · obtain ⟨n, v⟩ := y
      exact (S.par n (List.of_mem_zip hy).1).imp id fun q => ⟨q, PySem.W.cellsFrom_some _ _ _ (.inl q)⟩
    · subst he
      refine ⟨(e0.mod.nolimit.keeps olds).keeps x.toInCall.keep, codeAny_func (wpAny_mono (ht.run [] s1 (start N vs) H _ (inv_start S hr.hd e0 (ln _ _ _ _ hsp) rv x) hq) (fun fl s' hs => ?_) fun e s' hs => hs)⟩
      rcases fl with _ | u | _ | _
      all_goals first
        | (obtain ⟨_, _, _, q⟩ := hs; exact q.elim)
        | (obtain ⟨σ', H', J, q⟩ := hs; exact ⟨V.non, H', J.os, J.bare, J.base, J.hok, rfl, q⟩)
        | (obtain ⟨v, σ', H', J, r, q⟩ := hs; exact ⟨v, H', J.os, J.bare, J.base, J.hok, r, q⟩)
end
section
variable {P : Program} {w : World} {K : PySem.W.Frag} {mg : Str → Option Value} {base : Heap} {x qual : Str} {params : Arguments} {body : List Stmt} {scope : Scope} {dvs : List V} {kws : List (Str × V)} {f : Addr} {fd : FuncData} {N ps : List Str}
theorem fn_okG {k : Nat} {sp : TX} {Asg io : List Nat} {tb : TXS} (F : FunD K x qual params body scope dvs kws f fd) (Sc : FnScope N ps scope)
    (hbody : ∀ (cdv : Value) (_ : CdAt K f cdv) (A : Around) (outer : List PySem.Env) (s : Shared) (H : Hp) (E : L2.XK), A.guards = some [] → Room k (A.deeper (envOfC qual scope s.heap.objs.size f cdv)) → XSs (cxOf CX0 P w K mg base N qual scope f cdv A outer s H E).nox body Asg tb)
    (hio : Dj io Asg = true)
    (vc : ∀ (env : Env) (Qt : D → Env → Prop), env.length = ps.length → sp env Qt → tb { nx := fun e => Qt .non (fin io ps.length e), rt := fun r e => Qt r (fin io ps.length e) } (begin N ps env)) :
    FnG P w K mg base (k + 1) f fd ps (liftSp K ps.length sp) := by
  have hpl : ps.length ≤ N.length := by have := congrArg List.length Sc.pre; rw [List.length_take] at this; omega
  obtain ⟨oc, od, dV, kV, doc, pm, an, cdv, ct, osl, rfl, lk, hcd, _, _⟩ := F.ex
  refine fnG_body lk hcd Sc (fun vs H Q E h => h.1) fun A outer s H vs Q E hG hr ⟨hl, S, Qt, eH, s0, q, k⟩ => ⟨_, pss_unl (hbody cdv ⟨_, _, _, _, lk, rfl⟩ A outer s H E hG hr).pss.nox, ?_⟩
  subst eH
  have hln : S.env.length = vs.length := by rw [s0.ln, List.length_map]
  have sB : SR K (start N vs) ⟨S.Z, S.H, begin N ps S.env, S.F⟩ := by
    refine ⟨s0.zh, fun i d e => ?_, s0.ap, s0.tr, ?_, s0.tb⟩
    · have e : (begin N ps S.env)[i]? = some (some d) := e
      unfold begin at e
      by_cases hi : i < S.env.length
      · rw [List.getElem?_append_left hi] at e
        obtain ⟨v, h1, h2⟩ := s0.sl i d e
        refine ⟨v, ?_, h2⟩
        unfold L2.start
        rw [List.getElem?_append_left (by rw [List.length_map]; omega)]
        exact h1
      · rw [List.getElem?_append_right (by omega), List.getElem?_replicate] at e
        split at e <;> cases e
    · show (begin N ps S.env).length = (start N vs).length
      unfold begin L2.start
      rw [List.length_append, List.length_append, List.length_replicate, List.length_replicate, List.length_map, hln, hl]
  have done : ∀ (σ' : L2.St) (S' : W) (v : V) (d : D) (Fv : AS), Qt d (fin io ps.length S'.env) → SR K σ' S' → StpS Asg (start N vs) σ' ⟨S.Z, S.H, begin N ps S.env, S.F⟩ S' → VPs K ⟨S.Z, S.H, begin N ps S.env, S.F⟩ S' v d Fv → ∃ p, Q v (unl p S.H S'.H) := fun σ' S' v d Fv q1 s1 st1 v1 => by
    obtain ⟨su, ru, nu⟩ := SR.unl (S := S) s0.zh s1 st1.ext.zs
    refine ⟨fun a => S.Z a ≠ none, k ⟨S'.Z, unl (fun a => S.Z a ≠ none) S.H S'.H, fin io ps.length S'.env, fun i a => i ∈ io ∧ S'.F i a⟩ v d Fv q1 ⟨su.zh, fun i d e => ?_, fun i j a h1 h2 => s1.ap i j a h1.2 h2.2, fun i a h => su.tr i a h.2, ?_, su.tb⟩ ⟨ext_unl st1.ext, fun i a h => st1.nf i a h.2, fun _ _ => rfl⟩ ⟨ru v1.rep, fun a z => ⟨?_, (v1.tv a z).2⟩, fun a z => ⟨fun i y => (v1.ow a z).1 i y.2, (v1.ow a z).2⟩⟩ fun a o h1 h2 => ?_⟩
    · obtain ⟨h1, h2, h3⟩ := fin_at e
      obtain ⟨v, e1, r⟩ := su.sl i d h3
      refine ⟨v, ?_, r.mono fun a z => ⟨h2, z⟩⟩
      rw [st1.sg i (dj_out hio h2)] at e1
      unfold L2.start at e1
      rw [List.getElem?_append_left (by rw [List.length_map]; omega)] at e1
      exact e1
    · show (fin io ps.length S'.env).length = (vs.map some).length
      unfold fin
      rw [List.length_map, List.length_range, List.length_map, hl]
    · obtain ⟨⟨o, e⟩, hz⟩ := v1.tv a z
      exact ⟨o, nu a o e hz⟩
    · have nF : ¬ ∃ i, S.F i a := fun ⟨i, z⟩ => by rw [(s0.tr i a z).2] at h2; cases h2
      exact unl_keep st1.ext nF h1 h2
  refine ⟨⟨S.Z, S.H, begin N ps S.env, S.F⟩, _, rfl, sB, vc S.env Qt (by rw [hln, hl]) q, fun σ' S' q1 s1 st1 => ?_, fun σ' S' v d Fv q1 s1 st1 v1 => done σ' S' v d Fv q1 s1 st1 v1, fun _ _ z => z.elim, fun _ _ z => z.elim⟩
  exact done σ' S' .non .non nF q1 s1 st1 ⟨.non, fun _ z => z.elim, fun _ z => z.elim⟩
end
end TT
namespace TT
open PySem PySem.Spec PyProof.Rows L2
end TT
namespace TT
/-- one cut: who stands on the plus side -/
abbrev Cfg := Nat → Bool
def prd (n f : Nat) : Nat := if f = 0 then n - 1 else f - 1
def suc (n f : Nat) : Nat := if f + 1 = n then 0 else f + 1
def nearN (n : Nat) (ring : Bool) (f : Nat) : List Nat :=
  if ring = true then [prd n f, suc n f] else (if 0 < f then [f - 1] else []) ++ (if f + 1 < n then [f + 1] else [])
theorem near_mem {n : Nat} {ring : Bool} {f g : Nat} (hf : f < n) : g ∈ nearN n ring f ↔ (ring = true ∧ (g = prd n f ∨ g = suc n f)) ∨ (ring = false ∧ ((0 < f ∧ g = f - 1) ∨ (f + 1 < n ∧ g = f + 1))) := by
  unfold nearN
  cases ring
  · by_cases h1 : 0 < f <;> by_cases h2 : f + 1 < n <;> simp [h1, h2]
  · simp
theorem near_lt {n : Nat} {ring : Bool} {f g : Nat} (hf : f < n) (h : g ∈ nearN n ring f) : g < n := by
  rw [near_mem hf] at h
  unfold prd suc at h
  rcases h with ⟨_, h | h⟩ | ⟨_, h | h⟩
  · split at h <;> omega
  · split at h <;> omega
  · omega
  · omega
theorem near_sym {n : Nat} {ring : Bool} {f g : Nat} (hf : f < n) (h : g ∈ nearN n ring f) : f ∈ nearN n ring g := by
  have hg := near_lt hf h
  rw [near_mem hf] at h
  rw [near_mem hg]
  unfold prd suc at *
  rcases h with ⟨hr, h | h⟩ | ⟨hr, h | h⟩
  · refine .inl ⟨hr, .inr ?_⟩
    split at h <;> split <;> omega
  · refine .inl ⟨hr, .inl ?_⟩
    split at h <;> split <;> omega
  · exact .inr ⟨hr, by omega⟩
  · exact .inr ⟨hr, by omega⟩
def heldB (n : Nat) (ring : Bool) (x : Cfg) (f : Nat) : Bool := decide ((nearN n ring f).length < 2) || (nearN n ring f).any fun g => x g == x f
def stepB (n : Nat) (ring : Bool) (x : Cfg) : Cfg := fun f => if heldB n ring x f = true then x f else !x f
def itB (n : Nat) (ring : Bool) : Nat → Cfg → Cfg
  | 0, x => x
  | k + 1, x => stepB n ring (itB n ring k x)
structure Far (n : Nat) (ring : Bool) (x : Cfg) (far : Nat → Nat) : Prop where
  zero : ∀ f, f < n → (far f = 0 ↔ heldB n ring x f = true)
  lip : ∀ f g, f < n → g ∈ nearN n ring f → far f ≤ far g + 1
  wit : ∀ f, f < n → 0 < far f → ∃ g, g ∈ nearN n ring f ∧ far g + 1 = far f
def odd (k : Nat) : Bool := decide (k % 2 = 1)
theorem odd_succ (k : Nat) : odd (k + 1) = !odd k := by
  unfold odd
  by_cases h : k % 2 = 1
  · have : ¬ ((k + 1) % 2 = 1) := by omega
    simp [h, this]
  · have : (k + 1) % 2 = 1 := by omega
    simp [h, this]
theorem held_iff {n : Nat} {ring : Bool} {x : Cfg} {f : Nat} : heldB n ring x f = true ↔ (nearN n ring f).length < 2 ∨ ∃ g, g ∈ nearN n ring f ∧ x g = x f := by
  unfold heldB
  simp
theorem itB_far {n : Nat} {ring : Bool} {x : Cfg} {far : Nat → Nat} (H : Far n ring x far) : ∀ k f, f < n → itB n ring k x f = (x f != odd (min k (far f)))
  | 0, f, hf => by simp [itB, odd]
  | k + 1, f, hf => by
    have ih := fun g hg => itB_far H k g hg
    show stepB n ring (itB n ring k x) f = _
    unfold stepB
    rw [ih f hf]
    by_cases h0 : far f = 0
    · have hh := (H.zero f hf).mp h0
      have : heldB n ring (itB n ring k x) f = true := by
        rw [held_iff] at hh ⊢
        refine hh.imp id fun ⟨g, h1, h2⟩ => ⟨g, h1, ?_⟩
        have hg := near_lt hf h1
        have : far g = 0 := (H.zero g hg).mpr (held_iff.mpr (.inr ⟨f, near_sym hf h1, h2.symm⟩))
        rw [ih g hg, ih f hf, this, h0, h2]
      rw [if_pos this, h0]
      simp
    · have nh : ¬ ((nearN n ring f).length < 2 ∨ ∃ g, g ∈ nearN n ring f ∧ x g = x f) := fun z => h0 ((H.zero f hf).mpr (held_iff.mpr z))
      have nx : ∀ g, g ∈ nearN n ring f → x g = !x f := fun g hg => by
        have : x g ≠ x f := fun e => nh (.inr ⟨g, hg, e⟩)
        revert this
        cases x g <;> cases x f <;> simp
      by_cases hk : k < far f
      · have : ¬ heldB n ring (itB n ring k x) f = true := by
          rw [held_iff]
          rintro (h | ⟨g, h1, h2⟩)
          · exact nh (.inl h)
          · have hg := near_lt hf h1
            have hl := H.lip f g hf h1
            rw [ih g hg, ih f hf, nx g h1, Nat.min_eq_left (by omega), Nat.min_eq_left (by omega)] at h2
            revert h2
            cases x f <;> cases odd k <;> simp
        rw [if_neg this, Nat.min_eq_left (by omega), Nat.min_eq_left (by omega), odd_succ]
        cases x f <;> cases odd k <;> rfl
      · obtain ⟨g, h1, h2⟩ := H.wit f hf (by omega)
        have hg := near_lt hf h1
        have : heldB n ring (itB n ring k x) f = true := by
          rw [held_iff]
          refine .inr ⟨g, h1, ?_⟩
          rw [ih g hg, ih f hf, nx g h1, Nat.min_eq_right (by omega), Nat.min_eq_right (by omega), ← h2, odd_succ]
          cases x f <;> cases odd (far g) <;> rfl
        rw [if_pos this, Nat.min_eq_right (by omega), Nat.min_eq_right (by omega)]
theorem itB_free {n : Nat} {ring : Bool} {x : Cfg} (H : ∀ f, f < n → heldB n ring x f = false) : ∀ k f, f < n → itB n ring k x f = (x f != odd k)
  | 0, f, hf => by simp [itB, odd]
  | k + 1, f, hf => by
    have ih := fun g hg => itB_free H k g hg
    show stepB n ring (itB n ring k x) f = _
    unfold stepB
    have : ¬ heldB n ring (itB n ring k x) f = true := by
      have h := H f hf
      rw [held_iff]
      rintro (h | ⟨g, h1, h2⟩)
      · exact absurd (held_iff.mpr (.inl h)) (by rw [H f hf]; simp)
      · rw [ih g (near_lt hf h1), ih f hf] at h2
        have : x g = x f := by
          revert h2
          cases x f <;> cases x g <;> cases odd k <;> simp
        exact absurd (held_iff.mpr (.inr ⟨g, h1, this⟩)) (by rw [H f hf]; simp)
    rw [if_neg this, ih f hf, odd_succ]
    cases x f <;> cases odd k <;> rfl
/-- b f: lowered to one more than p f's (where it counts) -/
def low (n : Nat) (p : Nat → Nat) (ok : Nat → Bool) (a : Nat → Nat) (f : Nat) : Nat → Nat := fun j => if j = f then min (a f) (if ok f = true then a (p f) + 1 else n) else a j
/-- on a sequence: b i lowered to one more than b (i-1) -/
def lowS (b : Nat → Nat) (i : Nat) : Nat → Nat := fun j => if j = i then min (b i) (b (i - 1) + 1) else b j
/-- one sweep from 1 on -/
theorem sweep1 : ∀ (m : Nat) (s : Nat) (b : Nat → Nat), 1 ≤ s → (∀ j, 1 ≤ j → j < s → b j ≤ b (j - 1) + 1) →
    ∃ c, c = (List.range' s m).foldl lowS b ∧ c 0 = b 0 ∧ (∀ j, 1 ≤ j → j < s + m → c j ≤ c (j - 1) + 1) ∧ (∀ j, j < s ∨ s + m ≤ j → c j = b j)
  | 0, s, b, hs, h => ⟨b, rfl, rfl, fun j h1 h2 => h j h1 (by omega), fun _ _ => rfl⟩
  | m + 1, s, b, hs, h => by
    obtain ⟨c, e, c0, c1, c2⟩ := sweep1 m (s + 1) (lowS b s) (by omega) fun j h1 h2 => by
      unfold lowS
      by_cases e : j = s
      · rw [if_pos e, if_neg (by omega), e]; exact Nat.min_le_right _ _
      · rw [if_neg e, if_neg (by omega)]; exact h j h1 (by omega)
    refine ⟨c, by rw [e, List.range'_succ, List.foldl_cons], ?_, fun j h1 h2 => c1 j h1 (by omega), fun j hj => ?_⟩
    · rw [c0]; unfold lowS; rw [if_neg (by omega)]
    · by_cases e : j = s
      · omega
      · rw [c2 j (by omega)]; unfold lowS; rw [if_neg e]
/-- a second one, when the first has been: what changes lies at c 0 or above -/
theorem sweep2 : ∀ (m : Nat) (s : Nat) (b a : Nat → Nat), 1 ≤ s → (∀ j, 1 ≤ j → a j ≤ a (j - 1) + 1 ∨ s + m ≤ j) → (∀ j, j < s → b j = a j ∨ b 0 ≤ b j) → (∀ j, s ≤ j → b j = a j) →
    ∀ c, c = (List.range' s m).foldl lowS b → (∀ j, j < s + m → c j = a j ∨ b 0 ≤ c j) ∧ c 0 = b 0
  | 0, s, b, a, hs, ha, h1, h2, c, e => by
    have e : c = b := e
    subst e
    exact ⟨fun j hj => h1 j (by omega), rfl⟩
  | m + 1, s, b, a, hs, ha, h1, h2, c, e => by
    rw [List.range'_succ, List.foldl_cons] at e
    have e0 : lowS b s 0 = b 0 := by unfold lowS; rw [if_neg (by omega)]
    obtain ⟨q1, q2⟩ := sweep2 m (s + 1) (lowS b s) a (by omega) (fun j hj => (ha j hj).imp id (by omega)) (fun j hj => by
      rw [e0]
      unfold lowS
      by_cases ej : j = s
      · rw [if_pos ej, ej]
        have as := h2 s (Nat.le_refl _)
        rcases h1 (s - 1) (by omega) with z | z
        · left
          rcases ha s hs with y | y
          · rw [as, z]; exact Nat.min_eq_left y
          · omega
        · rcases Nat.le_total (b s) (b (s - 1) + 1) with y | y
          · left; rw [Nat.min_eq_left y]; exact as
          · right; rw [Nat.min_eq_right y]; omega
      · rw [if_neg ej]; exact h1 j (by omega)) (fun j hj => by
      unfold lowS
      rw [if_neg (by omega)]; exact h2 j (by omega)) c e
    rw [e0] at q1 q2
    exact ⟨fun j hj => q1 j (by omega), q2⟩
/-- round the ring twice: all are near -/
theorem sweepR {n : Nat} (hn : 0 < n) (b : Nat → Nat) (hb : ∀ j, 1 ≤ j → j < n → b j ≤ b (j - 1) + 1) (b' c : Nat → Nat) (e1 : b' = fun j => if j = 0 then min (b 0) (b (n - 1) + 1) else b j)
    (e2 : c = (List.range' 1 (n - 1)).foldl lowS b') : (∀ j, 1 ≤ j → j < n → c j ≤ c (j - 1) + 1) ∧ c 0 ≤ c (n - 1) + 1 := by
  obtain ⟨c', ec, c0, c1, _⟩ := sweep1 (n - 1) 1 b' (Nat.le_refl _) fun j h1 h2 => by omega
  rw [← e2] at ec
  subst ec
  refine ⟨fun j h1 h2 => c1 j h1 (by omega), ?_⟩
  obtain ⟨q, q0⟩ := sweep2 (n - 1) 1 b' b (Nat.le_refl _) (fun j hj => by
    by_cases h : j < n
    · exact .inl (hb j hj h)
    · exact .inr (by omega)) (fun j hj => by
    have : j = 0 := by omega
    subst this
    exact .inr (Nat.le_refl _)) (fun j hj => by rw [e1]; simp only; rw [if_neg (by omega)]) c' e2
  rw [q0]
  have b0 : b' 0 = min (b 0) (b (n - 1) + 1) := by rw [e1]; simp
  rcases q (n - 1) (by omega) with z | z
  · rw [z, b0]; exact Nat.min_le_right _ _
  · omega
structure Inv (n : Nat) (ring : Bool) (x : Cfg) (a : Nat → Nat) : Prop where
  zero : ∀ f, f < n → (a f = 0 ↔ heldB n ring x f = true)
  le : ∀ f, f < n → a f ≤ n
  exp : ∀ f, f < n → a f = 0 ∨ a f = n ∨ ∃ g, g ∈ nearN n ring f ∧ a g + 1 ≤ a f
theorem inv_low {n : Nat} {ring : Bool} {x : Cfg} {a : Nat → Nat} {p : Nat → Nat} {ok : Nat → Bool} {f : Nat} (h : Inv n ring x a) (hf : f < n) (hp : ok f = true → p f ∈ nearN n ring f) : Inv n ring x (low n p ok a f) := by
  have le : ∀ j, low n p ok a f j ≤ a j := fun j => by
    unfold TT.low
    split
    · rename_i e; rw [e]; exact Nat.min_le_left _ _
    · exact Nat.le_refl _
  have pos : ∀ j, j < n → 0 < a j → 0 < low n p ok a f j := fun j hj hp => by
    unfold TT.low
    split
    · rename_i e
      rw [← e]
      split <;> omega
    · exact hp
  refine ⟨fun j hj => ?_, fun j hj => Nat.le_trans (le j) (h.le j hj), fun j hj => ?_⟩
  · rw [← h.zero j hj]
    refine ⟨fun e => ?_, fun e => by have := le j; omega⟩
    rcases Nat.eq_zero_or_pos (a j) with z | z
    · exact z
    · have := pos j hj z; omega
  · have old : a j = 0 ∨ a j = n ∨ ∃ g, g ∈ nearN n ring j ∧ low n p ok a f g + 1 ≤ a j := (h.exp j hj).imp id fun z => z.imp id fun ⟨g, h1, h2⟩ => ⟨g, h1, by have := le g; omega⟩
    by_cases e : j = f
    · subst e
      have ev : low n p ok a j j = min (a j) (if ok j = true then a (p j) + 1 else n) := by unfold TT.low; rw [if_pos rfl]
      by_cases hm : a j ≤ (if ok j = true then a (p j) + 1 else n)
      · rw [ev, Nat.min_eq_left hm]; exact old
      · rw [ev, Nat.min_eq_right (by omega)]
        by_cases hk : ok j = true
        · rw [if_pos hk]
          refine .inr (.inr ⟨p j, hp hk, ?_⟩)
          have := le (p j); omega
        · rw [if_neg hk]; exact .inr (.inl rfl)
    · have ev : low n p ok a f j = a j := by unfold TT.low; rw [if_neg e]
      rw [ev]; exact old
theorem inv_fold {n : Nat} {ring : Bool} {x : Cfg} {p : Nat → Nat} {ok : Nat → Bool} (hp : ∀ f, f < n → ok f = true → p f ∈ nearN n ring f) : ∀ (L : List Nat) (a : Nat → Nat), Inv n ring x a → (∀ f ∈ L, f < n) → Inv n ring x (L.foldl (low n p ok) a)
  | [], _, h, _ => h
  | f :: L, a, h, hl => inv_fold hp L _ (inv_low h (hl f List.mem_cons_self) (hp f (hl f List.mem_cons_self))) fun g hg => hl g (List.mem_cons_of_mem _ hg)
/-- a sweep told on the sequence e -/
theorem fold_seq {n : Nat} {p : Nat → Nat} {ok : Nat → Bool} {e : Nat → Nat} (inj : ∀ i j, i < n → j < n → e i = e j → i = j) (hp : ∀ i, 1 ≤ i → i < n → p (e i) = e (i - 1) ∧ ok (e i) = true) :
    ∀ (L : List Nat) (a b : Nat → Nat), (∀ i, i < n → a (e i) = b i) → (∀ i ∈ L, 1 ≤ i ∧ i < n) → ∀ i, i < n → (L.map e).foldl (low n p ok) a (e i) = L.foldl lowS b i
  | [], a, b, h, _, i, hi => h i hi
  | k :: L, a, b, h, hl, i, hi => by
    rw [List.map_cons, List.foldl_cons, List.foldl_cons]
    obtain ⟨h1, h2⟩ := hl k List.mem_cons_self
    refine fold_seq inj hp L _ _ (fun j hj => ?_) (fun j hj => hl j (List.mem_cons_of_mem _ hj)) i hi
    unfold low lowS
    by_cases ej : j = k
    · subst ej
      rw [if_pos rfl, if_pos rfl, (hp j h1 h2).1, (hp j h1 h2).2, if_pos rfl, h j hj, h (j - 1) (by omega)]
    · rw [if_neg fun z => ej (inj j k hj h2 z), if_neg ej, h j hj]
theorem range'_lt {n i : Nat} (h : i ∈ List.range' 1 (n - 1)) : 1 ≤ i ∧ i < n := by
  rw [List.mem_range'_1] at h; omega
/-- once round: all but the first are near the one ahead -/
theorem lap {n : Nat} (hn : 0 < n) {p : Nat → Nat} {ok : Nat → Bool} {e : Nat → Nat} (inj : ∀ i j, i < n → j < n → e i = e j → i = j) (hp : ∀ i, 1 ≤ i → i < n → p (e i) = e (i - 1) ∧ ok (e i) = true) (a : Nat → Nat) :
    ∀ i, 1 ≤ i → i < n → ((List.range' 1 (n - 1)).map e).foldl (low n p ok) a (e i) ≤ ((List.range' 1 (n - 1)).map e).foldl (low n p ok) a (e (i - 1)) + 1 := by
  intro i h1 h2
  obtain ⟨c, ec, _, c1, _⟩ := sweep1 (n - 1) 1 (fun i => a (e i)) (Nat.le_refl _) fun j h1 h2 => by omega
  have q := fold_seq inj hp (List.range' 1 (n - 1)) a (fun i => a (e i)) (fun _ _ => rfl) (fun i hi => range'_lt hi)
  rw [q i h2, q (i - 1) (by omega), ← ec]
  exact c1 i h1 (by omega)
/-- .. and the first too, on a ring, the second time -/
theorem lapR {n : Nat} (hn : 0 < n) {p : Nat → Nat} {ok : Nat → Bool} {e : Nat → Nat} (inj : ∀ i j, i < n → j < n → e i = e j → i = j) (hp : ∀ i, 1 ≤ i → i < n → p (e i) = e (i - 1) ∧ ok (e i) = true) (hw : p (e 0) = e (n - 1) ∧ ok (e 0) = true) (a : Nat → Nat)
    (ha : ∀ i, 1 ≤ i → i < n → a (e i) ≤ a (e (i - 1)) + 1) : ∀ c, c = (e 0 :: (List.range' 1 (n - 1)).map e).foldl (low n p ok) a → (∀ i, 1 ≤ i → i < n → c (e i) ≤ c (e (i - 1)) + 1) ∧ c (e 0) ≤ c (e (n - 1)) + 1 := by
  intro c ec
  rw [List.foldl_cons] at ec
  have hb : ∀ i, i < n → low n p ok a (e 0) (e i) = (fun j => if j = 0 then min (a (e 0)) (a (e (n - 1)) + 1) else a (e j)) i := fun i hi => by
    unfold low
    by_cases ei : i = 0
    · subst ei
      simp only [if_true]
      rw [hw.1, hw.2, if_pos rfl]
    · rw [if_neg fun z => ei (inj i 0 hi hn z)]
      simp only [if_neg ei]
  have q := fold_seq inj hp (List.range' 1 (n - 1)) (low n p ok a (e 0)) _ hb (fun i hi => range'_lt hi)
  obtain ⟨r1, r2⟩ := sweepR hn (fun i => a (e i)) (fun j h1 h2 => ha j h1 h2) _ _ rfl rfl
  rw [ec]
  refine ⟨fun i h1 h2 => ?_, ?_⟩
  · rw [q i h2, q (i - 1) (by omega)]; exact r1 i h1 h2
  · rw [q 0 hn, q (n - 1) (by omega)]; exact r2
/-- the sweep back keeps what the sweep on brought -/
theorem back_keeps {n : Nat} {ring : Bool} {a : Nat → Nat} (h : ∀ f, f < n → (ring = true ∨ 0 < f) → a f ≤ a (prd n f) + 1) (le : ∀ f, f < n → a f ≤ n) {f : Nat} (hf : f < n) :
    (∀ j, j < n → (ring = true ∨ 0 < j) → low n (suc n) (fun f => ring || decide (f + 1 < n)) a f j ≤ low n (suc n) (fun f => ring || decide (f + 1 < n)) a f (prd n j) + 1) := by
  intro j hj hr
  have hh := h j hj hr
  have hl := le f hf
  have hsp : j = f → prd n j = f → True := fun _ _ => trivial
  have hps : prd n j = f → (ring || decide (f + 1 < n)) = true → suc n f = j := fun e k => by
    unfold prd at e
    unfold suc
    have k : ring = true ∨ f + 1 < n := by simpa using k
    split at e <;> split <;> omega
  unfold low
  by_cases e1 : j = f
  · rw [if_pos e1]
    by_cases e2 : prd n j = f
    · rw [if_pos e2]; omega
    · rw [if_neg e2, ← e1]
      exact Nat.le_trans (Nat.min_le_left _ _) hh
  · rw [if_neg e1]
    by_cases e2 : prd n j = f
    · rw [if_pos e2]
      rw [e2] at hh
      by_cases k : (ring || decide (f + 1 < n)) = true
      · rw [if_pos k, hps e2 k]; omega
      · rw [if_neg k, Nat.min_eq_left hl]; exact hh
    · rw [if_neg e2]; exact hh
theorem back_keeps_all {n : Nat} {ring : Bool} : ∀ (L : List Nat) (a : Nat → Nat), (∀ f, f < n → (ring = true ∨ 0 < f) → a f ≤ a (prd n f) + 1) → (∀ f, f < n → a f ≤ n) → (∀ f ∈ L, f < n) →
    ∀ j, j < n → (ring = true ∨ 0 < j) → L.foldl (low n (suc n) (fun f => ring || decide (f + 1 < n))) a j ≤ L.foldl (low n (suc n) (fun f => ring || decide (f + 1 < n))) a (prd n j) + 1
  | [], a, h, le, _ => h
  | f :: L, a, h, le, hl => back_keeps_all L _ (back_keeps h le (hl f List.mem_cons_self)) (fun j hj => by
    unfold low
    split
    · rename_i e; rw [← e]; exact Nat.le_trans (Nat.min_le_left _ _) (le j hj)
    · exact le j hj) fun g hg => hl g (List.mem_cons_of_mem _ hg)
def far0 (n : Nat) (ring : Bool) (x : Cfg) : Nat → Nat := fun f => if heldB n ring x f = true then 0 else n
def on1 (n : Nat) (ring : Bool) : List Nat := List.range' 1 (n - 1) ++ (if ring = true then List.range n else [])
def back1 (n : Nat) : List Nat := (List.range n ++ List.range n).reverse
def farP (n : Nat) (ring : Bool) (x : Cfg) : Nat → Nat := (back1 n).foldl (low n (suc n) (fun f => ring || decide (f + 1 < n))) ((on1 n ring).foldl (low n (prd n) (fun f => ring || decide (0 < f))) (far0 n ring x))
theorem range_cons {n : Nat} (hn : 0 < n) : List.range n = 0 :: List.range' 1 (n - 1) := by
  rw [List.range_eq_range']
  obtain ⟨m, rfl⟩ : ∃ m, n = m + 1 := ⟨n - 1, by omega⟩
  rw [List.range'_succ]; rfl
theorem range_rev (n : Nat) : (List.range n).reverse = (List.range n).map fun i => n - 1 - i := by
  rw [List.range_eq_range', List.reverse_range', ← List.range_eq_range']
  exact List.map_congr_left fun a _ => by omega
theorem farP_far {n : Nat} {ring : Bool} {x : Cfg} (hn : 0 < n) (some : ∃ f, f < n ∧ heldB n ring x f = true) : Far n ring x (farP n ring x) := by
  -- the start
  have i0 : Inv n ring x (far0 n ring x) := by
    refine ⟨fun f hf => ?_, fun f hf => ?_, fun f hf => ?_⟩ <;> unfold far0
    · split <;> simp_all; omega
    · split <;> omega
    · split
      · exact .inl rfl
      · exact .inr (.inl rfl)
  have pr : ∀ f, f < n → (ring || decide (0 < f)) = true → prd n f ∈ nearN n ring f := fun f hf k => by
    rw [near_mem hf]
    have k : ring = true ∨ 0 < f := by simpa using k
    cases ring with
    | true => exact .inl ⟨rfl, .inl rfl⟩
    | false =>
      have k : 0 < f := k.resolve_left (by simp)
      exact .inr ⟨rfl, .inl ⟨k, by unfold prd; rw [if_neg (by omega)]⟩⟩
  have su : ∀ f, f < n → (ring || decide (f + 1 < n)) = true → suc n f ∈ nearN n ring f := fun f hf k => by
    rw [near_mem hf]
    have k : ring = true ∨ f + 1 < n := by simpa using k
    cases ring with
    | true => exact .inl ⟨rfl, .inr rfl⟩
    | false =>
      have k : f + 1 < n := k.resolve_left (by simp)
      exact .inr ⟨rfl, .inr ⟨k, by unfold suc; rw [if_neg (by omega)]⟩⟩
  have l1 : ∀ f ∈ on1 n ring, f < n := fun f hf => by
    unfold on1 at hf
    rw [List.mem_append] at hf
    rcases hf with h | h
    · exact (range'_lt h).2
    · split at h
      · exact List.mem_range.mp h
      · cases h
  have l2 : ∀ f ∈ back1 n, f < n := fun f hf => by
    unfold back1 at hf
    simpa using hf
  have i1 := inv_fold pr (on1 n ring) _ i0 l1
  have i2 := inv_fold su (back1 n) _ i1 l2
  -- the sweep on
  have f1 : ∀ f, f < n → (ring = true ∨ 0 < f) → (on1 n ring).foldl (low n (prd n) (fun f => ring || decide (0 < f))) (far0 n ring x) f ≤ (on1 n ring).foldl (low n (prd n) (fun f => ring || decide (0 < f))) (far0 n ring x) (prd n f) + 1 := by
    have hp : ∀ i, 1 ≤ i → i < n → prd n (id i) = id (i - 1) ∧ (ring || decide (0 < id i)) = true := fun i h1 h2 => ⟨by unfold prd; rw [if_neg (by simp; omega)]; rfl, by simp; exact .inr (by omega)⟩
    have lp := lap (p := prd n) (ok := fun f => ring || decide (0 < f)) (e := id) hn (fun _ _ _ _ e => e) hp (far0 n ring x)
    rw [List.map_id] at lp
    intro f hf hr
    cases ring with
    | false =>
      have hr : 0 < f := hr.resolve_left (by simp)
      have e : on1 n false = List.range' 1 (n - 1) := by unfold on1; simp
      rw [e]
      have := lp f hr hf
      unfold prd
      rw [if_neg (by omega)]
      exact this
    | true =>
      have e : on1 n true = List.range' 1 (n - 1) ++ (id 0 :: (List.range' 1 (n - 1)).map id) := by unfold on1; rw [if_pos rfl, range_cons hn, List.map_id]; rfl
      rw [e, List.foldl_append]
      obtain ⟨r1, r2⟩ := lapR (p := prd n) (ok := fun f => true || decide (0 < f)) (e := id) hn (fun _ _ _ _ e => e) hp ⟨by unfold prd; simp, by simp⟩ _ lp _ rfl
      unfold prd
      split
      · rename_i z; rw [z]; exact r2
      · exact r1 f (by omega) hf
  -- the sweep back
  have b2 := back_keeps_all (back1 n) _ f1 (fun f hf => i1.le f hf) l2
  have g2 : ∀ f, f < n → (ring = true ∨ f + 1 < n) → farP n ring x f ≤ farP n ring x (suc n f) + 1 := by
    let e : Nat → Nat := fun i => n - 1 - i
    have inj : ∀ i j, i < n → j < n → e i = e j → i = j := fun i j hi hj h => by have h : n - 1 - i = n - 1 - j := h; omega
    have hp : ∀ i, 1 ≤ i → i < n → suc n (e i) = e (i - 1) ∧ (ring || decide (e i + 1 < n)) = true := fun i h1 h2 => ⟨by
      show suc n (n - 1 - i) = n - 1 - (i - 1)
      unfold suc
      rw [if_neg (by omega)]; omega, by
      have : n - 1 - i + 1 < n := by omega
      show (ring || decide (n - 1 - i + 1 < n)) = true
      simp [this]⟩
    have el : back1 n = (e 0 :: (List.range' 1 (n - 1)).map e) ++ (e 0 :: (List.range' 1 (n - 1)).map e) := by
      unfold back1
      rw [List.reverse_append, range_rev, range_cons hn, List.map_cons]
    have fin : ∀ f, f < n → f + 1 < n → (∃ i, 1 ≤ i ∧ i < n ∧ f = e i ∧ suc n f = e (i - 1)) := fun f hf h => ⟨n - 1 - f, by omega, by omega, by show f = n - 1 - (n - 1 - f); omega, by
      show suc n f = n - 1 - (n - 1 - f - 1)
      unfold suc
      rw [if_neg (by omega)]; omega⟩
    intro f hf hr
    unfold farP
    rw [el, List.foldl_append, List.foldl_cons]
    have lp := fun a => lap (p := suc n) (ok := fun f => ring || decide (f + 1 < n)) (e := e) hn inj hp a
    by_cases hf1 : f + 1 < n
    · obtain ⟨i, h1, h2, rfl, h4⟩ := fin f hf hf1
      rw [h4, List.foldl_cons]
      exact lp _ i h1 h2
    · have hr : ring = true := hr.resolve_right hf1
      subst hr
      obtain ⟨_, r2⟩ := lapR (p := suc n) (ok := fun f => true || decide (f + 1 < n)) (e := e) hn inj hp ⟨by
        show suc n (n - 1 - 0) = n - 1 - (n - 1)
        unfold suc
        rw [if_pos (by omega)]; omega, by simp⟩ _ (lp _) _ rfl
      have e0 : f = e 0 := by show f = n - 1 - 0; omega
      have e1 : suc n f = e (n - 1) := by
        show suc n f = n - 1 - (n - 1)
        unfold suc
        rw [if_pos (by omega)]; omega
      rw [e1, e0]
      exact r2
  have lip : ∀ f g, f < n → g ∈ nearN n ring f → farP n ring x f ≤ farP n ring x g + 1 := fun f g hf hg => by
    rw [near_mem hf] at hg
    rcases hg with ⟨h, rfl | rfl⟩ | ⟨h, ⟨h1, rfl⟩ | ⟨h1, rfl⟩⟩
    · exact b2 f hf (.inl h)
    · exact g2 f hf (.inl h)
    · have := b2 f hf (.inr h1)
      have e : prd n f = f - 1 := by unfold prd; rw [if_neg (by omega)]
      rw [e] at this; exact this
    · have := g2 f hf (.inr h1)
      have e : suc n f = f + 1 := by unfold suc; rw [if_neg (by omega)]
      rw [e] at this; exact this
  refine ⟨i2.zero, lip, fun f hf h0 => ?_⟩
  rcases i2.exp f hf with h | h | ⟨g, h1, h2⟩
  · exact absurd h (by unfold farP at h0; omega)
  · -- so far off is nobody
    obtain ⟨h', hh, hd⟩ := some
    have z := (i2.zero h' hh).mpr hd
    have up : ∀ k, h' + k < n → farP n ring x (h' + k) ≤ k := fun k => by
      induction k with
      | zero => intro _; show farP n ring x h' ≤ 0; unfold farP; omega
      | succ k ih =>
        intro hk
        have := b2 (h' + (k + 1)) hk (.inr (by omega))
        have e : prd n (h' + (k + 1)) = h' + k := by unfold prd; rw [if_neg (by omega)]; omega
        rw [e] at this
        have i := ih (by omega)
        unfold farP at i ⊢
        omega
    have dn : ∀ k, k ≤ h' → farP n ring x (h' - k) ≤ k := fun k => by
      induction k with
      | zero => intro _; show farP n ring x h' ≤ 0; unfold farP; omega
      | succ k ih =>
        intro hk
        have := g2 (h' - (k + 1)) (by omega) (.inr (by omega))
        have e : suc n (h' - (k + 1)) = h' - k := by unfold suc; rw [if_neg (by omega)]; omega
        rw [e] at this
        have i := ih (by omega)
        omega
    have h : farP n ring x f = n := h
    rcases Nat.le_total h' f with q | q
    · have := up (f - h') (by omega)
      have e : h' + (f - h') = f := by omega
      rw [e] at this; omega
    · have := dn (h' - f) (by omega)
      have e : h' - (h' - f) = f := by omega
      rw [e] at this; omega
  · refine ⟨g, h1, ?_⟩
    have := lip f g hf h1
    unfold farP at this ⊢
    omega
end TT
namespace TT
open PySem L2
@[simp] theorem frzL_nil : frzL [] = [] := by rw [frzL]
@[simp] theorem frzL_cons (d : D) (r : List D) : frzL (d :: r) = d.frz :: frzL r := by rw [frzL]
@[simp] theorem wipeE_nil (e : Env) : wipeE e [] = e := rfl
@[simp] theorem wipeE_cons (e : Env) (v : Nat) (vs : List Nat) : wipeE e (v :: vs) = (wipeE e vs).set v none := rfl
theorem size_le {n : Nat} (h : n ≤ 100000) : n ≤ sizeLine := Nat.le_trans h (by rw [sizeLine_eq]; decide)
@[simp] theorem begin_eq (N ps : List Str) (env : Env) : begin N ps env = env ++ List.replicate (N.length - ps.length) none := rfl
/-- side c, plus or minus -/
def sg (c : Nat) (b : Bool) : Int := if b = true then (c : Int) + 1 else -((c : Int) + 1)
theorem sg_neg (c : Nat) (b : Bool) : -sg c b = sg c (!b) := by
  unfold sg
  cases b <;> simp <;> omega
def rowI (m : Nat) (y : Nat → Bool) : List Int := (List.range m).map fun c => sg c (y c)
def stD (n m : Nat) (x : Nat → Nat → Bool) : List D := (List.range n).map fun f => rowD (rowI m (x f))
@[simp] theorem stD_length (n m x) : (stD n m x).length = n := by simp [stD]
@[simp] theorem rowI_length (m y) : (rowI m y).length = m := by simp [rowI]
@[simp] theorem stD_frz (n m x) : (stD n m x).map D.frz = stD n m x := by
  unfold stD
  rw [List.map_map]
  exact List.map_congr_left fun f _ => frz_rowD _
abbrev col (x : Nat → Nat → Bool) (c : Nat) : Cfg := fun f => x f c
def natsD (l : List Nat) : List D := l.map fun g => .int (g : Nat)
@[simp] theorem natsD_length (l) : (natsD l).length = l.length := by simp [natsD]
@[simp] theorem natsD_frz (l : List Nat) : (natsD l).map D.frz = natsD l := by
  unfold natsD
  rw [List.map_map]
  exact List.map_congr_left fun f _ => frz_int _
def farL (n : Nat) (a : Nat → Nat) : List D := (List.range n).map fun f => .int (a f : Nat)
@[simp] theorem farL_length (n a) : (farL n a).length = n := by simp [farL]
@[simp] theorem farL_frz (n a) : (farL n a).map D.frz = farL n a := by
  unfold farL
  rw [List.map_map]
  exact List.map_congr_left fun f _ => frz_int _
def anyHeld (n : Nat) (ring : Bool) (x : Cfg) : Bool := (List.range n).any fun f => heldB n ring x f
def farD (o : Bool) (n : Nat) (ring : Bool) (x : Cfg) : D := if anyHeld n ring x = true then .lst o (farL n (farP n ring x)) else .non
@[simp] theorem farD_frz (o n ring x) : (farD o n ring x).frz = farD false n ring x := by
  unfold farD
  split <;> simp
@[simp] theorem nfE_fin (n : Nat) (e : Env) : nfE (fin [] n e) = true := by
  rw [fin_nil]
  induction n with
  | zero => rfl
  | succ n ih => rw [List.replicate_succ]; exact ih
theorem odd_int (k : Nat) : ((k : Int) % 2 = 0) ↔ odd k = false := by
  unfold odd
  rw [decide_eq_false_iff_not]
  omega
end TT
namespace TT
open PySem PySem.Spec PyProof.Rows L2
abbrev Fz {α : Type} (e e' : α → D) : Prop := ∀ a, (e a).frz = e' a
abbrev Nf {α : Type} (e : α → D) : Prop := ∀ a, (e a).nf = true
theorem szl : 0 < sizeLine ∧ 1 < sizeLine ∧ 2 < sizeLine ∧ 3 < sizeLine ∧ 4 < sizeLine ∧ 5 < sizeLine ∧ 6 < sizeLine := by rw [sizeLine_eq]; decide
section
variable {α β γ δ : Type} {o : Bool} {e e' f f' : α → D} {ea ea' : α → D} {eb eb' : β → D} {ec ec' : γ → D}
def eL (o : Bool) (e : α → D) (xs : List α) : D := .lst o (xs.map e)
def eQ (e : α → D) (xs : List α) : D := .kst (xs.map e)
def eT (e : α → D) (xs : List α) : D := .tup (xs.map e)
def e1 (ea : α → D) (p : α) : D := .tup [ea p]
def e2 (ea : α → D) (eb : β → D) (p : α × β) : D := .tup [ea p.1, eb p.2]
def e3 (ea : α → D) (eb : β → D) (ec : γ → D) (p : α × β × γ) : D := .tup [ea p.1, eb p.2.1, ec p.2.2]
def e4 {δ : Type} (ea : α → D) (eb : β → D) (ec : γ → D) (ed : δ → D) (p : α × β × γ × δ) : D := .tup [ea p.1, eb p.2.1, ec p.2.2.1, ed p.2.2.2]
def e0 (_ : Unit) : D := .tup []
def eN (_ : Unit) : D := .non
def eO (e : α → D) : Option α → D
  | none => .non
  | some a => e a
/-- dicts by ints -/
def eK (o : Bool) (e : α → D) (kvs : List (Int × α)) : D := .dct o (kvs.map fun p => (.inl p.1, e p.2))
theorem fzI : Fz D.int D.int := frz_int
theorem fzB : Fz D.bl D.bl := frz_bl
theorem fzS : Fz D.str D.str := frz_str
theorem fzN : Fz eN eN := fun _ => frz_non
theorem fzL (h : Fz e e') : Fz (eL o e) (eL false e') := fun xs => by unfold eL; rw [frz_lst, List.map_map]; exact congrArg _ (List.map_congr_left fun a _ => h a)
theorem fzQ (h : Fz e e') : Fz (eQ e) (eQ e') := fun xs => by unfold eQ; rw [frz_kst, List.map_map]; exact congrArg _ (List.map_congr_left fun a _ => h a)
theorem fzT (h : Fz e e') : Fz (eT e) (eT e') := fun xs => by unfold eT; rw [frz_tup, List.map_map]; exact congrArg _ (List.map_congr_left fun a _ => h a)
theorem fz2 (ha : Fz ea ea') (hb : Fz eb eb') : Fz (e2 ea eb) (e2 ea' eb') := fun p => by unfold e2; simp [ha _, hb _]
theorem fz3 (ha : Fz ea ea') (hb : Fz eb eb') (hc : Fz ec ec') : Fz (e3 ea eb ec) (e3 ea' eb' ec') := fun p => by unfold e3; simp [ha _, hb _, hc _]
theorem fzO (h : Fz e e') : Fz (eO e) (eO e') := fun x => match x with
  | none => frz_non
  | some a => h a
theorem fzK (h : Fz e e') : Fz (eK o e) (eK false e') := fun xs => by unfold eK; rw [frz_dct, List.map_map]; exact congrArg _ (List.map_congr_left fun a _ => by show (_, (e a.2).frz) = _; rw [h])
theorem nvI : Nf D.int := nf_int
theorem nvL (h : Nf e) : Nf (eL true e) := fun xs => by unfold eL; rw [nf_lst, List.all_map, Bool.true_and, List.all_eq_true]; exact fun a _ => h a
theorem nv2 (ha : Nf ea) (hb : Nf eb) : Nf (e2 ea eb) := fun p => by unfold e2; simp [ha _, hb _]
theorem nfE0 : nfE [] = true := rfl
theorem nfEn {env : Env} (h : nfE env = true) : nfE (none :: env) = true := h
theorem nfEs {env : Env} {d : D} (hd : d.nf = true) (h : nfE env = true) : nfE (some d :: env) = true := by rw [nfE_some, hd, h]; rfl
theorem frzL_e (h : Fz e e') (xs : List α) : frzL (xs.map e) = xs.map e' := by rw [frzL_map, List.map_map]; exact List.map_congr_left fun a _ => h a
end
section
variable {τ1 τ2 τ3 : Type} {o : Bool} {k1 k2 k3 : Str} {e1 fe1 : τ1 → D} {e2 fe2 : τ2 → D} {e3 fe3 : τ3 → D}
def eR3 (o : Bool) (k1 k2 k3 : Str) (e1 : τ1 → D) (e2 : τ2 → D) (e3 : τ3 → D) (p : τ1 × τ2 × τ3) : D := .dct o [(.inr k1, e1 p.1), (.inr k2, e2 p.2.1), (.inr k3, e3 p.2.2)]
theorem nvR3 (h1 : Nf e1) (h2 : Nf e2) (h3 : Nf e3) : Nf (eR3 true k1 k2 k3 e1 e2 e3) := fun p => by unfold eR3; rw [D.nf, nfK_all]; simp [nfL_all, h1 _, h2 _, h3 _]
theorem gR3_1 (p : τ1 × τ2 × τ3) : dget (eR3 o k1 k2 k3 e1 e2 e3 p) (.str k1) = some (some (e1 p.1)) := by simp [eR3, dget, keyD, lookK]
theorem gR3_2 (p : τ1 × τ2 × τ3) (h1 : k1 ≠ k2 := by decide) : dget (eR3 o k1 k2 k3 e1 e2 e3 p) (.str k2) = some (some (e2 p.2.1)) := by simp [eR3, dget, keyD, lookK, h1]
theorem pR3_2 (p : τ1 × τ2 × τ3) (v : τ2) (h12 : k1 ≠ k2 := by decide) (h13 : k1 ≠ k3 := by decide) (h23 : k2 ≠ k3 := by decide) : putX (eR3 true k1 k2 k3 e1 e2 e3 p) (.str k2) (e2 v) = some (eR3 true k1 k2 k3 e1 e2 e3 (p.1, v, p.2.2)) := by simp [eR3, putX, keyD, putD, szl, h12, h13, h23, h12.symm, h13.symm, h23.symm]
theorem gR3_3 (p : τ1 × τ2 × τ3) (h1 : k1 ≠ k3 := by decide) (h2 : k2 ≠ k3 := by decide) : dget (eR3 o k1 k2 k3 e1 e2 e3 p) (.str k3) = some (some (e3 p.2.2)) := by simp [eR3, dget, keyD, lookK, h1, h2]
theorem pR3_3 (p : τ1 × τ2 × τ3) (v : τ3) (h12 : k1 ≠ k2 := by decide) (h13 : k1 ≠ k3 := by decide) (h23 : k2 ≠ k3 := by decide) : putX (eR3 true k1 k2 k3 e1 e2 e3 p) (.str k3) (e3 v) = some (eR3 true k1 k2 k3 e1 e2 e3 (p.1, p.2.1, v)) := by simp [eR3, putX, keyD, putD, szl, h12, h13, h23, h12.symm, h13.symm, h23.symm]
end
def Wp {α : Type} (m : Option α) (K : α → Prop) : Prop := ∃ a, m = some a ∧ K a
section
variable {α β γ σ ρ : Type} {P A B : Prop} {b : Bool}
theorem bindK {m : Option α} {f : α → Option β} {K : β → Prop} (H : Wp (m.bind f) K) (k : ∀ a, m = some a → Wp (f a) K → P) : P := by
  obtain ⟨y, h, hk⟩ := H
  cases m with
  | none => cases h
  | some a => exact k a rfl ⟨y, h, hk⟩
theorem wpSome {a : α} {K : α → Prop} (H : Wp (some a) K) : K a := by
  obtain ⟨y, h, hk⟩ := H
  cases h
  exact hk
theorem wpNone {K : α → Prop} (H : Wp (none : Option α) K) : P := by
  obtain ⟨y, h, hk⟩ := H
  cases h
theorem wpT {m1 m2 : Option α} {K : α → Prop} (hb : b = true) (H : Wp (if b = true then m1 else m2) K) : Wp m1 K := by rw [if_pos hb] at H; exact H
theorem wpF {m1 m2 : Option α} {K : α → Prop} (hb : b = false) (H : Wp (if b = true then m1 else m2) K) : Wp m2 K := by rw [hb, if_neg (by decide)] at H; exact H
theorem wpOf {m : Option α} {a : α} (h : m = some a) : Wp m (fun x => x = a) := ⟨a, h, rfl⟩
theorem iteB (h1 : b = true → A) (h2 : b = false → B) : if b = true then A else B := by
  cases b with
  | true => exact h1 rfl
  | false => rw [if_neg (by decide)]; exact h2 rfl
theorem wp_bind {m : Option α} {f : α → Option β} {K : β → Prop} (h : Wp m fun a => Wp (f a) K) : Wp (m.bind f) K := by
  obtain ⟨a, rfl, y, h, k⟩ := h
  exact ⟨y, h, k⟩
theorem wp_some {a : α} {K : α → Prop} (h : K a) : Wp (some a) K := ⟨a, rfl, h⟩
theorem wp_step {m : Option α} {a : α} {f : α → Option β} {K : β → Prop} (hm : m = some a) (h : Wp (f a) K) : Wp (m.bind f) K := by rw [hm]; exact h
theorem Wp.mono {m : Option α} {K K' : α → Prop} (h : Wp m K) (i : ∀ a, K a → K' a) : Wp m K' := by
  obtain ⟨a, e, k⟩ := h
  exact ⟨a, e, i a k⟩
theorem wp_ite {m1 m2 : Option α} {K : α → Prop} {p : Prop} [Decidable p] (h1 : p → Wp m1 K) (h2 : ¬ p → Wp m2 K) : Wp (if p then m1 else m2) K := by
  split
  · exact h1 (by assumption)
  · exact h2 (by assumption)
theorem g_and {c : TXT} {QB : Bool → Env → Prop} {env : Env} {b' : Bool} (J : QB (b && b') env) (h : b = true → ∀ Q' : Bool → Env → Prop, Q' b' env → c env Q') : if b = true then c env QB else QB false env := by
  cases b with
  | true => exact h rfl QB J
  | false => exact J
theorem g_orP {c : TXT} {QB : Bool → Env → Prop} {env : Env} {t : Bool} {m : Option Bool} (ht : (if b = true then some true else m) = some t) (J : QB t env) (h : b = false → ∀ Q' : Bool → Env → Prop, Q' t env → Wp m (fun x => x = t) → c env Q') : if b = true then QB true env else c env QB := by
  cases b with
  | true =>
    have ht : some true = some t := ht
    cases ht
    exact J
  | false => exact h rfl QB J (wpOf ht)
theorem g_if {ta tb : TX} {Q : D → Env → Prop} {env : Env} {e : α → D} {x y : α} (J : Q (e (if b = true then x else y)) env) (h1 : b = true → ∀ Q' : D → Env → Prop, Q' (e x) env → ta env Q') (h2 : b = false → ∀ Q' : D → Env → Prop, Q' (e y) env → tb env Q') : if b = true then ta env Q else tb env Q := by
  cases b with
  | true => exact h1 rfl Q J
  | false => exact h2 rfl Q J
theorem g_andS {c : TXT} {QB : Bool → Env → Prop} {env : Env} {z : Bool × σ} {m : Option (Bool × σ)} {s0 : σ} (R : σ → Env → Prop) (ht : (if b = true then m else some (false, s0)) = some z) (h0 : R s0 env) (J : ∀ env', R z.2 env' → QB z.1 env') (h : b = true → ∀ Q' : Bool → Env → Prop, Wp m (fun u => ∀ env', R u.2 env' → Q' u.1 env') → c env Q') : if b = true then c env QB else QB false env := by
  cases b with
  | true => exact h rfl QB ⟨z, ht, J⟩
  | false =>
    have ht : some (false, s0) = some z := ht
    cases ht
    exact J env h0
theorem g_orS {c : TXT} {QB : Bool → Env → Prop} {env : Env} {z : Bool × σ} {m : Option (Bool × σ)} {s0 : σ} (R : σ → Env → Prop) (ht : (if b = true then some (true, s0) else m) = some z) (h0 : R s0 env) (J : ∀ env', R z.2 env' → QB z.1 env') (h : b = false → ∀ Q' : Bool → Env → Prop, Wp m (fun u => ∀ env', R u.2 env' → Q' u.1 env') → c env Q') : if b = true then QB true env else c env QB := by
  cases b with
  | true =>
    have ht : some (true, s0) = some z := ht
    cases ht
    exact J env h0
  | false => exact h rfl QB ⟨z, ht, J⟩
inductive Flow (ρ σ : Type) where
  | go (s : σ) | brk (s : σ) | ret (r : ρ)
def loopS (f : α → σ → Option σ) : List α → σ → Option σ
  | [], s => some s
  | x :: xs, s => (f x s).bind (loopS f xs)
def loopF (f : α → σ → Option (Flow ρ σ)) : List α → σ → Option (Flow ρ σ)
  | [], s => some (.go s)
  | x :: xs, s => (f x s).bind fun
    | .go s' => loopF f xs s'
    | .brk s' => some (.go s')
    | .ret r => some (.ret r)
theorem g_for {step : α → σ → Option σ} {e : α → D} {gi : TXG} {tb : TXS} {D0 : TEnds} {s' : σ} (R : σ → Env → Prop) : ∀ {xs : List α} {s : σ} {items : List D} {env : Env}, items = xs.map e → loopS step xs s = some s' → R s env → (∀ env', R s' env' → D0.nx env') →
    (∀ (a : α) (s : σ) (env : Env) (K : Env → Prop), R s env → Wp (step a s) (fun s1 => ∀ env', R s1 env' → K env') → gi (e a) env fun env1 => tb { nx := K, rt := D0.rt, bk := D0.nx, ct := K } env1) → forL gi tb D0 items env
  | [], s, _, env, rfl, hl, h0, hd, _ => by cases hl; exact hd env h0
  | x :: xs, s, _, env, rfl, hl, h0, hd, ht => by
    refine bindK (wpOf hl) fun s1 h1 h2 => ?_
    obtain ⟨s2, h2, rfl⟩ := h2
    exact ht x s env (forL gi tb D0 (xs.map e)) h0 ⟨s1, h1, fun env' hr => g_for R rfl h2 hr hd ht⟩
def FlowK (R : σ → Env → Prop) (K Kb : Env → Prop) (Kr : ρ → Prop) : Flow ρ σ → Prop
  | .go s => ∀ env, R s env → K env
  | .brk s => ∀ env, R s env → Kb env
  | .ret r => Kr r
theorem g_forF {step : α → σ → Option (Flow ρ σ)} {e : α → D} {gi : TXG} {tb : TXS} {D0 : TEnds} {fl : Flow ρ σ} (R : σ → Env → Prop) (Kr : ρ → Prop) (hd : FlowK R D0.nx D0.nx Kr fl) : ∀ {xs : List α} {s : σ} {items : List D} {env : Env}, items = xs.map e → loopF step xs s = some fl → R s env →
    (∀ (a : α) (s : σ) (env : Env) (K : Env → Prop), R s env → Wp (step a s) (FlowK R K D0.nx fun r => fl = .ret r) → gi (e a) env fun env1 => tb { nx := K, rt := D0.rt, bk := D0.nx, ct := K } env1) → forL gi tb D0 items env
  | [], s, _, env, rfl, hl, h0, _ => by cases hl; exact hd env h0
  | x :: xs, s, _, env, rfl, hl, h0, ht => by
    refine bindK (wpOf hl) fun s1 h1 h2 => ?_
    obtain ⟨s2, h2, rfl⟩ := h2
    refine ht x s env (forL gi tb D0 (xs.map e)) h0 ⟨s1, h1, ?_⟩
    cases s1 with
    | go s1 => exact fun env' hr => g_forF R Kr hd rfl h2 hr ht
    | brk s1 => cases h2; exact fun env' hr => hd env' hr
    | ret r => cases h2; rfl
def whl (f : σ → Option (Flow ρ σ)) : Nat → σ → Option (Flow ρ σ)
  | 0, _ => none
  | n + 1, s => (f s).bind fun
    | .go s' => whl f n s'
    | .brk s' => some (.go s')
    | .ret r => some (.ret r)
def whileO (f : σ → Option (Flow ρ σ)) (s : σ) : Option (Flow ρ σ) := do
  match ← f s with
    | .go s' => whileO f s'
    | .brk s' => some (.go s')
    | .ret r => some (.ret r)
partial_fixpoint
theorem whileO_fuel {f : σ → Option (Flow ρ σ)} {s : σ} {fl : Flow ρ σ} (h : whileO f s = some fl) : ∃ n, whl f n s = some fl := by
  refine whileO.partial_correctness f (fun s fl => ∃ n, whl f n s = some fl) ?_ s fl h
  intro w ih s fl h
  refine bindK (wpOf h) fun a ha h2 => ?_
  obtain ⟨y, h2, rfl⟩ := h2
  cases a with
  | go s' =>
    obtain ⟨n, hn⟩ := ih _ _ h2
    exact ⟨n + 1, by rw [whl, ha]; exact hn⟩
  | brk s' => exact ⟨1, by rw [whl, ha]; exact h2⟩
  | ret r => exact ⟨1, by rw [whl, ha]; exact h2⟩
theorem g_while {step : σ → Option (Flow ρ σ)} {c : TXT} {tb : TXS} {D0 : TEnds} {fl : Flow ρ σ} {s : σ} {env : Env} (R : σ → Env → Prop) (Kr : ρ → Prop) (hd : FlowK R D0.nx D0.nx Kr fl) (hl : whileO step s = some fl) (h0 : R s env)
    (ht : ∀ (s : σ) (env : Env) (K : Env → Prop), R s env → Wp (step s) (FlowK R K D0.nx fun r => fl = .ret r) → c env fun b env1 => if b = true then tb { nx := K, rt := D0.rt, bk := D0.nx, ct := K } env1 else D0.nx env1) : sWhile c tb D0 env := by
  obtain ⟨n, hn⟩ := whileO_fuel hl
  refine ⟨fun m env => ∃ s, R s env ∧ whl step m s = some fl, ⟨n, s, h0, hn⟩, fun m env ⟨s, hr, hw⟩ => ?_⟩
  cases m with
  | zero => cases hw
  | succ m =>
    refine bindK (wpOf hw) fun a ha h2 => ?_
    obtain ⟨y, h2, rfl⟩ := h2
    refine ht s env (fun e => ∃ m', m' < m + 1 ∧ ∃ s, R s e ∧ whl step m' s = some y) hr ⟨a, ha, ?_⟩
    cases a with
    | go s' => exact fun env' hr => ⟨m, Nat.lt_succ_self m, s', hr, h2⟩
    | brk s' => cases h2; exact fun env' hr => hd env' hr
    | ret r => cases h2; rfl
def mapP (f : α → Option β) : List α → Option (List β)
  | [] => some []
  | x :: xs => (f x).bind fun y => (mapP f xs).bind fun ys => some (y :: ys)
def cmapP (f : α → Option β) (xs : List α) : Option (List β) := if xs.length ≤ sizeLine then mapP f xs else none
def fmP (f : α → Option (Option β)) : List α → Option (List β)
  | [] => some []
  | x :: xs => (f x).bind fun y => (fmP f xs).bind fun ys => some (y.toList ++ ys)
def cfmP (f : α → Option (Option β)) (xs : List α) : Option (List β) := if xs.length ≤ sizeLine then fmP f xs else none
def fmS (f : α → σ → Option (Option β × σ)) : List α → σ → Option (List β × σ)
  | [], s => some ([], s)
  | x :: xs, s => (f x s).bind fun y => (fmS f xs y.2).bind fun ys => some (y.1.toList ++ ys.1, ys.2)
def cfmS (f : α → σ → Option (Option β × σ)) (xs : List α) (s : σ) : Option (List β × σ) := if xs.length ≤ sizeLine then fmS f xs s else none
def mapS (f : α → σ → Option (β × σ)) : List α → σ → Option (List β × σ)
  | [], s => some ([], s)
  | x :: xs, s => (f x s).bind fun y => (mapS f xs y.2).bind fun ys => some (y.1 :: ys.1, ys.2)
def cmapS (f : α → σ → Option (β × σ)) (xs : List α) (s : σ) : Option (List β × σ) := if xs.length ≤ sizeLine then mapS f xs s else none
section
variable {e : α → D} {e' : β → D} {gi : TXG} {tt : TXT} {te : TX} {vs : List Nat} {items : List D} {env env0 : Env} {Q : List D → Env → Prop} {xs : List α} {ys : List β}
theorem compS_go {step : α → σ → Option (Option β × σ)} {R : σ → Env → Prop} {s' : σ} (ht : ∀ (a : α) (s : σ) (env : Env) (K1 : D → Env → Prop) (K0 : Env → Prop), R s env → Wp (step a s) (fun q => match q.1 with
      | some b => ∀ env', R q.2 (wipeE env' vs) → K1 (e' b) env'
      | none => ∀ env', R q.2 (wipeE env' vs) → K0 env') → gi (e a) env fun env1 => tt env1 fun b env2 => if b = true then te env2 K1 else K0 env2) :
    ∀ {xs : List α} {s : σ} {env : Env} {acc : List D} {ys : List β}, fmS step xs s = some (ys, s') → R s env → (∀ env', R s' env' → Q (acc ++ ys.map e') env') → compL gi tt te vs (xs.map e) env acc Q
  | [], s, env, acc, ys, h, hr, hq => by
    cases h
    have := hq env hr
    rwa [List.map_nil, List.append_nil] at this
  | x :: xs, s, env, acc, ys, h, hr, hq => by
    refine bindK (wpOf h) fun y hy h => bindK h fun z hz h => ?_
    have h := wpSome h
    obtain ⟨z1, z2⟩ := z
    cases h
    refine ht x s env _ _ hr ⟨y, hy, ?_⟩
    obtain ⟨y1, y2⟩ := y
    cases y1 with
    | none => exact fun env' hr' => compS_go ht hz hr' hq
    | some b => exact fun env' hr' => compS_go ht hz hr' fun env2 hr2 => by simpa using hq env2 hr2
theorem g_compS {step : α → σ → Option (Option β × σ)} {s : σ} {q : List β × σ} (R : σ → Env → Prop) (hi : items = xs.map e) (hm : cfmS step xs s = some q) (h0 : R s (wipeE env vs)) (hq : ∀ env', R q.2 env' → Q (q.1.map e') env')
    (ht : ∀ (a : α) (s : σ) (env : Env) (K1 : D → Env → Prop) (K0 : Env → Prop), R s env → Wp (step a s) (fun q => match q.1 with
      | some b => ∀ env', R q.2 (wipeE env' vs) → K1 (e' b) env'
      | none => ∀ env', R q.2 (wipeE env' vs) → K0 env') → gi (e a) env fun env1 => tt env1 fun b env2 => if b = true then te env2 K1 else K0 env2) : items.length ≤ sizeLine ∧ compL gi tt te vs items (wipeE env vs) [] Q := by
  subst hi
  unfold cfmS at hm
  split at hm
  · rename_i hl
    refine ⟨by rw [List.length_map]; exact hl, compS_go ht hm h0 fun env' hr => ?_⟩
    rw [List.nil_append]
    exact hq env' hr
  · cases hm
theorem mapS_fm {step : α → σ → Option (β × σ)} : ∀ (xs : List α) (s : σ), fmS (fun a s => (step a s).bind fun r => some (some r.1, r.2)) xs s = mapS step xs s
  | [], s => rfl
  | x :: xs, s => by
    rw [fmS, mapS]
    cases h : step x s with
    | none => rfl
    | some r =>
      simp only [Option.bind_some]
      rw [mapS_fm xs r.2]; rfl
theorem g_compM {step : α → σ → Option (β × σ)} {s : σ} {q : List β × σ} (R : σ → Env → Prop) (hi : items = xs.map e) (hm : cmapS step xs s = some q) (h0 : R s (wipeE env vs)) (hq : ∀ env', R q.2 env' → Q (q.1.map e') env')
    (ht : ∀ (a : α) (s : σ) (env : Env) (K1 : D → Env → Prop), R s env → Wp (step a s) (fun q => ∀ env', R q.2 (wipeE env' vs) → K1 (e' q.1) env') → gi (e a) env fun env1 => te env1 K1) : items.length ≤ sizeLine ∧ compL gi tYesT te vs items (wipeE env vs) [] Q := by
  refine g_compS (step := fun a s => (step a s).bind fun r => some (some r.1, r.2)) (s := s) (q := q) R hi (by unfold cfmS; unfold cmapS at hm; rw [mapS_fm]; exact hm) h0 hq fun a s env K1 K0 hr hw => ?_
  refine ht a s env K1 hr ?_
  refine bindK hw fun r h H => ⟨r, h, ?_⟩
  exact wpSome H
theorem fm_S {f : α → Option (Option β)} : ∀ xs : List α, fmS (σ := Unit) (fun a _ => (f a).bind fun r => some (r, ())) xs () = (fmP f xs).bind fun ys => some (ys, ())
  | [] => rfl
  | x :: xs => by
    rw [fmS, fmP]
    cases h : f x with
    | none => rfl
    | some r =>
      simp only [Option.bind_some]
      rw [fm_S xs]
      cases fmP f xs <;> rfl
theorem g_compP {f : α → Option (Option β)} (hi : items = xs.map e) (hm : cfmP f xs = some ys) (h0 : wipeE env vs = env0) (hq : Q (ys.map e') env0)
    (ht : ∀ (a : α) (K1 : D → Env → Prop) (K0 : Env → Prop), Wp (f a) (fun q => match q with
      | some b => ∀ env', wipeE env' vs = env0 → K1 (e' b) env'
      | none => ∀ env', wipeE env' vs = env0 → K0 env') → gi (e a) env0 fun env1 => tt env1 fun b env2 => if b = true then te env2 K1 else K0 env2) : items.length ≤ sizeLine ∧ compL gi tt te vs items (wipeE env vs) [] Q := by
  refine g_compS (σ := Unit) (step := fun a _ => (f a).bind fun r => some (r, ())) (s := ()) (q := (ys, ())) (fun _ env => env = env0) hi ?_ h0 (fun env' h => h ▸ hq) fun a s env K1 K0 hr hw => ?_
  · unfold cfmS
    unfold cfmP at hm
    split at hm
    · rename_i hl
      rw [if_pos hl, fm_S, hm]; rfl
    · cases hm
  · subst hr
    refine ht a K1 K0 (bindK hw fun r h H => ⟨r, h, ?_⟩)
    have H := wpSome H
    cases r with
    | none => exact H
    | some b => exact H
theorem mp_fm {f : α → Option β} : ∀ xs : List α, fmP (fun a => (f a).bind fun r => some (some r)) xs = mapP f xs
  | [] => rfl
  | x :: xs => by
    rw [fmP, mapP]
    cases h : f x with
    | none => rfl
    | some r =>
      simp only [Option.bind_some]
      rw [mp_fm xs]; rfl
theorem g_compQ {f : α → Option β} (hi : items = xs.map e) (hm : cmapP f xs = some ys) (h0 : wipeE env vs = env0) (hq : Q (ys.map e') env0)
    (ht : ∀ (a : α) (K1 : D → Env → Prop), Wp (f a) (fun b => ∀ env', wipeE env' vs = env0 → K1 (e' b) env') → gi (e a) env0 fun env1 => te env1 K1) : items.length ≤ sizeLine ∧ compL gi tYesT te vs items (wipeE env vs) [] Q := by
  refine g_compP (f := fun a => (f a).bind fun r => some (some r)) hi (by unfold cfmP; unfold cmapP at hm; rw [mp_fm]; exact hm) h0 hq fun a K1 K0 hw => ht a K1 (bindK hw fun r h H => ⟨r, h, ?_⟩)
  exact wpSome H
end
end
section
variable {α β : Type} {e : α → D} {o : Bool}
instance (i j : Int) : Decidable (CPowW i j) := by unfold CPowW; infer_instance
theorem atI_map {f : α → β} {xs : List α} {i : Int} : atI (xs.map f) i = (atI xs i).map f := by
  unfold atI
  rw [List.length_map]
  cases ixN xs.length i with
  | none => rfl
  | some j => simp
theorem atL {xs : List α} {i : Int} {a : α} (h : atI xs i = some a) : getIx (eL o e xs) (.int i) = some (e a) := by
  show atI (xs.map e) i = _
  rw [atI_map, h]; rfl
theorem atT {xs : List α} {i : Int} {a : α} (h : atI xs i = some a) : getIx (eT e xs) (.int i) = some (e a) := by
  show atI (xs.map e) i = _
  rw [atI_map, h]; rfl
def pushO (xs : List α) (x : α) : Option (List α) := if xs.length < sizeLine then some (xs ++ [x]) else none
def catO (xs ys : List α) : Option (List α) := if xs.length + ys.length ≤ sizeLine then some (xs ++ ys) else none
def rngI (lo : Int) (n : Nat) : List Int := (List.range n).map fun i => lo + (i : Nat)
def rng1 (j : Int) : Option (List Int) := if -(2 ^ 62) ≤ j ∧ j < 2 ^ 62 then some (rngI 0 j.toNat) else none
instance (i j : Int) : Decidable (RgOk i j) := by unfold RgOk; infer_instance
def lrg (i j : Int) : Option (List Int) := if RgOk i j then some (rngI i (j - i).toNat) else none
theorem rgD_I (lo : Int) (n : Nat) : rgD lo n = (rngI lo n).map D.int := rgD_map lo n
theorem cut_map (f : α → β) (xs : List α) (lo hi : Option Int) : cutL (xs.map f) lo hi = (cutL xs lo hi).map f := by
  unfold cutL
  rw [List.length_map, List.map_take, List.map_drop]
section
variable {κ : Type} [DecidableEq κ]
def dGet (kvs : List (κ × α)) (k : κ) : Option α := (kvs.find? fun p => decide (p.1 = k)).map (·.2)
def dHas (kvs : List (κ × α)) (k : κ) : Bool := (dGet kvs k).isSome
def dPut (kvs : List (κ × α)) (k : κ) (d : α) : List (κ × α) :=
  if (kvs.any fun kv => decide (kv.1 = k)) = true then kvs.map (fun kv => if kv.1 = k then (kv.1, d) else kv) else kvs ++ [(k, d)]
def dPutO (kvs : List (κ × α)) (k : κ) (d : α) : Option (List (κ × α)) := if (kvs.map (·.1)).Nodup ∧ kvs.length < sizeLine then some (dPut kvs k d) else none
variable {κ' : Type} [DecidableEq κ'] {g : κ → κ'}
theorem lookK_e (hg : ∀ a b, g a = g b → a = b) (kvs : List (κ × α)) (k : κ) : lookK (kvs.map fun p => (g p.1, e p.2)) (g k) = (dGet kvs k).map e := by
  unfold lookK dGet
  induction kvs with
  | nil => rfl
  | cons p r ih =>
    rw [List.map_cons, List.find?_cons, List.find?_cons]
    by_cases h : p.1 = k
    · rw [decide_eq_true (show g p.1 = g k by rw [h]), decide_eq_true h]; rfl
    · rw [decide_eq_false (show ¬ g p.1 = g k from fun z => h (hg _ _ z)), decide_eq_false h]; exact ih
theorem putD_e (hg : ∀ a b, g a = g b → a = b) (kvs : List (κ × α)) (k : κ) (v : α) : putD (kvs.map fun p => (g p.1, e p.2)) (g k) (e v) = (dPut kvs k v).map fun p => (g p.1, e p.2) := by
  have hd : ∀ a : κ, decide (g a = g k) = decide (a = k) := fun a => decide_eq_decide.mpr ⟨hg _ _, fun z => by rw [z]⟩
  unfold putD dPut
  rw [List.any_map]
  have h1 : ((fun kv : κ' × D => decide (kv.1 = g k)) ∘ fun p : κ × α => (g p.1, e p.2)) = fun kv => decide (kv.1 = k) := by
    funext p; exact hd p.1
  rw [h1]
  split
  · rw [List.map_map, List.map_map]
    refine List.map_congr_left fun p _ => ?_
    show (if g p.1 = g k then (g p.1, e v) else (g p.1, e p.2)) = _
    by_cases h : p.1 = k
    · rw [if_pos (by rw [h])]; simp [h]
    · rw [if_neg fun z => h (hg _ _ z)]; simp [h]
  · rw [List.map_append]; rfl
theorem keys_e (hg : ∀ a b, g a = g b → a = b) (kvs : List (κ × α)) (h : (kvs.map (·.1)).Nodup) : ((kvs.map fun p => (g p.1, e p.2)).map (·.1)).Nodup := by
  have : (kvs.map fun p => (g p.1, e p.2)).map (·.1) = (kvs.map (·.1)).map g := by rw [List.map_map, List.map_map]; rfl
  rw [this]
  exact List.Pairwise.map g (fun a b z y => z (hg a b y)) h
end
theorem inlI (a b : Int) (h : (Sum.inl a : Key) = Sum.inl b) : a = b := Sum.inl.inj h
theorem getK {kvs : List (Int × α)} {k : Int} {v : α} (h : dGet kvs k = some v) : dget (eK o e kvs) (.int k) = some (some (e v)) := by
  unfold eK dget
  show some (lookK _ (Sum.inl k)) = _
  rw [lookK_e (g := Sum.inl) inlI, h]; rfl
theorem putK {kvs kvs' : List (Int × α)} {k : Int} {v : α} (h : dPutO kvs k v = some kvs') : putX (eK true e kvs) (.int k) (e v) = some (eK true e kvs') := by
  unfold dPutO at h
  split at h
  · rename_i hc
    cases h
    show (if (((kvs.map fun p => ((Sum.inl p.1 : Key), e p.2))).map (·.1)).Nodup ∧ (kvs.map fun p => ((Sum.inl p.1 : Key), e p.2)).length < sizeLine then _ else none) = _
    rw [if_pos ⟨keys_e (g := Sum.inl) inlI kvs hc.1, by rw [List.length_map]; exact hc.2⟩]
    show some (D.dct true (putD _ (Sum.inl k) (e v))) = _
    rw [putD_e (g := Sum.inl) inlI]; rfl
  · cases h
end
section
variable {α β : Type} [DecidableEq α] [DecidableEq β] {e : α → D} {ea : α → D} {eb : β → D} {k l : Nat}
theorem cmpI : Cmp D.int 0 := cmp_int0
theorem py_bl (b : Bool) : (D.bl b).py = .bool b := by rw [D.py]
theorem cmpB : Cmp D.bl 0 := by
  refine ⟨fun a => by rw [D.pyok] <;> intros <;> contradiction, fun a => by rw [py_bl]; simp only [PyData.canLay0], fun a => by rw [py_bl]; simp only [PyData.depth]; exact Nat.le_refl _, fun a b => ?_⟩
  rw [py_bl, py_bl]
  cases a <;> cases b <;> simp [PyData.eqv]
theorem cmpL (h : Cmp e k) (o : Bool) : Cmp (eL o e) (k + 1) := h.lst o
theorem cmpT (h : Cmp e k) : Cmp (eT e) (k + 1) := h.tup
theorem cmp2 (ha : Cmp ea k) (hb : Cmp eb l) : Cmp (e2 ea eb) (max k l + 1) := by
  refine ⟨fun a => ?_, fun a => ?_, fun a => ?_, fun a b => ?_⟩
  · show (D.tup _).pyok = true
    rw [D.pyok, pyokL_all]; simp [ha.ok, hb.ok]
  · show (D.tup _).py.canLay0 = true
    rw [py_tup]; simp [pyL, PyData.canLay0, PyData.canLayAll0, ha.lay, hb.lay]
  · show (D.tup _).py.depth ≤ _
    rw [py_tup]; simp [pyL, PyData.depth, PyData.depthAll]
    have := ha.dep a.1
    have := hb.dep a.2
    omega
  · show PyData.eqv (D.tup _).py (D.tup _).py = _
    rw [py_tup, py_tup]; simp [pyL, PyData.eqv, PyData.eqvAll, ha.eqv, hb.eqv]
    obtain ⟨a1, a2⟩ := a
    obtain ⟨b1, b2⟩ := b
    rw [← Bool.decide_and]
    exact decide_eq_decide.mpr (by simp)
/-- None, or a thing that isn't it -/
theorem cmpO (h : Cmp e k) (hn : ∀ a, PyData.eqv .none (e a).py = false ∧ PyData.eqv (e a).py .none = false) : Cmp (eO e) k := by
  have pn : D.non.py = .none := by rw [D.py]
  refine ⟨fun a => ?_, fun a => ?_, fun a => ?_, fun a b => ?_⟩
  · cases a with
    | none => show D.non.pyok = true; rw [D.pyok] <;> intros <;> contradiction
    | some a => exact h.ok a
  · cases a with
    | none => show D.non.py.canLay0 = true; rw [pn]; simp only [PyData.canLay0]
    | some a => exact h.lay a
  · cases a with
    | none => show D.non.py.depth ≤ _; rw [pn]; simp only [PyData.depth]; omega
    | some a => exact h.dep a
  · cases a with
    | none =>
      cases b with
      | none => show PyData.eqv D.non.py D.non.py = _; rw [pn]; simp [PyData.eqv]
      | some b => show PyData.eqv D.non.py (e b).py = _; rw [pn, (hn b).1]; rfl
    | some a =>
      cases b with
      | none => show PyData.eqv (e a).py D.non.py = _; rw [pn, (hn a).2]; rfl
      | some b =>
        show PyData.eqv (e a).py (e b).py = _
        rw [h.eqv]
        exact decide_eq_decide.mpr (by simp)
theorem nnI (i : Int) : PyData.eqv .none (D.int i).py = false ∧ PyData.eqv (D.int i).py .none = false := by rw [py_int]; simp [PyData.eqv]
end
end TT
namespace TT
open PySem PySem.Spec PyProof.Rows L2
variable [Cls]
section
variable {X : Cx} {e a b : Expr} {M Ma Mb R Ra Rb : List Nat} {t ta tb tc : TX} {pos : Pos} {rt rt' : D → D → (D → Prop) → Prop}
/-- the value, by another name -/
def oEq (t : TX) : TX := fun env Q => t env fun d env1 => ∃ r, d = r ∧ Q r env1
theorem x_eq (h : XX X e M R t) : XX X e M R (oEq t) := ⟨pe_imp h.pe fun σ H Q ⟨S, Qt, eH, s, q, k⟩ => ⟨S, _, eH, s, q, fun S1 v d Fv ⟨r, er, q1⟩ s1 st1 v1 => k S1 v d Fv (er ▸ q1) s1 st1 v1⟩⟩
/-- the names, by another name -/
def oEnv (t : TX) : TX := fun env Q => t env fun d env1 => ∃ e2, env1 = e2 ∧ Q d e2
theorem x_env (h : XX X e M R t) : XX X e M R (oEnv t) := ⟨pe_imp h.pe fun σ H Q ⟨S, Qt, eH, s, q, k⟩ => ⟨S, _, eH, s, q, fun S1 v d Fv ⟨r, er, q1⟩ s1 st1 v1 => k S1 v d Fv (er ▸ q1) s1 st1 v1⟩⟩
def iEq (t : TXI) : TXI := fun env Q => t env fun ds env1 => ∃ r, ds = r ∧ Q r env1
theorem xi_eq {tg : Expr} {t : TXI} (h : XI X tg e M t) : XI X tg e M (iEq t) := ⟨pi_imp h.pi fun σ H Q ⟨S, Qt, eH, s, q, k⟩ => ⟨S, _, eH, s, q, fun S1 ds J ⟨r, er, q1⟩ s1 st1 v1 => k S1 ds J (er ▸ q1) s1 st1 v1⟩⟩
def cIf (b : Bool) (ta tb : TX) : TX := fun env Q => if b = true then ta env Q else tb env Q
def cAnd (b : Bool) (u : TXT) : TXT := fun env Q => if b = true then u env Q else Q false env
def cOr (b : Bool) (u : TXT) : TXT := fun env Q => if b = true then Q true env else u env Q
def cAndV (b : Bool) (u : TX) : TX := fun env Q => if b = true then u env Q else Q (.bl false) env
def cOrT (b : Bool) (x : D) (u : TX) : TX := fun env Q => if b = true then Q x env else u env Q
def oIf2 (c : TXT) (ta tb : TX) : TX := fun env Q => c env fun b env1 => cIf b ta tb env1 Q
def tAnd2 (t u : TXT) : TXT := fun env Q => t env fun b env1 => cAnd b u env1 Q
def tOr2 (t u : TXT) : TXT := fun env Q => t env fun b env1 => cOr b u env1 Q
def oAnd2 (ta tb : TX) : TX := fun env Q => ta env fun x env1 => ∃ c, x = .bl c ∧ cAndV c tb env1 Q
def oOrT2 (ta tb : TX) : TX := fun env Q => ta env fun x env1 => ∃ k, truD x = some k ∧ cOrT k x tb env1 Q
def oCh (rt' : D → D → (D → Prop) → Prop) (y : D) (tc : TX) : TX := fun env Q => tc env fun w env3 => rt' y w fun z' => Q z' env3
def oChain2 (rt rt' : D → D → (D → Prop) → Prop) (ta tb tc : TX) : TX := fun env Q => ta env fun x env1 => tb env1 fun y env2 => rt x y fun z => ∃ k, z = .bl k ∧ cAndV k (oCh rt' y tc) env2 Q
theorem x_if20 {c : Expr} {t : TXT} (hc : XT X c M t) (ha : XX X a Ma [] ta) (hb : XX X b Mb [] tb) : XX X (.IfExp c a b pos) (M ++ (Ma ++ Mb)) [] (oIf2 t ta tb) := x_if hc ha hb
theorem xw_and2 {t u : TXT} {rest : List Expr} (h : XT X a Ma t) (h2 : XW X (.BoolOp .And (b :: rest) pos) Mb u) : XW X (.BoolOp .And (a :: b :: rest) pos) (Ma ++ Mb) (tAnd2 t u) := xw_and h h2
theorem xw_or2 {t u : TXT} {rest : List Expr} (h : XT X a Ma t) (h2 : XW X (.BoolOp .Or (b :: rest) pos) Mb u) : XW X (.BoolOp .Or (a :: b :: rest) pos) (Ma ++ Mb) (tOr2 t u) := xw_or h h2
theorem x_and2 {rest : List Expr} (ha : XX X a Ma Ra ta) (hb : XX X (.BoolOp .And (b :: rest) pos) Mb Rb tb) : XX X (.BoolOp .And (a :: b :: rest) pos) (Ma ++ Mb) Rb (oAnd2 ta tb) := x_and ha hb
theorem x_orT20 {rest : List Expr} (ha : XX X a Ma [] ta) (hb : XX X (.BoolOp .Or (b :: rest) pos) Mb [] tb) : XX X (.BoolOp .Or (a :: b :: rest) pos) (Ma ++ Mb) [] (oOrT2 ta tb) := x_orT ha hb
end
section
variable {α β σ : Type} {b : Bool} {env : Env}
theorem k_if {ta tb : TX} {Q : D → Env → Prop} {e : α → D} {x y : α} (J : Q (e (if b = true then x else y)) env) (h1 : b = true → ∀ Q' : D → Env → Prop, Q' (e x) env → ta env Q') (h2 : b = false → ∀ Q' : D → Env → Prop, Q' (e y) env → tb env Q') : cIf b ta tb env Q := g_if J h1 h2
variable {c : TXT} {QB : Bool → Env → Prop} {b' t : Bool} {u : TX} {Q : D → Env → Prop}
theorem k_and (J : QB (b && b') env) (h : b = true → ∀ Q' : Bool → Env → Prop, Q' b' env → c env Q') : cAnd b c env QB := g_and J h
theorem k_orP {m : Option Bool} (ht : (if b = true then some true else m) = some t) (J : QB t env) (h : b = false → ∀ Q' : Bool → Env → Prop, Q' t env → Wp m (fun x => x = t) → c env Q') : cOr b c env QB := g_orP ht J h
theorem k_andS {z : Bool × σ} {m : Option (Bool × σ)} {s0 : σ} (R : σ → Env → Prop) (ht : (if b = true then m else some (false, s0)) = some z) (h0 : R s0 env) (J : ∀ env', R z.2 env' → QB z.1 env') (h : b = true → ∀ Q' : Bool → Env → Prop, Wp m (fun u => ∀ env', R u.2 env' → Q' u.1 env') → c env Q') : cAnd b c env QB := g_andS R ht h0 J h
theorem k_orS {z : Bool × σ} {m : Option (Bool × σ)} {s0 : σ} (R : σ → Env → Prop) (ht : (if b = true then some (true, s0) else m) = some z) (h0 : R s0 env) (J : ∀ env', R z.2 env' → QB z.1 env') (h : b = false → ∀ Q' : Bool → Env → Prop, Wp m (fun u => ∀ env', R u.2 env' → Q' u.1 env') → c env Q') : cOr b c env QB := g_orS R ht h0 J h
theorem k_andV (J : Q (.bl (b && b')) env) (h : b = true → ∀ Q' : D → Env → Prop, Q' (.bl b') env → u env Q') : cAndV b u env Q := by
  cases b with
  | true => exact h rfl Q J
  | false => exact J
theorem k_andVP {m : Option Bool} (ht : (if b = true then m else some false) = some t) (J : Q (.bl t) env) (h : b = true → ∀ Q' : D → Env → Prop, Q' (.bl t) env → Wp m (fun x => x = t) → u env Q') : cAndV b u env Q := by
  cases b with
  | true => exact h rfl Q J (wpOf ht)
  | false =>
    have ht : some false = some t := ht
    cases ht
    exact J
/-- x or y, by truth -/
theorem k_orT {d : D} {x y : α} (e : α → D) (hd : d = e x) (J : Q (e (if b = true then x else y)) env) (h : b = false → ∀ Q' : D → Env → Prop, Q' (e y) env → u env Q') : cOrT b d u env Q := by
  subst hd
  cases b with
  | true => exact J
  | false => exact h rfl Q J
end
section
variable {α β γ : Type} {e e' : α → D} {o : Bool} {env : Env} {i : Nat}
theorem setEq {d d' : D} (h : d = d') : List.set env i (some d) = List.set env i (some d') := by rw [h]
theorem consE {a a' : Option D} {l l' : Env} (h : a = a') (hl : l = l') : a :: l = a' :: l' := by rw [h, hl]
theorem someE {d d' : D} (h : d = d') : some d = some d' := by rw [h]
theorem lenL (xs : List α) : lenD (eL o e xs) = some (xs.length : Int) := by unfold eL; simp
theorem lenQ (xs : List α) : lenD (eQ e xs) = some (xs.length : Int) := by unfold eQ; simp
theorem truL (xs : List α) : truD (eL o e xs) = some (!xs.isEmpty) := by
  show some (!(xs.map e).isEmpty) = _
  rw [List.isEmpty_map]
theorem pushE {xs ys : List α} {a : α} (h : pushO xs a = some ys) : D.lst true (xs.map e ++ [e a]) = eL true e ys := by
  unfold pushO at h
  split at h
  · cases h
    unfold eL; rw [List.map_append]; rfl
  · cases h
theorem push_lt {xs ys : List α} {a : α} (h : pushO xs a = some ys) : (xs.map e).length < sizeLine := by
  unfold pushO at h
  split at h
  · rw [List.length_map]; assumption
  · cases h
theorem cutE (xs : List α) (lo hi : Option Int) : D.lst true (cutL (xs.map e) lo hi) = eL true e (cutL xs lo hi) := by rw [cut_map]; rfl
theorem cut_fz (h : Fz e e) (xs : List α) (lo hi : Option Int) : frzL (cutL (xs.map e) lo hi) = cutL (xs.map e) lo hi := by rw [cut_map, frzL_e h]
theorem mapE (xs : List α) : D.lst o (xs.map e) = eL o e xs := rfl
theorem catE {xs ys zs : List α} (h : catO xs ys = some zs) : D.lst true (xs.map e ++ ys.map e) = eL true e zs := by
  unfold catO at h
  split at h
  · cases h
    unfold eL; rw [List.map_append]
  · cases h
theorem cat_le {xs ys zs : List α} (h : catO xs ys = some zs) : (xs.map e).length + (ys.map e).length ≤ sizeLine := by
  unfold catO at h
  split at h
  · rw [List.length_map, List.length_map]; assumption
  · cases h
theorem rngE {j : Int} {xs : List Int} (h : rng1 j = some xs) : rgD 0 j.toNat = xs.map D.int := by
  unfold rng1 at h
  split at h
  · cases h; exact rgD_I _ _
  · cases h
theorem rng_ok {j : Int} {xs : List Int} (h : rng1 j = some xs) : -(2 ^ 62) ≤ j ∧ j < 2 ^ 62 := by
  unfold rng1 at h
  split at h
  · assumption
  · cases h
theorem lrgE {i j : Int} {xs : List Int} (h : lrg i j = some xs) : D.lst true (rgD i (j - i).toNat) = eL true D.int xs := by
  unfold lrg at h
  split at h
  · cases h; rw [rgD_I]; rfl
  · cases h
theorem lrg_ok {i j : Int} {xs : List Int} (h : lrg i j = some xs) : RgOk i j := by
  unfold lrg at h
  split at h
  · assumption
  · cases h
end
end TT
namespace TT
open PySem PySem.Spec PyProof.Rows L2
variable [Cls]
section
variable {X : Cx} {a b c : Expr} {Ma Mb Mc Ra Rb Rc : List Nat} {ta tb tc : TX} {pos : Pos} {rt rt' : D → D → (D → Prop) → Prop} {op op' : CmpOp}
theorem x_chain2 (ho : OpT X (compareOp op) rt) (ho' : OpT X (compareOp op') rt') (ha : XX X a Ma Ra ta) (hb : XX X b Mb Rb tb) (hc : XX X c Mc Rc tc) (dj : Dj Ra Mb = true := by rfl) (dj2 : Dj Rb Mc = true := by rfl)
    (hm : lastMarks [op, op'] [b, c] = false := by with_unfolding_all rfl) : XX X (.Compare a [op, op'] [b, c] pos) (Ma ++ Mb ++ Mc) [] (oChain2 rt rt' ta tb tc) := x_chain ho ho' ha hb hc dj dj2 hm
theorem xt_chain2 (ho : OpT X (compareOp op) rt) (ho' : OpT X (compareOp op') rt') (ha : XX X a Ma Ra ta) (hb : XX X b Mb Rb tb) (hc : XX X c Mc Rc tc) (dj : Dj Ra Mb = true := by rfl) (dj2 : Dj Rb Mc = true := by rfl)
    (hm : lastMarks [op, op'] [b, c] = false := by with_unfolding_all rfl) : XT X (.Compare a [op, op'] [b, c] pos) (Ma ++ Mb ++ Mc) (tBl (oChain2 rt rt' ta tb tc)) := xt_chain ho ho' ha hb hc dj dj2 hm
end
end TT
namespace TT
open PySem PySem.Spec PyProof.Rows L2
variable [Cls]
/-- a name's thing frozen in place: nothing runs for it -/
theorem SR.frzAt {K : PySem.W.Frag} {σ : L2.St} {S : W} {i : Nat} {d : D} (s : SR K σ S) (e1 : S.env[i]? = some (some d)) :
    SR K σ ⟨frzZ S.Z S.H (S.F i), S.H, S.env.set i (some d.frz), dropF S.F i⟩ ∧ Stp [i] S ⟨frzZ S.Z S.H (S.F i), S.H, S.env.set i (some d.frz), dropF S.F i⟩ := by
  obtain ⟨v, h1, r⟩ := s.sl i d e1
  have x := ext_frz (s.tr i)
  have rf : ∀ G, Rep K (frzZ S.Z S.H (S.F i)) S.H v d.frz G := fun G => r.frzz (s.tr i)
  constructor
  · refine s.go x (frzZ_zh s.zh (s.tr i)) (fun j => ?_) (fun j k a g1 g2 => s.ap j k a g1.2 g2.2) (by rw [List.length_set]; exact s.ln)
    by_cases hj : j = i
    · subst hj
      refine .inr ⟨fun d' e => ?_, fun a h => absurd rfl h.1⟩
      have hl : j < S.env.length := (List.getElem?_eq_some_iff.mp e1).1
      rw [List.getElem?_set_self hl] at e
      cases e
      exact ⟨v, h1, rf _⟩
    · exact .inl ⟨by rw [List.getElem?_set_ne (Ne.symm hj)], rfl, dropF_ne hj, fun a h z => hj (s.ap j i a h z)⟩
  · refine ⟨x.mono fun a h => ⟨i, by simp, h⟩, fun j hj => ?_, fun j a hj h => absurd h.1 (by simpa using hj)⟩
    have hj' : j ≠ i := by simpa using hj
    exact ⟨by rw [List.getElem?_set_ne (Ne.symm hj')], dropF_ne hj'⟩
def sFz (i : Nat) (t : TXS) : TXS := fun D env => t { D with nx := fun e => ∃ d d', e[i]? = some (some d) ∧ d.frz = d' ∧ D.nx (e.set i (some d')) } env
theorem s_fz {X : Cx} {st : Stmt} {A : List Nat} {t : TXS} {i : Nat} (h : XS X st A t) : XS X st A (sFz i t) := ⟨ps_imp h.ps fun D σ H ⟨S, Dt, eH, s, q, k1, k2, k3, k4⟩ => by
  refine ⟨S, { Dt with nx := fun e => ∃ d d', e[i]? = some (some d) ∧ d.frz = d' ∧ Dt.nx (e.set i (some d')) }, eH, s, q, fun σ' S' ⟨d, d', h1, h2, q1⟩ s1 st1 => ?_, k2, k3, k4⟩
  subst h2
  obtain ⟨s2, st2⟩ := s1.frzAt h1
  exact k1 σ' ⟨frzZ S'.Z S'.H (S'.F i), S'.H, S'.env.set i (some d.frz), dropF S'.F i⟩ q1 s2 ((st1.trans (st2.s (A := A))).mono fun j hj => (List.mem_append.mp hj).elim id id)⟩
end TT
namespace TT
open PySem PySem.Spec PyProof.Rows L2
variable [Cls]
section
variable {α β γ σ ρ : Type} {R : σ → Env → Prop} {K Kb : Env → Prop} {Kr : ρ → Prop} {env : Env} {s : σ} {r : ρ}
theorem nxK (H : Wp (some s) (fun s1 => ∀ env', R s1 env' → K env')) (h : R s env) : K env := wpSome H env h
theorem goK (H : Wp (some (Flow.go s)) (FlowK R K Kb Kr)) (h : R s env) : K env := (wpSome H : ∀ env, R s env → K env) env h
theorem brkK (H : Wp (some (Flow.brk s)) (FlowK R K Kb Kr)) (h : R s env) : Kb env := (wpSome H : ∀ env, R s env → Kb env) env h
theorem retK (H : Wp (some (Flow.ret r)) (FlowK R K Kb Kr)) : Kr r := wpSome (K := FlowK R K Kb Kr) H
theorem valK {Q' : D → Env → Prop} {e : α → D} {v z : α} (H : Wp (some v) (fun x => x = z)) (J : Q' (e z) env) : Q' (e v) env := by
  have h : v = z := wpSome (K := fun x => x = z) H
  rw [h]; exact J
theorem valB {Q' : Bool → Env → Prop} {v z : Bool} (H : Wp (some v) (fun x => x = z)) (J : Q' z env) : Q' v env := by
  have h : v = z := wpSome (K := fun x => x = z) H
  rw [h]; exact J
theorem loopF_brk {step : α → σ → Option (Flow ρ σ)} : ∀ {xs : List α} {s s' : σ}, loopF step xs s ≠ some (.brk s')
  | [], _, _ => fun h => by cases h
  | x :: xs, s, s' => fun h => by
    rw [loopF] at h
    cases q : step x s with
    | none => rw [q] at h; cases h
    | some f =>
      rw [q] at h
      cases f with
      | go s1 => exact loopF_brk h
      | brk s1 => cases h
      | ret r => cases h
theorem p_forF {step : α → σ → Option (Flow ρ σ)} {e : α → D} {gi : TXG} {tb : TXS} {D0 : TEnds} {fl : Flow ρ σ} {xs : List α} {s : σ} {items : List D} {env : Env} (R : σ → Env → Prop) (hi : items = xs.map e) (hl : loopF step xs s = some fl) (h0 : R s env)
    (hd : ∀ s, fl = .go s → ∀ env', R s env' → D0.nx env') (ht : ∀ (a : α) (s : σ) (env : Env) (K : Env → Prop), R s env → Wp (step a s) (FlowK R K D0.nx fun r => fl = .ret r) → gi (e a) env fun env1 => tb { nx := K, rt := D0.rt, bk := D0.nx, ct := K } env1) : forL gi tb D0 items env := by
  refine g_forF (fl := fl) R (fun _ => True) ?_ hi hl h0 ht
  cases fl with
  | go s => exact hd s rfl
  | brk s' => exact absurd hl loopF_brk
  | ret r => trivial
theorem whl_brk {step : σ → Option (Flow ρ σ)} : ∀ {n : Nat} {s s' : σ}, whl step n s ≠ some (.brk s')
  | 0, _, _ => fun h => by cases h
  | n + 1, s, s' => fun h => by
    rw [whl] at h
    cases q : step s with
    | none => rw [q] at h; cases h
    | some f =>
      rw [q] at h
      cases f with
      | go s1 => exact whl_brk h
      | brk s1 => cases h
      | ret r => cases h
theorem p_while {step : σ → Option (Flow ρ σ)} {c : TXT} {tb : TXS} {D0 : TEnds} {fl : Flow ρ σ} {s : σ} {env : Env} (R : σ → Env → Prop) (hl : whileO step s = some fl) (h0 : R s env) (hd : ∀ s, fl = .go s → ∀ env', R s env' → D0.nx env')
    (ht : ∀ (s : σ) (env : Env) (K : Env → Prop), R s env → Wp (step s) (FlowK R K D0.nx fun r => fl = .ret r) → c env fun b env1 => if b = true then tb { nx := K, rt := D0.rt, bk := D0.nx, ct := K } env1 else D0.nx env1) : sWhile c tb D0 env := by
  refine g_while (fl := fl) R (fun _ => True) ?_ hl h0 ht
  cases fl with
  | go s => exact hd s rfl
  | brk s' =>
    obtain ⟨n, hn⟩ := whileO_fuel hl
    exact absurd hn whl_brk
  | ret r => trivial
theorem k_andE {b : Bool} {c : TXT} {QB : Bool → Env → Prop} {z : Bool × σ} {m : Option (Bool × σ)} {s0 : σ} (en : σ → Env) (ht : (if b = true then m else some (false, s0)) = some z) (h0 : env = en s0) (J : QB z.1 (en z.2)) (h : b = true → ∀ Q' : Bool → Env → Prop, Wp m (fun u => ∀ env', env' = en u.2 → Q' u.1 env') → c env Q') : cAnd b c env QB :=
  k_andS (fun s e => e = en s) ht h0 (fun _ hE => hE ▸ J) h
theorem k_orE {b : Bool} {c : TXT} {QB : Bool → Env → Prop} {z : Bool × σ} {m : Option (Bool × σ)} {s0 : σ} (en : σ → Env) (ht : (if b = true then some (true, s0) else m) = some z) (h0 : env = en s0) (J : QB z.1 (en z.2)) (h : b = false → ∀ Q' : Bool → Env → Prop, Wp m (fun u => ∀ env', env' = en u.2 → Q' u.1 env') → c env Q') : cOr b c env QB :=
  k_orS (fun s e => e = en s) ht h0 (fun _ hE => hE ▸ J) h
theorem vtT {en : σ → Env} {Q' : Bool → Env → Prop} {v : Bool} (H : Wp (some (v, s)) (fun u => ∀ env', env' = en u.2 → Q' u.1 env')) (h : env = en s) : Q' v env := wpSome H env h
end
structure SeqE {α : Type} (q : List α → D) (e : α → D) : Prop where
  len : ∀ xs, lenD (q xs) = some (xs.length : Int)
  at_ : ∀ {xs : List α} {i : Int} {a : α}, atI xs i = some a → getIx (q xs) (.int i) = some (e a)
  fz : Fz q q
section
variable {α β γ δ : Type} {e e' : α → D} {f f' : β → D}
theorem seL (h : Fz e e) : SeqE (eL false e) e := ⟨fun _ => lenL _, fun h => atL h, fzL h⟩
theorem pyL_mp (xs : List α) : pyL (xs.map e) = xs.map fun a => (e a).py := by
  induction xs with
  | nil => rw [List.map_nil, pyL]; rfl
  | cons x xs ih => rw [List.map_cons, pyL, ih]; rfl
theorem pyLL {o o' : Bool} (h : ∀ a, (e a).py = (e' a).py) (xs : List α) : (eL o e xs).py = (eL o' e' xs).py := by unfold eL; rw [py_lst, py_lst, pyL_mp, pyL_mp]; exact congrArg _ (List.map_congr_left fun a _ => h a)
theorem ix3_1 {g : γ → D} (p : α × β × γ) : getIx (e3 e f g p) (.int 1) = some (f p.2.1) := rfl
theorem ix3_2 {g : γ → D} (p : α × β × γ) : getIx (e3 e f g p) (.int 2) = some (g p.2.2) := rfl
theorem hasK' {o : Bool} (kvs : List (Int × α)) (k : Int) : dget (eK o e kvs) (.int k) = some ((dGet kvs k).map e) := by
  show some (lookK (kvs.map fun p => (Sum.inl p.1, e p.2)) (Sum.inl k : Key)) = _
  rw [lookK_e (g := Sum.inl) inlI]
theorem hasN (kvs : List (Int × α)) (k : Int) : D.bl (!((dGet kvs k).map e).isSome) = .bl (!dHas kvs k) := by
  unfold dHas
  cases dGet kvs k <;> rfl
end
section
variable {α : Type} [DecidableEq α] {e : α → D} {k : Nat}
theorem Cmp.eqF (h : Cmp e k) {d d' : D} {a b : α} (h1 : d.py = (e a).py) (h2 : d'.py = (e b).py) : D.bl (PyData.eqv d.py d'.py) = .bl (decide (a = b)) := by rw [h1, h2, h.eqv]
theorem Cmp.eqN (h : Cmp e k) {d d' : D} {a b : α} (h1 : d.py = (e a).py) (h2 : d'.py = (e b).py) : D.bl (!PyData.eqv d.py d'.py) = .bl (!decide (a = b)) := by rw [h1, h2, h.eqv]
theorem Cmp.inN (h : Cmp e k) (a : α) (xs : List α) : D.bl (!(xs.map e).any fun z => PyData.eqv z.py (e a).py) = .bl (!decide (a ∈ xs)) := by rw [h.anyL]
end
theorem min_raw (a b : Int) : D.int (if b < a then b else a) = .int (min a b) := by
  congr 1
  by_cases h : b < a
  · rw [if_pos h, Int.min_eq_right (by omega)]
  · rw [if_neg h, Int.min_eq_left (by omega)]
def b2i (b : Bool) : Int := if b = true then 1 else 0
theorem frzL_m {α : Type} {e : α → D} (h : Fz e e) (xs : List α) : frzL (xs.map e) = xs.map e := frzL_e h xs
end TT
namespace TT
open PySem PySem.Spec PyProof.Rows L2
variable [Cls]
section
variable {α β : Type}
/-- None, or a thing -/
def optE (x : Option α) (n : β) (f : α → β) : β := match x with
  | none => n
  | some a => f a
@[simp] theorem optE_none (n : β) (f : α → β) : optE none n f = n := rfl
@[simp] theorem optE_some (a : α) (n : β) (f : α → β) : optE (some a) n f = f a := rfl
variable {e : α → D}
def popO (xs : List α) (i : Int) : Option (α × List α) := if -(2 ^ 63) ≤ i ∧ i < 2 ^ 63 then (ixN xs.length i).bind fun j => xs[j]?.bind fun y => some (y, xs.eraseIdx j) else none
theorem pop_lo {xs ys : List α} {i : Int} {y : α} (h : popO xs i = some (y, ys)) : -(2 ^ 63) ≤ i := by
  unfold popO at h
  split at h
  · rename_i hc; exact hc.1
  · cases h
theorem pop_hi {xs ys : List α} {i : Int} {y : α} (h : popO xs i = some (y, ys)) : i < 2 ^ 63 := by
  unfold popO at h
  split at h
  · rename_i hc; exact hc.2
  · cases h
theorem map_eraseIdx (f : α → β) : ∀ (xs : List α) (j : Nat), (xs.map f).eraseIdx j = (xs.eraseIdx j).map f
  | [], _ => by simp
  | x :: xs, 0 => by simp
  | x :: xs, j + 1 => by simp [map_eraseIdx f xs j]
theorem popE {xs ys : List α} {i : Int} {y : α} (h : popO xs i = some (y, ys)) : ∃ j, ixN (xs.map e).length i = some j ∧ (xs.map e)[j]? = some (e y) ∧ D.lst true ((xs.map e).eraseIdx j) = eL true e ys := by
  unfold popO at h
  split at h
  · cases q : ixN xs.length i with
    | none => rw [q] at h; cases h
    | some j =>
      rw [q] at h
      cases q2 : xs[j]? with
      | none => simp [q2] at h
      | some z =>
        simp [q2] at h
        obtain ⟨rfl, rfl⟩ := h
        refine ⟨j, by rw [List.length_map]; exact q, by simp [q2], ?_⟩
        rw [map_eraseIdx]; rfl
  · cases h
theorem cmpD_py [DecidableEq α] {k : Nat} {d : D} {a : α} (h : Cmp e k) (hp : d.py = (e a).py) (ho : d.pyok = true) (hk : k ≤ 64 := by decide) : cmpD d = true := by
  have := h.cmpD hk a
  unfold TT.cmpD at this ⊢
  rw [ho, hp]
  rw [Bool.and_eq_true] at this
  rw [this.2]; rfl
theorem okL {o : Bool} (h : ∀ a, (e a).pyok = true) (xs : List α) : (eL o e xs).pyok = true := by
  unfold eL
  rw [D.pyok, pyokL_all, List.all_map, List.all_eq_true]
  exact fun a _ => h a
theorem okT (h : ∀ a, (e a).pyok = true) (xs : List α) : (eT e xs).pyok = true := by
  unfold eT
  rw [D.pyok, pyokL_all, List.all_map, List.all_eq_true]
  exact fun a _ => h a
theorem ok2 {f : β → D} (h : ∀ a, (e a).pyok = true) (h2 : ∀ a, (f a).pyok = true) (p : α × β) : (e2 e f p).pyok = true := by
  unfold e2
  rw [D.pyok, pyokL_all]; simp [h, h2]
end
end TT
namespace TT
open PySem PySem.Spec PyProof.Rows L2
variable [Cls]
def guardO (p : Prop) [Decidable p] : Option Unit := if p then some () else none
theorem guard_of {p : Prop} [Decidable p] {u : Unit} (h : guardO p = some u) : p := by
  unfold guardO at h
  split at h
  · assumption
  · cases h
@[simp] theorem guard_pos {p : Prop} [Decidable p] (h : p) : guardO p = some () := by unfold guardO; rw [if_pos h]
theorem wp_guard {α : Type} {p : Prop} [Decidable p] {f : Unit → Option α} {K : α → Prop} (h : p) (k : Wp (f ()) K) : Wp ((guardO p).bind f) K := by rw [guard_pos h]; exact k
instance (i j : Int) : Decidable (CMul i j) := by unfold CMul; infer_instance
instance (i j : Int) : Decidable (CMulW i j) := by unfold CMulW; infer_instance
instance (i j : Int) : Decidable (CDiv i j) := by unfold CDiv; infer_instance
theorem of_gNm {i : Nat} {d : D} {env : Env} {Q : Env → Prop} (h : Q (env.set i (some d))) : gNm i d env Q := h
theorem g_joinI {σ : Type} {D0 : TEnds} {c : TXT} {tA tB v : TXS} {env : Env} {m : Option σ} {s : σ} (R : σ → Env → Prop) (hs : m = some s) (J : ∀ env', R s env' → v D0 env') (h : ∀ K : Env → Prop, Wp m (fun s => ∀ env', R s env' → K env') → sIf c tA tB { D0 with nx := K } env) : sSeq (sIf c tA tB) v D0 env := h (v D0) ⟨s, hs, J⟩
theorem nxI {f b c : Env → Prop} {g : D → Env → Prop} {env : Env} (h : f env) : (TEnds.mk f g b c).nx env := h
theorem p_whileS {ρ σ : Type} {step : σ → Option (Flow ρ σ)} {c : TXT} {tb v : TXS} {D0 : TEnds} {fl : Flow ρ σ} {s : σ} {env : Env} (R : σ → Env → Prop) (hl : whileO step s = some fl) (h0 : R s env) (hd : ∀ s, fl = .go s → ∀ env', R s env' → v D0 env')
    (ht : ∀ (s : σ) (env : Env) (K : Env → Prop), R s env → Wp (step s) (FlowK R K (v D0) fun r => fl = .ret r) → c env fun b env1 => if b = true then tb { nx := K, rt := D0.rt, bk := v D0, ct := K } env1 else v D0 env1) : sSeq (sWhile c tb) v D0 env :=
  p_while (D0 := { D0 with nx := v D0 }) R hl h0 hd ht
end TT
namespace TT
open PySem PySem.Spec PyProof.Rows L2
variable [Cls]
def IB (h : Heap) (it a : Addr) (i : Nat) : Bool → Prop
  | true => h.IsListIter it a i
  | false => h.IsTupleIter it a i
theorem IB.keep {h h' : Heap} {it a : Addr} {i : Nat} (k : ∀ o, h.get? it = some o → h'.get? it = some o) : ∀ {l : Bool}, IB h it a i l → IB h' it a i l
  | true, ⟨u, e, c, d⟩ => ⟨u, k u e, c, d⟩
  | false, ⟨u, e, c, d⟩ => ⟨u, k u e, c, d⟩
end TT
namespace TT
open PySem PySem.Spec PyProof.Rows L2
end TT
namespace TT
open PySem PySem.Spec PyProof.Rows L2
variable [Cls]
section
variable {X : Cx}
mutual
theorem noDict_of {K : PySem.W.Frag} {H : Hp} : ∀ {v : V} {d : PyData}, Dp K H v d → d.hasDict = false
  | _, _, .non => by simp only [PyData.hasDict]
  | _, _, .bl _ => by simp only [PyData.hasDict]
  | _, _, .int _ => by simp only [PyData.hasDict]
  | _, _, .str _ => by simp only [PyData.hasDict]
  | _, _, .lst _ h => by simp only [PyData.hasDict]; exact noDicts_of h
  | _, _, .tup _ h => by simp only [PyData.hasDict]; exact noDicts_of h
theorem noDicts_of {K : PySem.W.Frag} {H : Hp} : ∀ {vs : List V} {ds : List PyData}, DpAll K H vs ds → PyData.hasDictAll ds = false
  | _, _, .nil => by simp only [PyData.hasDictAll]
  | _, _, .cons h t => by simp only [PyData.hasDictAll]; rw [noDict_of h, noDicts_of t]; rfl
end
def shownO (d : D) : Option Str := if d.py.showable = true ∧ d.py.shown.length ≤ sizeLine then some d.py.shown else none
def rReprX (K : PySem.W.Frag) : List V → Hp → VK → Prop := fun xs H Q => ∃ v d, xs = [v] ∧ Dp K H v d ∧ d.showable = true ∧ d.depth ≤ 64 ∧ d.shown.length ≤ sizeLine ∧ Q (.str d.shown) H
theorem call_reprX (hG : X.A.guards = some []) (hu : X.A.units + 65 < cLine) : CallR X (.builtin "repr") (rReprX X.K) := by
  intro pins s σ H xs us Q I r h
  obtain ⟨v, d, rfl, dp, h1, h3, h4, q⟩ := h
  obtain ⟨u, rfl, e⟩ := vals1 r
  have h2 := noDict_of dp
  obtain ⟨as, rd⟩ := Dp.reads I d _ _ dp e
  cases dp with
  | non =>
    cases e
    exact PySem.P.repr_of_none ⟨.str _, H, I.tok _, ⟨_, rfl⟩, by simpa only [PyData.shown] using q⟩
  | bl b =>
    cases e
    exact PySem.P.repr_of_bool ⟨.str _, H, I.tok _, ⟨_, rfl⟩, by simpa only [PyData.shown] using q⟩
  | int i =>
    obtain ⟨t, rfl⟩ := e
    simp only [PyData.showable, decide_eq_true_eq] at h1
    exact PySem.P.repr_of_int h1 ⟨.str _, H, I.tok _, ⟨_, rfl⟩, by simpa only [PyData.shown] using q⟩
  | str x =>
    obtain ⟨t, rfl⟩ := e
    simp only [PyData.shown] at h4
    exact PySem.P.repr_of_str ⟨.str _, H, I.tok _, ⟨_, rfl⟩, by simpa only [PyData.shown] using q⟩ h4
  | lst a b =>
    cases e
    exact PySem.repr_of_reads' rd h1 (PyData.noDict_hsm h2) hG (by omega) (fun _ _ e => e) (fun h' u tk k => ⟨.str _, H, I.un (Un.kept k) (I.hok.kept k), ⟨u, rfl⟩, q⟩) h4
  | tup a b =>
    cases e
    exact PySem.repr_of_reads' rd h1 (PyData.noDict_hsm h2) hG (by omega) (fun _ _ e => e) (fun h' u tk k => ⟨.str _, H, I.un (Un.kept k) (I.hok.kept k), ⟨u, rfl⟩, q⟩) h4
def gReprX : List D → (D → Prop) → Prop := r1 fun d Q => cmpD d = true ∧ ∃ s, shownO d = some s ∧ Q (.str s)
theorem c_reprX (hG : X.A.guards = some []) (hu : X.A.units + 65 < cLine) : CallT X (.builtin "repr") gReprX := by
  refine ⟨_, call_reprX hG hu, fun σ S vs ds F Qd P s ra ⟨d, e, h0, z, hz, q⟩ k => ?_⟩
  subst e
  obtain ⟨v, rfl, r⟩ := paired1 ra
  unfold cmpD SeqAt.shaped at h0
  simp only [Bool.and_eq_true, decide_eq_true_eq] at h0
  unfold shownO at hz
  split at hz
  · rename_i hc
    cases hz
    exact ⟨v, d.py, rfl, r.dp s.zh h0.1, hc.1, h0.2.2, hc.2, k _ _ _ _ nF q (.imm s (.str _))⟩
  · cases hz
end
def rS2 (g : Str → Str → D) : D → D → (D → Prop) → Prop := fun x y Q => ∃ i j, x = .str i ∧ y = .str j ∧ Q (g i j)
theorem dec_str {i j : Str} : decide (V.str i = V.str j) = decide (i = j) := decide_eq_decide.mpr (by simp)
abbrev rNeS : D → D → (D → Prop) → Prop := rS2 fun i j => .bl (!decide (i = j))
theorem o_neS {X : Cx} : OpT X (compareOp .NotEq) rNeS := ⟨_, op_ne, fun σ S x d Fx y e Fy Qd P s rx ry ⟨i, j, e1, e2, q⟩ k => by
  subst e1 e2
  rw [rx.str_inv, ry.str_inv]
  refine ⟨rfl, ?_⟩
  rw [dec_str]
  exact k _ _ _ _ _ q (.imm s (.bl _))⟩
end TT
namespace TT
open PySem PySem.Spec PyProof.Rows L2
end TT
namespace TT
open PySem PySem.Spec PyProof.Rows L2
variable [Cls]
theorem Rep.tup_is {K : PySem.W.Frag} {Z H : Hp} {v : V} {xs : List D} {F : AS} (r : Rep K Z H v (.tup xs) F) : ∃ a vs, v = .ref a ∧ Z a = some (.tup vs) ∧ RepL K Z H vs xs F := by
  cases r with
  | tup h1 h2 => exact ⟨_, _, rfl, h1, h2⟩
section
variable {X : Cx}
def rCatTT : D → D → (D → Prop) → Prop := fun x y Q => ∃ xs ys, x = .tup xs ∧ y = .tup ys ∧ frzL xs = xs ∧ frzL ys = ys ∧ xs.length + ys.length ≤ sizeLine ∧ Q (.tup (xs ++ ys))
theorem repL_app {K : PySem.W.Frag} {Z H : Hp} : ∀ {vs ws : List V} {xs ys : List D}, RepL K Z H vs xs nF → RepL K Z H ws ys nF → RepL K Z H (vs ++ ws) (xs ++ ys) nF
  | _, _, _, _, .nil, h => h
  | _, _, _, _, .cons (G := G) (E := E) r t f g, h => .cons (G := nF) (E := nF) (r.mono fun b z => f b z) (repL_app (t.mono fun b z => (g b z).1) h) (fun _ z => z.elim) fun _ z => z.elim
theorem o_catTT : OpT X (binaryOp .Add) rCatTT := ⟨_, op_catA, fun σ S x d Fx y e Fy Qd P s rx ry ⟨xs, ys, e1, e2, fx, fy, hz, q⟩ k => by
  subst e1 e2
  obtain ⟨a, vs, rfl, h1, r1⟩ := rx.tup_is
  obtain ⟨b, ws, rfl, h2, r2⟩ := ry.tup_is
  have r1 := RepL.imm' (H' := S.H) (G := nF) r1 fx
  have r2 := RepL.imm' (H' := S.H) (G := nF) r2 fy
  refine ⟨a, b, vs, ws, rfl, rfl, .inl (.inl (s.zh.tup h1)), .inl (.inl (s.zh.tup h2)), by rw [r1.length, r2.length]; exact hz, fun z => ?_, fun _ z => ?_, fun _ _ p hp => ?_⟩
  · subst z
    cases r1
    exact k _ _ _ _ nF q (.imm s (.tup h2 r2))
  · subst z
    cases r2
    rw [List.append_nil] at q
    exact k _ _ _ _ nF q (.imm s (.tup h1 r1))
  · exact k _ _ _ _ nF q (Fr.tup s hp (repL_app r1 r2))⟩
def oSlT (t : TX) (tl th : TXO) : TX := fun env Q => t env fun d env1 => tl env1 fun lo env2 => th env2 fun hi env3 => ∃ xs, d = .tup xs ∧ frzL xs = xs ∧ Q (.tup (cutL xs lo hi)) env3
variable {a : Expr} {Ma Ra Ml Mh : List Nat} {ta : TX} {tl th : TXO} {lo hi : Option Expr} {p2 pos : Pos}
theorem cut_sub {α : Type} {xs : List α} {lo hi : Option Int} {x : α} (h : x ∈ cutL xs lo hi) : x ∈ xs := by
  unfold cutL at h
  exact List.mem_of_mem_drop (List.mem_of_mem_take h)
theorem cut_all {α : Type} {xs : List α} {lo hi : Option Int} (h : HT.sIx xs.length 0 lo = 0 ∧ HT.sIx xs.length xs.length hi = xs.length) : cutL xs lo hi = xs := by
  unfold cutL
  rw [h.1, h.2]
  simp
theorem x_sliceT (ha : XX X a Ma Ra ta) (hl : XO X lo Ml tl) (hh : XO X hi Mh th) (d1 : Dj Ra Ml = true := by rfl) (d2 : Dj Ra Mh = true := by rfl) :
    XX X (.Subscript a (.Slice lo hi none p2) pos) (Ma ++ Ml ++ Mh) [] (oSlT ta tl th) := ⟨pe_imp (pe_slice sl_tupA ha.pe hl.po hh.po) fun σ H Q ⟨S, Qt, eH, s, q, k⟩ => by
  subst eH
  refine ⟨S, _, rfl, s, q, fun S1 x d Fx q1 s1 st1 v1 => ⟨S1, _, rfl, s1, q1, fun S2 l q2 s2 st2 => ⟨S2, _, rfl, s2, q2, fun S3 h ⟨xs, ed, f, q3⟩ s3 st3 => ?_⟩⟩⟩
  subst ed
  have v3 := ((v1.later s1 st1 st2 d1).later s2 (st1.trans st2) st3 d2).rep
  have st := (st1.trans st2).trans st3
  obtain ⟨b, vs, rfl, h1, r1⟩ := v3.tup_is
  have r1 := RepL.imm' (H' := S3.H) (G := nF) r1 f
  refine ⟨b, vs, rfl, .inl (.inl (s3.zh.tup h1)), fun w => ?_, fun _ p hp => ?_⟩
  · rw [r1.length] at w
    rw [cut_all w] at q3
    exact k S3 _ _ nF q3 s3 st (.imm (.tup h1 r1))
  · have f2 := Fr.tup (q := p) s3 hp (r1.cut l h)
    exact k ⟨_, _, S3.env, S3.F⟩ _ _ _ q3 (f2.sr s3) (st.then0 f2.stp) ((f2.vp s3).then0 st)⟩
end
section
variable {α : Type} {e : α → D}
theorem cutT_e (xs : List α) (lo hi : Option Int) : D.tup (cutL (xs.map e) lo hi) = eT e (cutL xs lo hi) := by rw [cut_map]; rfl
theorem catT_e {xs ys zs : List α} (h : catO xs ys = some zs) : D.tup (xs.map e ++ ys.map e) = eT e zs := by
  unfold catO at h
  split at h
  · cases h
    unfold eT; rw [List.map_append]
  · cases h
end
end TT
namespace TT
open PySem PySem.Spec PyProof.Rows L2
variable [Cls]
theorem envI {f : Env → Prop} {env env' : Env} (h : env = env') (k : f env') : f env := by rw [h]; exact k
end TT
namespace TT
open PySem PySem.Spec PyProof.Rows L2
variable [Cls]
section
variable {α : Type} {e : α → D} {o : Bool} {d : D}
theorem Cmp.in2N [DecidableEq α] {k : Nat} {f : α → D} (h : Cmp e k) (hp : ∀ a, (f a).py = (e a).py) (a : α) (xs : List α) {i : Decidable (a ∈ xs)} : D.bl (!(xs.map e).any fun z => PyData.eqv z.py (f a).py) = .bl (!@decide (a ∈ xs) i) := by
  rw [hp, h.inN]
  congr
end
theorem cdivS {i j : Int} (h0 : 0 < j) (h1 : j < 1073741824) : CDivW i j := ⟨h0, (Nat.log2_lt (by omega)).mpr (Nat.lt_of_lt_of_le (show j.natAbs < 2 ^ 30 by omega) (Nat.pow_le_pow_right (by decide) (by decide)))⟩
theorem cdivG {i j : Int} (h0 : 0 < j) (h1 : j ≤ 1000000000000000000000000000000000000000000000000000000000000) : CDivW i j := ⟨h0, (Nat.log2_lt (by omega)).mpr (Nat.lt_of_lt_of_le (show j.natAbs < 2 ^ 200 by omega) (Nat.pow_le_pow_right (by decide) (by decide)))⟩
instance (i j : Int) : Decidable (CDivW i j) := by unfold CDivW; infer_instance
end TT
namespace TT
open PySem PySem.Spec PyProof.Rows L2
end TT
namespace TT
open PySem PySem.Spec PyProof.Rows L2
variable [Cls]
def tyD : D → Option String
  | .non => some "NoneType"
  | .bl _ => some "bool"
  | .int _ => some "int"
  | .str _ => some "str"
  | .tup _ => some "tuple"
  | .lst _ _ => some "list"
  | .kst _ => some "list"
  | .dct _ _ => some "dict"
  | _ => none
theorem Rep.tyX {K : PySem.W.Frag} {Z H : Hp} {v : V} {d : D} {F : AS} {t : String} (zh : ZH Z H) (r : Rep K Z H v d F) (h : tyD d = some t) : TyX K H v (.type t) := by
  cases d with
  | non => cases h; rw [r.non_inv]; exact .base .non
  | bl b => cases h; rw [r.bl_inv]; exact .base (.bl b)
  | int i => cases h; rw [r.int_inv]; exact .base (.int i)
  | str x => cases h; rw [r.str_inv]; exact .base (.str x)
  | tup xs =>
    cases h
    obtain ⟨a, vs, rfl, h1, _⟩ := r.tup_inv zh
    exact .base (.tup h1)
  | lst o xs =>
    cases h
    obtain ⟨a, vs, rfl, h1, _⟩ := r.lst_inv zh
    rcases h1 with h1 | ⟨ob, h1⟩
    · exact .base (.lst h1)
    · exact .base (.frz h1)
  | kst xs =>
    cases h
    obtain ⟨a, vs, rfl, h1, _⟩ := r.kst_inv zh
    rcases h1 with (h1 | ⟨ob, h1⟩) | ⟨ob, its, n, h1, h2, _⟩
    · exact .base (.lst h1)
    · exact .base (.frz h1)
    · exact .kList h1 h2
  | dct o kvs =>
    cases h
    obtain ⟨a, m, rfl, h1, _⟩ := r.dct_inv zh
    rcases h1 with h1 | ⟨ob, h1⟩
    · exact .base (.dK h1)
    · exact .fDict h1
  | byt b => cases h
  | ty n => cases h
  | dtt o kvs => cases h
  | ins o C fs => cases h
  | kt0 => cases h
/-- isinstance(x, c), c a type of the language -/
def gIsi : List D → (D → Prop) → Prop := fun ds Q => ∃ (d : D) (c t : String) (b : Bool), ds = [d, .ty c] ∧ tyD d = some t ∧ kitB t c = some b ∧ Q (.bl b)
theorem Rep.ty_inv {K : PySem.W.Frag} {Z H : Hp} {v : V} {n : String} {F : AS} (r : Rep K Z H v (.ty n) F) : v = .ty n := by cases r; rfl
theorem c_isi {X : Cx} : CallT X (.builtin "isinstance") gIsi := by
  refine ⟨_, call_isi, fun σ S vs ds F Qd P s ra ⟨d, c, t, b, e, ht, hb, q⟩ k => ?_⟩
  subst e
  obtain ⟨v, w, rfl, r, r2⟩ := paired2 ra
  have e := r2.ty_inv
  subst e
  exact ⟨v, _, _, _, b, rfl, .ty c, r.tyX s.zh ht, kit_ty hb, k _ _ _ _ nF q (.imm s (.bl _))⟩
theorem x_tyN {X : Cx} {x : Str} {n : String} {pos : Pos} (hg : Gl X x) (hm : X.mg x = none) (hv : bootBuiltins x = some (.type n)) (hn : x ≠ "__name__" := by decide) (hd : (x == ("__debug__" : Str)) = false := by decide) : XX X (.Name x pos) [] [] (cD (.ty n)) := x_const (pe_bltn hg hm hv (show RelV (.ty n) (.type n) from rfl) hn hd) fun _ _ => .ty n
end TT
namespace TT
open PySem PySem.Spec PyProof.Rows L2
end TT
namespace TT
open PySem PySem.Spec PyProof.Rows L2
end TT
namespace TT
open PySem PySem.Spec PyProof.Rows L2
variable [Cls]
/-- a made dict of nobody's here -/
structure AccK (K : PySem.W.Frag) (S : W) (Dd : Addr) (m : List (Key × V)) (kvs : List (Key × D)) (Fa : AS) : Prop where
  hd : Off S Dd (.dK m)
  ks : m.map (·.1) = kvs.map (·.1)
  rep : RepL K S.Z S.H (m.map (·.2)) (kvs.map (·.2)) Fa
  nd : (kvs.map (·.1)).Nodup
  off : ∀ a, Fa a → (∃ o, Off S a o) ∧ a ≠ Dd
theorem AccK.stp {K : PySem.W.Frag} {M : List Nat} {S S1 : W} {Dd : Addr} {m : List (Key × V)} {kvs : List (Key × D)} {Fa : AS} (x : AccK K S Dd m kvs Fa) (st : Stp M S S1) : AccK K S1 Dd m kvs Fa :=
  ⟨x.hd.stp st, x.ks, x.rep.ext st.ext fun a z ⟨i, _, h⟩ => by
    obtain ⟨⟨o, q⟩, _⟩ := x.off a z
    exact q.f i h, x.nd, fun a z => let ⟨⟨o, q⟩, n⟩ := x.off a z; ⟨⟨o, q.stp st⟩, n⟩⟩
end TT
namespace TT
open PySem PySem.Spec PyProof.Rows L2
variable [Cls]
section
variable {α β : Type} {e : α → D} {e' : β → D} {gi : TXG} {tt : TXT} {tk tv : TX} {vs : List Nat} {env env0 : Env}
def dctF (f : α → Option (Option (Int × β))) : List α → List (Int × β) → Option (List (Int × β))
  | [], acc => some acc
  | x :: xs, acc => (f x).bind fun
    | none => dctF f xs acc
    | some p => if acc.length < sizeLine then dctF f xs (dPut acc p.1 p.2) else none
end
end TT
namespace TT
open PySem PySem.Spec PyProof.Rows L2
end TT
namespace TT
open PySem PySem.Spec PyProof.Rows L2
end TT
namespace TT
open PySem PySem.Spec PyProof.Rows L2
end TT
namespace TT
open PySem PySem.Spec PyProof.Rows L2
variable [Cls]
section
variable {X : Cx} {e o a b : Expr} {M Ma Mb R Ra Rb : List Nat} {tx t ta tb td : TX} {i : Nat} {x : Str} {p1 pos apos tpos : Pos}
/-- x.extend(e): e a new list (or one that stands frozen) of things that own nothing -/
def oExt (i : Nat) (t : TX) : TX := fun env Q => (∃ xs, env[i]? = some (some (.lst true xs))) ∧ t env fun d env1 => ∃ xs ys, env1[i]? = some (some (.lst true xs)) ∧ d = .lst true ys ∧ frzL ys = ys ∧ xs.length + ys.length ≤ sizeLine ∧ Q .non (env1.set i (some (.lst true (xs ++ ys))))
theorem ext_core {K : PySem.W.Frag} {σ : L2.St} {S S1 : W} {M : List Nat} {i : Nat} {v0 y : V} {xs ys : List D} {Fy : AS} (s1 : SR K σ S1) (st1 : Stp M S S1) (v1 : VP K M [] S S1 y (.lst true ys) Fy) (h0 : σ[i]? = some (some v0)) (e1 : S1.env[i]? = some (some (.lst true xs))) (fy : frzL ys = ys) :
    ∃ a b vs ws, v0 = .ref a ∧ y = .ref b ∧ S1.H a = some (.lst vs) ∧ S1.H b = some (.lst ws) ∧ vs.length = xs.length ∧ ws.length = ys.length ∧
      SR K σ ⟨S1.Z, upd S1.H a (.lst (vs ++ ws)), S1.env.set i (some (.lst true (xs ++ ys))), putF S1.F i (fun b => S1.F i b ∨ nF b)⟩ ∧ Stp (M ++ [i]) S ⟨S1.Z, upd S1.H a (.lst (vs ++ ws)), S1.env.set i (some (.lst true (xs ++ ys))), putF S1.F i (fun b => S1.F i b ∨ nF b)⟩ := by
  have r1 := sl_at s1 e1 h0
  obtain ⟨a, vs, G, rfl, fa, ha, za, rl, hG⟩ := r1.own_inv
  obtain ⟨b, ws, G2, rfl, fb, hb, zb, rw', _⟩ := v1.rep.own_inv
  have nga : ¬ G a := fun z => (hG a z).2 rfl
  have ri := RepL.imm' (H' := S1.H) (G := nF) rw' fy
  refine ⟨a, b, vs, ws, rfl, rfl, ha, hb, rl.length, rw'.length, ?_⟩
  have rr : RepL K S1.Z (upd S1.H a (.lst (vs ++ ws))) (vs ++ ws) (xs ++ ys) (fun b => G b) := by
    have g1 : RepL K S1.Z (upd S1.H a (.lst (vs ++ ws))) vs xs G := rl.upd nga
    have g2 : RepL K S1.Z (upd S1.H a (.lst (vs ++ ws))) ws ys nF := ri.upd fun z => z
    clear rl rw' ri
    have key : ∀ {ws : List V} {ys : List D} {vs : List V} {xs : List D} {G : AS} {H : Hp}, RepL K S1.Z H vs xs G → RepL K S1.Z H ws ys nF → RepL K S1.Z H (vs ++ ws) (xs ++ ys) G := by
      intro ws ys vs xs G H g1 g2
      induction vs generalizing xs G with
      | nil => cases g1; exact g2.mono fun _ z => z.elim
      | cons v vs ih =>
        cases g1 with
        | cons r1 r2 h1 h2 => exact .cons r1 (ih r2) h1 h2
    exact key g1 g2
  exact mut_step (o' := .lst (vs ++ ws)) (d' := .lst true (xs ++ ys)) (Fy := nF) s1 st1 h0 fa (fun _ z => z.elim) (fun _ z => z.elim)
    (.lstO (G := G) (.inl fa) upd_same za rr fun b z => ⟨.inl (hG b z).1, (hG b z).2⟩)
theorem x_extend (hx : PE X (.Name x p1) (tVar i)) (ha : XX X e M [] tx)
    (hbase : attributeBase (.Name x p1) "extend" X.env (eval (.Name x p1) X.env) = eval (.Name x p1) X.env := by rfl)
    (hfew : ((backTo pos (starEach [e] X.env)).all (fun x => !x.1) && (backToKw pos (keywordEach [] X.env)).all (fun x => x.1.isSome)
      && decide ([e].length + ([] : List Keyword).length + (if ([] : List Keyword).isEmpty then 0 else 1) < 30)) = true := by rfl)
    (hline : (apos.endLine == pos.line) = true := by rfl) (hs : starEach [e] X.env = (false, eval e X.env) :: starEach [] X.env := by rfl) (hplain : (backTo pos (starEach [] X.env)).any (·.1) = false := by rfl) :
    XX X (.Call (.Attribute (.Name x p1) "extend" apos) [e] [] pos) (M ++ [i]) [] (oExt i tx) := ⟨pe_imp (pe_bm PySem.F.plainAttrs_list PySem.F.slot_list_extend PySem.F.type_list_extend mt_extend hx (pa_cons ha.pe pa_nil hs) hbase hfew hline hs hplain) fun σ H Q ⟨S, Qt, eH, s, ⟨⟨xs0, e0⟩, q⟩, k⟩ => by
  subst eH
  obtain ⟨v0, h0, r0⟩ := s.sl i _ e0
  refine ⟨v0, h0, tyV_lst s r0, S, _, rfl, s, q, fun S1 y d Fy ⟨xs, ys, e1, ed, fy, hl, q1⟩ s1 st1 v1 => ?_⟩
  subst ed
  obtain ⟨a, b, vs, ws, rfl, rfl, g1, g2, l1, l2, s2, st2⟩ := ext_core s1 st1 v1 h0 e1 fy
  exact ⟨a, b, vs, ws, rfl, rfl, g1, g2, by rw [l1, l2]; exact hl, k _ _ _ nF q1 s2 st2 (.imm .non)⟩⟩
theorem Fr.dct {K : PySem.W.Frag} {σ : L2.St} {S : W} {m : List (Key × V)} {kvs : List (Key × D)} {q : Addr} (s : SR K σ S) (hp : S.H q = none) (hm : m.map (·.1) = kvs.map (·.1)) (r : RepL K S.Z S.H (m.map (·.2)) (kvs.map (·.2)) nF) : Fr K S S.Z (upd S.H q (.dK m)) (.ref q) (.dct true kvs) (fun a => a = q) := by
  obtain ⟨x, zh⟩ := ext_new (o := .dK m) s.zh hp
  exact ⟨x, zh, .dctO rfl upd_same (s.zh.none hp) hm (r.ext x fun _ z => z.elim) fun _ z => z.elim, fun a e => by subst e; exact ⟨hp, ⟨_, upd_same⟩, s.zh.none hp⟩⟩
def isDct : D → Bool
  | .dct _ _ => true
  | _ => false
theorem isDct_inv {d : D} (h : isDct d = true) : ∃ o kvs, d = .dct o kvs := by
  cases d <;> first | exact ⟨_, _, rfl⟩ | cases h
def oGet2 (ta tb tc : TX) : TX := fun env Q => ta env fun d env1 => isDct d = true ∧ tb env1 fun k env2 => tc env2 fun z env3 => z.frz = z ∧ ∃ r, dget d k = some r ∧ Q (r.getD z) env3
theorem x_get2 (hu : X.A.units + 1 < cLine) {f : Expr} {tc : TX} {Mc Rc : List Nat} (ho : XX X o Ma Ra ta) (ha : XX X e Mb Rb tb) (hf : XX X f Mc Rc tc) (dj : Dj Ra Mb = true := by rfl) (dj2 : Dj Rb Mc = true := by rfl) (dj3 : Dj Ra Mc = true := by rfl) (m : M2 X o "get" apos e f pos := by exact ⟨rfl, rfl, rfl, rfl⟩) :
    XX X (.Call (.Attribute o "get" apos) [e, f] [] pos) ((Ma ++ Mb) ++ Mc) Ra (oGet2 ta tb tc) := ⟨pe_imp (pe_dget2 hu ho.pe ha.pe hf.pe m) fun σ H Q ⟨S, Qt, eH, s, q, k⟩ => by
  subst eH
  refine ⟨S, _, rfl, s, q, fun S1 x d Fx ⟨hk, q1⟩ s1 st1 v1 => ?_⟩
  obtain ⟨ob, kvs, ed⟩ := isDct_inv hk
  obtain ⟨a, mm, rfl, h1, _⟩ := (ed ▸ v1.rep : Rep X.K S1.Z S1.H x (.dct ob kvs) Fx).dct_inv s1.zh
  refine ⟨a, rfl, .inl ⟨mm, h1⟩, S1, _, rfl, s1, q1, fun S2 y d2 Fy q2 s2 st2 v2 => ⟨S2, _, rfl, s2, q2, fun S3 z d3 Fz ⟨hz, r, hr, q3⟩ s3 st3 v3 => ?_⟩⟩
  have v1' := (v1.later s1 st1 st2 dj).later s2 (st1.trans st2) st3 dj3
  have v2' := v2.later s2 st2 st3 dj2
  obtain ⟨a', e', ⟨h, h2⟩ | ⟨v, r', g1, g2, g3⟩⟩ := dget_rep s3 v1'.rep v2'.rep hr
  · cases e'
    subst h
    exact ⟨none, h2, k S3 _ _ nF q3 s3 ((st1.trans st2).trans st3) (.imm (v3.rep.imm hz))⟩
  · cases e'
    subst g1
    exact ⟨some v, g2, k S3 _ _ Fx q3 s3 ((st1.trans st2).trans st3) ⟨g3, v1'.tv, v1'.ow⟩⟩⟩
end
end TT
namespace TT
open PySem PySem.Spec PyProof.Rows L2
variable [Cls]
/-- nothing but new objects -/
def Kp (s s' : Shared) : Prop := ∃ h' tk, s' = { s with heap := h', toks := tk } ∧ ∀ b o, s.heap.get? b = some o → h'.get? b = some o
theorem Kp.refl {s : Shared} : Kp s s := ⟨s.heap, s.toks, rfl, fun _ _ h => h⟩
theorem Kp.tok {s : Shared} {tk : Nat} : Kp s { s with toks := tk } := ⟨s.heap, tk, rfl, fun _ _ h => h⟩
theorem Kp.trans {s s1 s2 : Shared} (a : Kp s s1) (b : Kp s1 s2) : Kp s s2 := by
  obtain ⟨h1, t1, rfl, k1⟩ := a
  obtain ⟨h2, t2, rfl, k2⟩ := b
  exact ⟨h2, t2, rfl, fun b o h => k2 b o (k1 b o h)⟩
theorem Kp.keep {s s' : Shared} (a : Kp s s') : ∀ b o, s.heap.get? b = some o → s'.heap.get? b = some o := by
  obtain ⟨h1, t1, rfl, k1⟩ := a
  exact k1
/-- what the names' values read as -/
abbrev Dl := Nat → Option PyData
def Sees (σ : L2.St) (s : Shared) (δ : Dl) : Prop := ∀ i d, δ i = some d → ∃ x, σ[i]? = some (some x) ∧ ∀ u, RelV x u → Reads s.heap u d []
theorem Sees.kp {σ : L2.St} {s s' : Shared} {δ : Dl} (h : Sees σ s δ) (k : Kp s s') : Sees σ s' δ := fun i d e => by
  obtain ⟨x, h1, h2⟩ := h i d e
  exact ⟨x, h1, fun u r => Reads.keeps k.keep (h2 u r)⟩
/-- a def (a lambda) at f of one parameter, that leaves no trace: of a it makes d where g a d -/
def PuF (P : Program) (w : World) (K : PySem.W.Frag) (mg : Str → Option Value) (base : Heap) (k : Nat) (f : Addr) (g : PyData → PyData → Prop) : Prop :=
  ∀ (A : Around) (outer : List PySem.Env) (s : Shared) (H : Hp) (v : Value) (a d : PyData) (E : Value → Shared → Prop), Room k A → Env0 P w K mg base A outer s H → Reads s.heap v a [] → g a d →
    wpAny (model P w) A (call (.ref f) [v]) (fun u s' => Kp s s' ∧ Reads s'.heap u d []) E s
theorem PuF.mono {P : Program} {w : World} {K : PySem.W.Frag} {mg : Str → Option Value} {base : Heap} {j k : Nat} {f : Addr} {g : PyData → PyData → Prop} (F : PuF P w K mg base j f g) (h : j ≤ k) : PuF P w K mg base k f g := fun A outer s H v a d E hr => F A outer s H v a d E (hr.mono h)
end TT
namespace TT
open PySem PySem.Spec PyProof.Rows L2
end TT
namespace TT
open PySem PySem.Spec PyProof.Rows L2
variable [Cls]
section
variable {α : Type} {e e' : α → D} {o : Bool}
def dkeys (m : List (Int × α)) : List Int := m.map (·.1)
def dMerge (m more : List (Int × α)) : List (Int × α) := more.foldl (fun acc p => dPut acc p.1 p.2) m
end
def leP (a b : Int) : Bool := decide (absI a < absI b) || (decide (absI a = absI b) && (!decide (a < 0) || decide (b < 0)))
end TT
namespace TT
open PySem PySem.Spec PyProof.Rows L2
variable [Cls]
/-- the lambda at f, whose code object is at c' -/
def LamAt (f c' : Addr) (q : Str) (params : Arguments) (body : Expr) (scope : Scope) (h : Heap) : Prop := ∃ pm ctv, h.get? f = some (PySem.W.kla_obj "<lambda>" q params body scope [] pm c' ctv) ∧ h.CodeRec (.ref c') q
theorem LamAt.keeps {f c' : Addr} {q : Str} {params : Arguments} {body : Expr} {scope : Scope} {h h' : Heap} (l : LamAt f c' q params body scope h) (k : ∀ b o, h.get? b = some o → h'.get? b = some o) : LamAt f c' q params body scope h' := by
  obtain ⟨pm, ctv, h1, c, oc, vs, tq, h2, h3, h4⟩ := l
  exact ⟨pm, ctv, k _ _ h1, c, oc, vs, tq, h2, k _ _ h3, h4⟩
end TT
namespace TT
open PySem PySem.Spec PyProof.Rows L2
variable [Cls]
section
variable {P : Program} {w : World} {K : PySem.W.Frag} {mg mb : Str → Option Value} {k : Nat} {f a : Addr} {fd : FuncData} {x : Str} {sp : Sp} {t : Shared} {script : List Value} {ns : List Int} {H : Hp} {cs : List (Addr × Addr)}
/-- an empty table -/
abbrev tab0 : Obj := { cls := .none, data := .fields #[] }
/-- what is tracked at the start: the script (or nothing), the empty tables -/
structure Start (t : Shared) (K : PySem.W.Frag) (cs : List (Addr × Addr)) (a : Addr) (script : List Value) (H : Hp) : Prop where
  one : ∀ b u, H b = some u → b = a ∨ ∃ p, p ∈ cs ∧ b = p.2
  isL : t.heap.get? a = some { cls := .type "list", data := .seq script.toArray }
  isT : ∀ p, p ∈ cs → t.heap.get? p.2 = some tab0
  notK : ∀ b u, H b = some u → K.lookup b = none
variable (S : Start t K cs a script H)
include S
theorem Start.free {b : Addr} {o : Obj} (g : t.heap.get? b = some o) (n : (∀ vs n, o.data ≠ .seq vs n) ∧ o.data ≠ .fields #[]) : H b = none := by
  cases q : H b with
  | none => rfl
  | some u =>
    rcases S.one b u q with e | ⟨p, hp, e⟩ <;> subst e
    · rw [S.isL] at g; cases g; exact absurd rfl (n.1 _ _)
    · rw [S.isT p hp] at g; cases g; exact absurd rfl n.2
theorem Start.get {b : Addr} {o : Obj} (g : t.heap.get? b = some o) (n : (∀ vs n, o.data ≠ .seq vs n) ∧ o.data ≠ .fields #[]) : (hidT t.heap H).get? b = some o := hidT_get g (S.free g n)
theorem Start.nsp {L : Addr} {m : Str → Option Value} (h : t.heap.Ns L m) : (hidT t.heap H).Ns L m := by
  obtain ⟨o, es, ep, g, d, r⟩ := h
  exact ⟨o, es, ep, S.get g (by rw [d]; exact ⟨(fun _ _ z => by cases z), (fun z => by cases z)⟩), d, r⟩
theorem Start.kin (kin : K.In t.heap) : K.In (hidT t.heap H) := fun b o e => hidT_get (kin b o e) (by
  cases q : H b with
  | none => rfl
  | some u => rw [S.notK b u q] at e; cases e)
theorem Start.tab (top : t.heap.Ns mainGlobals mg) (hbm : ∃ (bm : Addr) (ob : Obj), mg "__builtins__" = some (.ref bm) ∧ bm ≠ builtinsNs ∧ t.heap.get? bm = some ob ∧ ob.cls = .type "module" ∧ ob.dict = some builtinsNs ∧ ob.data = .plain)
    (C : ∀ p, p ∈ cs → PySem.W.CodeHd t.heap p.1 p.2) {p : Addr × Addr} (hp : p ∈ cs) : LamX.TabB (hidT t.heap H) mg p.1 p.2 := by
  have nG : ∀ {b : Addr} {o : Obj}, t.heap.get? b = some o → (∀ es ep, o.data ≠ .dict es ep) → b ≠ mainGlobals := fun {b o} g n z => by
    obtain ⟨o', es, ep, g', d, _⟩ := top
    rw [z, g'] at g; cases g
    exact n _ _ d
  refine ⟨?_, ?_, fun z => nG (S.isT p hp) (fun _ _ z => by cases z) z.symm⟩
  · obtain ⟨o, us, file, tf, flags, tg, inF, text, tt, e1, r1, r2, r3, r⟩ := C p hp
    refine ⟨o, us, file, tf, flags, tg, inF, text, tt, S.get e1 (by rw [r2]; exact ⟨(fun _ _ z => by cases z), (fun z => by cases z; simp at r3)⟩), r1, r2, r3, r⟩
  · obtain ⟨bm, ob, b1, b2, b3, b4, b5, b6⟩ := hbm
    refine ⟨bm, ob, b1, b2, nG b3 (by rw [b6]; exact fun _ _ z => by cases z), fun z => ?_, S.get b3 (by rw [b6]; exact ⟨(fun _ _ z => by cases z), (fun z => by cases z)⟩), b4, b5, b6⟩
    rw [z, S.isT p hp] at b3; cases b3; cases b6
theorem Start.go (kin : K.In t.heap) (top : t.heap.Ns mainGlobals mg) (blt : t.heap.Ns builtinsNs mb) (boot : ∀ y : Str, y ≠ "__name__" → mb y = bootBuiltins y) (lim : t.heap.NoLimit) (gens : t.gens = #[])
    (hbm : ∃ (bm : Addr) (ob : Obj), mg "__builtins__" = some (.ref bm) ∧ bm ≠ builtinsNs ∧ t.heap.get? bm = some ob ∧ ob.cls = .type "module" ∧ ob.dict = some builtinsNs ∧ ob.data = .plain) (C : ∀ p, p ∈ cs → PySem.W.CodeHd t.heap p.1 p.2)
    (room : Room k callerA) (F : ∀ base : Heap, (∀ p, p ∈ cs → LamX.TabB base mg p.1 p.2) → FnG P w K mg base k f fd [x] sp) (bnd : ∀ (s : Shared) (u : Value), BindsTo s fd ⟨[u], []⟩ [(x, u)])
    (ok : HOk P w H t.heap) (hT : ∀ p, p ∈ cs → H p.2 = some (.tbl #[])) (only : ∀ b, H b = none ∨ (∃ ps, H b = some (.tbl ps)) ∨ ∃ o xs, H b = some (.frz o (.lst xs))) (promise : sp [.ref a] H (fun v _ => v = .bl true) fun _ _ _ => False) :
    codeAny (model P w) callerA (.call (.ref f) ⟨[.ref a], []⟩) (fun r s' => r = .ok (.ret (.bool true)) ∧ OldK t.heap s'.heap ∧ s'.os = t.os ∧ AllBare s'.gens) t := by
  obtain ⟨mc, n1, n2⟩ := lim
  have md : Mod K mg (hidT t.heap H) := ⟨S.kin kin, S.nsp top, ⟨mb, S.nsp blt, boot⟩, mc, S.nsp n1, n2⟩
  have noF : ∀ b : Addr, b ∉ frs ([] : List PySem.Env) := fun b hb => by cases hb
  have env0 : Env0 P w K mg (hidT t.heap H) callerA [] t H := ⟨rfl, md, fun _ _ e => of_hidT e, Nat.le_of_eq (hidT_size _ _), trivial, fun b hb => absurd hb (noF b), ok, .of_eq gens⟩
  refine codeAny_mono ((F _ fun p hp => S.tab top hbm C hp).go callerA [] t H ⟨[.ref a], []⟩ [.ref a] [.ref a] _ _ rfl room env0 (bnd t (.ref a)) (.cons rfl .nil) promise) fun r s' h => ?_
  rcases r with e | fl
  · exact h.elim
  · obtain ⟨u, rfl⟩ : ∃ u, fl = .ret u := by
      cases fl with
      | ret u => exact ⟨u, rfl⟩
      | _ => exact False.elim h
    obtain ⟨v, H2, os, bare, un, ok2, rv, hv⟩ := h
    have hv : v = .bl true := hv
    subst hv
    have eu : u = .bool true := rv
    have stays : ∀ b o, t.heap.get? b = some o → s'.heap.get? b = some o ∨ ∃ p more, p ∈ cs ∧ b = p.2 ∧ s'.heap.get? b = some { cls := .none, data := .fields more } := fun b o g => by
      rcases only b with z | ⟨ps, z⟩ | ⟨ob, xs, z⟩
      · exact .inl (un.keep b o g z (noF b) (by simp))
      · obtain ⟨more, z2⟩ := un.tbls b ps z
        have g2 : t.heap.get? b = some _ := ok b _ z
        rcases S.one b _ z with e | ⟨p, hp, e⟩
        · rw [e, S.isL] at g2; cases g2
        · exact .inr ⟨p, _, hp, e, ok2 b _ z2⟩
      · have g2 := (ok b _ z).1
        rw [g] at g2
        cases g2
        exact .inl (ok2 b _ (un.frzs b _ _ z)).1
    refine ⟨by rw [eu], ⟨fun b o g => ?_, fun b o g => ?_⟩, os, bare⟩
    · rcases stays b o g with z | ⟨p, more, hp, e, z⟩
      · exact .inl z
      · subst e
        rw [S.isT p hp] at g; cases g
        exact .inr (.inl ⟨((C p hp).tab (S.isT p hp)).isCodeTable, rfl, #[], more, rfl, by rw [Array.empty_append]; exact z⟩)
    · rcases stays b o g with z | ⟨_, _, _, _, z⟩
      · exact ⟨_, z⟩
      · exact ⟨_, z⟩
omit S
theorem law_callGT (kin : K.In t.heap) (top : t.heap.Ns mainGlobals mg) (blt : t.heap.Ns builtinsNs mb) (boot : ∀ y : Str, y ≠ "__name__" → mb y = bootBuiltins y) (lim : t.heap.NoLimit) (gens : t.gens = #[])
    (hbm : ∃ (bm : Addr) (ob : Obj), mg "__builtins__" = some (.ref bm) ∧ bm ≠ builtinsNs ∧ t.heap.get? bm = some ob ∧ ob.cls = .type "module" ∧ ob.dict = some builtinsNs ∧ ob.data = .plain)
    (isT : ∀ p, p ∈ cs → t.heap.get? p.2 = some tab0) (nT : ∀ p, p ∈ cs → K.lookup p.2 = none) (C : ∀ p, p ∈ cs → PySem.W.CodeHd t.heap p.1 p.2)
    (isL : t.heap.get? a = some { cls := .type "list", data := .seq script.toArray }) (isI : IntsAre script ns) (few : ns.length ≤ sizeLine) (room : Room k callerA) (F : ∀ base : Heap, (∀ p, p ∈ cs → LamX.TabB base mg p.1 p.2) → FnG P w K mg base k f fd [x] sp) (bnd : ∀ (s : Shared) (u : Value), BindsTo s fd ⟨[u], []⟩ [(x, u)])
    (promise : ∀ H : Hp, (∀ p, p ∈ cs → H p.2 = some (.tbl #[])) → SqL K H a (ns.map V.int) → sp [.ref a] H (fun v _ => v = .bl true) fun _ _ _ => False) :
    codeAny (model P w) callerA (.call (.ref f) ⟨[.ref a], []⟩) (fun r s' => r = .ok (.ret (.bool true)) ∧ OldK t.heap s'.heap ∧ s'.os = t.os ∧ AllBare s'.gens) t := by
  have rel := vals_ints isI
  classical
  let T : Addr → Prop := fun b => ∃ p, p ∈ cs ∧ b = p.2
  have aT : ¬ T a := fun ⟨p, hp, e⟩ => by rw [e, isT p hp] at isL; cases isL
  have okT : ∀ b, T b → t.heap.get? b = some tab0 := fun b ⟨p, hp, e⟩ => e ▸ isT p hp
  by_cases q : K.lookup a = none
  · let H : Hp := fun b => if T b then some (.tbl #[]) else if b = a then some (.frz { cls := .type "list", data := .seq script.toArray } (.lst (ns.map V.int))) else none
    have hT : ∀ b, T b → H b = some (.tbl #[]) := fun b h => if_pos h
    have ha : H a = some (.frz { cls := .type "list", data := .seq script.toArray } (.lst (ns.map V.int))) := (if_neg aT).trans (if_pos rfl)
    have cases_ : ∀ b u, H b = some u → (T b ∧ u = .tbl #[]) ∨ (b = a ∧ u = .frz { cls := .type "list", data := .seq script.toArray } (.lst (ns.map V.int))) := fun b u h => by
      by_cases e : T b
      · exact .inl ⟨e, (Option.some.inj (h.symm.trans (hT b e)))⟩
      · by_cases e2 : b = a
        · subst e2; exact .inr ⟨rfl, Option.some.inj (h.symm.trans ha)⟩
        · have : H b = none := (if_neg e).trans (if_neg e2)
          rw [this] at h; cases h
    have S : Start t K cs a script H := ⟨fun b u h => (cases_ b u h).symm.imp (·.1) (·.1), isL, isT, fun b u h => by
      rcases cases_ b u h with ⟨⟨p, hp, e⟩, _⟩ | ⟨e, _⟩
      · rw [e]; exact nT p hp
      · rw [e]; exact q⟩
    refine S.go kin top blt boot lim gens hbm C room F bnd (fun b u h => ?_) (fun p hp => hT _ ⟨p, hp, rfl⟩) (fun b => ?_) (promise H (fun p hp => hT _ ⟨p, hp, rfl⟩) (.inl (.inr ⟨_, ha⟩)))
    · rcases cases_ b u h with ⟨e, rfl⟩ | ⟨rfl, rfl⟩
      · exact okT b e
      · exact ⟨isL, by rw [List.length_map]; exact few, script, _, rel, isL⟩
    · cases h : H b with
      | none => exact .inl rfl
      | some u =>
        rcases cases_ b u h with ⟨_, rfl⟩ | ⟨_, rfl⟩
        · exact .inr (.inl ⟨_, rfl⟩)
        · exact .inr (.inr ⟨_, _, rfl⟩)
  · obtain ⟨o, ho⟩ := Option.ne_none_iff_exists'.mp q
    have e := kin a o ho
    rw [isL] at e
    cases e
    let H : Hp := fun b => if T b then some (.tbl #[]) else none
    have hT : ∀ b, T b → H b = some (.tbl #[]) := fun b h => if_pos h
    have cases_ : ∀ b u, H b = some u → T b ∧ u = .tbl #[] := fun b u h => by
      by_cases e : T b
      · exact ⟨e, (Option.some.inj (h.symm.trans (hT b e)))⟩
      · have : H b = none := if_neg e
        rw [this] at h; cases h
    have S : Start t K cs a script H := ⟨fun b u h => .inr (cases_ b u h).1, isL, isT, fun b u h => by
      obtain ⟨⟨p, hp, e⟩, _⟩ := cases_ b u h
      rw [e]; exact nT p hp⟩
    refine S.go kin top blt boot lim gens hbm C room F bnd (fun b u h => ?_) (fun p hp => hT _ ⟨p, hp, rfl⟩) (fun b => ?_) (promise H (fun p hp => hT _ ⟨p, hp, rfl⟩) (.inr ⟨_, script.toArray, _, ho, rfl, rfl, rfl, by rw [List.size_toArray, isI.length]; exact few, by simpa using rel⟩))
    · obtain ⟨e, rfl⟩ := cases_ b u h
      exact okT b e
    · cases h : H b with
      | none => exact .inl rfl
      | some u =>
        obtain ⟨_, rfl⟩ := cases_ b u h
        exact .inr (.inl ⟨_, rfl⟩)
end
theorem walk_ofGT {l : PySem.W.OpenLaw} {n k : Nat} {q : Program} {loose : List Str} {XP : (Str → Option Value) → Heap → Prop} {YP : World → Heap → Prop} {d : DefRec} {x : Str} (hn : l.most = some n) (hn2 : n ≤ sizeLine) (hdf : d.params.defaults = []) (room : Room k callerA)
    (F : ∀ (w : World) (mg : Str → Option Value) (fa : Addr) (h : Heap), YP w h → h.Ns mainGlobals mg → mg d.name = some (.ref fa) → ∃ (K : PySem.W.Frag) (fd : FuncData) (sp : Sp) (cs : List (Addr × Addr)), K.In h ∧ (∀ (s : Shared) (u : Value), BindsTo s fd ⟨[u], []⟩ [(x, u)]) ∧
        (∀ p, p ∈ cs → h.get? p.2 = some tab0) ∧ (∀ p, p ∈ cs → K.lookup p.2 = none) ∧ (∀ p, p ∈ cs → PySem.W.CodeHd h p.1 p.2) ∧
        (∀ (H : Hp) (a : Addr) (ns : List Int), ns.length ≤ n → (∀ p, p ∈ cs → H p.2 = some (.tbl #[])) → SqL K H a (ns.map V.int) → sp [.ref a] H (fun v _ => v = .bl true) fun _ _ _ => False) ∧ ∀ base : Heap, (∀ p, p ∈ cs → LamX.TabB base mg p.1 p.2) → FnG l.prog w K mg base k fa fd [x] sp) : PySem.W.WalkO q loose XP YP l.row.toRowW d [] (fun f vs => PySem.call f vs) :=
  Att.attach_call hn hdf fun w s0 s1 mg mb fa o pm cd doc a vs ns G Y ho hd hcd hmg hobj isI hlen hg => by
    obtain ⟨K, fd, sp, cs, kin, bnd, isT, nT, C, pr, hF⟩ := F w mg fa _ Y G.T.g hmg
    exact law_callGT kin G.T.g G.T.b G.T.builtins G.T.nolimit hg G.T.bmain isT nT C hobj isI (Nat.le_trans hlen hn2) room hF bnd fun H => pr H a ns hlen
end TT
namespace TT
open PySem PySem.Spec PyProof.Rows L2
variable [Cls]
/-- lesser by the first side's place, then by the other one's -/
def leB (p q : Int × Int) : Bool := leP p.1 q.1 && (!decide (p.1 = q.1) || leP p.2 q.2)
def risenB (ns : List (Int × Int)) : List (Int × Int) := ns.mergeSort leB
end TT
namespace TT
open PySem PySem.Spec PyProof.Rows L2
end TT
namespace TT
open PySem PySem.Spec PyProof.Rows L2
end TT
namespace TT
open PySem PySem.Spec PyProof.Rows L2
variable [Cls]
section
variable {prog : Program} {w : World} {A : Around} {E : Value → Shared → Prop} {s : Shared}
theorem sliced_back2 {sl : Addr} {vs : Value} {Q : Int × Int × Nat → Shared → Prop} (hs : s.heap.IsSliceOf sl .none .none vs) (ps : IsPart vs (some (-1))) (h : Q (1, -1, 2) s) : wpAny (model prog w) A (Builtin.Slice.sliceApplied (.ref sl) (pure ((2 : Nat) : Int))) Q E s := by
  obtain ⟨os, hos, hcs, hds⟩ := id hs
  unfold Builtin.Slice.sliceApplied Builtin.Slice.sliceFields
  refine wpAny_bind (wpAny_bind (wpAny_field hos hds (x := .none) rfl (wpAny_bind (wpAny_field hos hds (x := .none) rfl (wpAny_bind (wpAny_field hos hds (x := vs) rfl (wpAny_pure ?_)))))))
  refine wpAny_bind (HT.slicePart_ ps ?_)
  show wpAny _ _ (if ((-1 : Int) == 0) = true then _ else _) _ _ s
  rw [if_neg (by decide)]
  refine wpAny_bind (HT.slicePart_ .none (wpAny_bind (HT.slicePart_ .none (wpAny_bind (wpAny_pure ?_)))))
  exact wpAny_pure h
theorem getItem_back2 {t sl : Addr} {x y vs : Value} {Q : Value → Shared → Prop} (ht : IsTup s.heap t #[x, y]) (hs : s.heap.IsSliceOf sl .none .none vs) (ps : IsPart vs (some (-1)))
    (h : Q (.ref s.heap.objs.size) { s with heap := s.heap.push { cls := .type "tuple", data := .seq #[y, x] } }) : wpAny (model prog w) A (getItem (.ref t) (.ref sl)) Q E s := by
  obtain ⟨os, hos, hcs, hds⟩ := id hs
  have hTs : s.TypeIs (.ref sl) "slice" := ⟨os, hos, hcs⟩
  unfold getItem
  try with_reducible refine wpAny_holding ?_
  first | refine wpAny_bind (wpAny_pure ?_) | skip
  refine wpAny_bind (wpAny_sequenceKey ht.typeIs (by decide) ?_)
  refine wpAny_bind (wpAny_callSpecial?_slot (name := Str.ofString "__getitem__") ht.typeIs PyProof.Rows.slot_tuple_getitem (wpAny_call_entry PyProof.Rows.slot_tuple_getitem ht.typeIs entry_tuple_getitem ?_ (args_tuple_getitem _ _)))
  show wpAny _ _ (Builtin.Tuple.tupleItemsOf (.ref t) >>= _) _ _ s
  refine wpAny_bind (tupleItemsOf_ ht ?_)
  refine wpAny_bind (wpAny_typeOf hTs ?_)
  rw [if_pos (by decide)]
  refine wpAny_bind (sliced_back2 hs ps ?_)
  show wpAny _ _ (if ((1 : Int) == 0 && (-1 : Int) == 1 && (2 : Nat) == 2) = true then _ else _) _ _ s
  rw [if_neg (by decide)]
  have e : ((List.range 2).filterMap fun (k : Nat) => (#[x, y] : Array Value)[((1 : Int) + (k : Int) * (-1)).toNat]?).toArray = #[y, x] := rfl
  rw [e]
  first
    | exact wpAny_bind (m := Builtin.Tuple.tupleExact _) (wpAny_newObj_type (wpAny_pure ⟨_, rfl, wpAny_pure h⟩) (by show 2 ≤ sizeLine; decide))
    | exact wpAny_bind (m := Builtin.Tuple.tupleExact _) (wpAny_newObj_type (wpAny_bind (wpAny_pure (wpAny_pure ⟨_, rfl, wpAny_pure h⟩))) (by show 2 ≤ sizeLine; decide))
end
section
variable {X : Cx} {e : Expr} {te : TE} {k : Nat} {p1 p2 p3 pos : Pos}
def tRev2 (K : PySem.W.Frag) (te : TE) : TE := fun σ H Q => te σ H fun x H1 => ∃ a y z, x = .ref a ∧ SqT K H1 a [y, z] ∧ ∀ p, H1 p = none → Q (.ref p) (upd H1 p (.tup [z, y]))
theorem pe_rev2 (he : PE X e te) : PE X (.Subscript e (.Slice none none (some (.UnaryOp .USub (.Constant (.int 1) k p1) p2)) p3) pos) (tRev2 X.K te) := by
  refine ⟨fun pins s σ H Q I h => ?_⟩
  refine Subscript_ (thn (he.run pins s σ H _ I h) fun v s1 ⟨x, H1, I1, r1, a, y, z, ex, hx, q⟩ => ?_)
  subst ex
  cases r1
  have hst : PO X (some (.UnaryOp .USub (.Constant (.int 1) k p1) p2)) (tPart (tUn (rU fun i => .int (-i)) (tC (.int 1)))) := po_some (pe_un un_neg pe_int)
  refine wpAny_Slice (thn (po_none.run pins s1 σ H1 (fun o H2 => o = none ∧ H2 = H1) I1 ⟨rfl, rfl⟩) fun vl s2 ⟨l, H2, I2, pl, el, e2⟩ => ?_)
  subst el e2
  refine thn (po_none.run pins s2 σ H2 (fun o H3 => o = none ∧ H3 = H2) I2 ⟨rfl, rfl⟩) fun vu s3 ⟨u, H3, I3, pu, eu, e3⟩ => ?_
  subst eu e3
  refine thn (hst.run pins s3 σ H3 (fun o H4 => o = some (-1) ∧ H4 = H3) I3 ⟨1, rfl, -1, rfl, rfl, rfl⟩) fun vs s4 ⟨o, H4, I4, ps, eo, e4⟩ => ?_
  subst eo e4
  cases pl
  cases pu
  have I5 : L2.Inv X pins σ H4 { s4 with heap := s4.heap.push { cls := .type "slice", data := .fields #[.none, .none, vs] } } := I4.kept (t' := s4.toks) fun b ob q => Heap.get?_push_of_some _ q
  obtain ⟨its, r, ht, hz⟩ := I5.tuple hx
  obtain ⟨u1, u2, rfl, ra, rb⟩ : ∃ u1 u2, its = [u1, u2] ∧ RelV y u1 ∧ RelV z u2 := by
    cases r with
    | cons p q =>
      cases q with
      | cons p' q' => cases q'; exact ⟨_, _, rfl, p, p'⟩
  show wpAny (model X.prog X.w) X.A (subscriptTail e (.Slice none none (some (.UnaryOp .USub (.Constant (.int 1) k p1) p2)) p3) (.ref a) (.ref s4.heap.objs.size)) (EP X pins σ Q) X.xe { s4 with heap := s4.heap.push { cls := .type "slice", data := .fields #[.none, .none, vs] } }
  refine tail_any (ops := [.ref a, .ref s4.heap.objs.size]) ht.typeIs PyProof.Rows.slot_tuple_getitem.lookup ?_ (by with_unfolding_all rfl)
  refine getItem_back2 ht (Heap.IsSliceOf.new _ .none .none vs) ps ?_
  refine ⟨.ref _, _, I5.laid (t' := s4.toks) (o := .tup [z, y]) (fun b ob q => Heap.get?_push_of_some _ q) (Nat.le_refl _) ?_, rfl, q _ (I5.hok.fresh (Nat.le_refl _))⟩
  exact ⟨by show 2 ≤ sizeLine; decide, [u2, u1], .cons rb (.cons ra .nil), IsTup.new _ _⟩
variable {M R : List Nat} {t : TX}
/-- p[::-1] -/
def oRev2 (t : TX) : TX := fun env Q => t env fun d env1 => ∃ a b, d = .tup [a, b] ∧ a.frz = a ∧ b.frz = b ∧ Q (.tup [b, a]) env1
theorem x_rev2 (h : XX X e M R t) : XX X (.Subscript e (.Slice none none (some (.UnaryOp .USub (.Constant (.int 1) k p1) p2)) p3) pos) M [] (oRev2 t) := ⟨pe_imp (pe_rev2 h.pe) fun σ H Q ⟨S, Qt, eH, s, q, kk⟩ => by
  subst eH
  refine ⟨S, _, rfl, s, q, fun S1 v d Fv ⟨a, b, ed, fa, fb, q1⟩ s1 st1 v1 => ?_⟩
  subst ed
  obtain ⟨l, vs, rfl, h1, h0, h2⟩ := v1.rep.tup_inv s1.zh
  cases h2 with
  | cons ra rs g1 g2 =>
    cases rs with
    | cons rb rn g3 g4 =>
      cases rn
      rename_i y z
      refine ⟨l, _, _, rfl, SqT.of h1, fun p hp => ?_⟩
      have f := Fr.tup (K := X.K) s1 hp (vs := [_, _]) (ds := [b, a]) (.cons (rb.imm fb) (.cons (ra.imm fa) .nil (fun _ z => z) fun _ z => ⟨z, fun y => y⟩) (fun _ z => z) fun _ z => ⟨z, fun y => y⟩)
      exact kk ⟨_, _, S1.env, S1.F⟩ _ _ _ q1 (f.sr s1) (st1.then0 f.stp) ((f.vp (M := []) s1).first st1 |>.mono (fun i hi => by simpa using hi) fun _ z => z)⟩
end
end TT
namespace TT
open PySem PySem.Spec PyProof.Rows L2
variable [Cls]
/-- typed: the dict of a list of pairs -/
def dctO {α : Type} (ps : List (Int × α)) : Option (List (Int × α)) := if (ps.map (·.1)).Nodup then some ps else none
theorem dctO_inv {α : Type} {ps r : List (Int × α)} (h : dctO ps = some r) : (ps.map (·.1)).Nodup ∧ r = ps := by
  unfold dctO at h
  split at h
  · rename_i hc; exact ⟨hc, (Option.some.inj h).symm⟩
  · cases h
end TT
namespace TT
open PySem PySem.Spec PyProof.Rows L2
end TT
namespace TT
open PySem PySem.Spec PyProof.Rows L2
end TT
namespace TT
open PySem PySem.Spec PyProof.Rows L2
theorem Cmp.up {α : Type} [DecidableEq α] {e : α → D} {k l : Nat} (h : Cmp e k) (hk : k ≤ l) : Cmp e l := ⟨h.ok, h.lay, fun a => Nat.le_trans (h.dep a) hk, h.eqv⟩
theorem dgetE {α : Type} {e : α → D} {o : Bool} (m : List (Int × α)) (k : Int) : dget (eK o e m) (.int k) = some ((dGet m k).map e) := by
  unfold eK dget
  show some (lookK _ (Sum.inl k)) = _
  rw [lookK_e (g := Sum.inl) inlI]
end TT
namespace TT
open PySem PySem.Spec PyProof.Rows L2
end TT
namespace TT
open PySem PySem.Spec PyProof.Rows L2
end TT
namespace TT
open PySem PySem.Spec PyProof.Rows L2
variable [Cls]
theorem py_st (x : Str) : (D.str x).py = .str x := by rw [D.py]
theorem eqv_str (a b : Str) : PyData.eqv (.str b) (.str a) = decide (a = b) := by
  rw [Bool.eq_iff_iff, decide_eq_true_eq]
  simp only [PyData.eqv]
  constructor
  · intro h; exact (by simpa using h : b = a).symm
  · intro h; subst h; simp
theorem any_str (a : Str) : ∀ xs : List Str, ((xs.map D.str).any fun z => PyData.eqv z.py (D.str a).py) = true ↔ a ∈ xs
  | [] => by simp
  | b :: r => by rw [List.map_cons, List.any_cons, py_st, py_st, eqv_str, Bool.or_eq_true, decide_eq_true_eq, List.mem_cons, ← any_str a r, py_st]
theorem inS (a : Str) (xs : List Str) {i : Decidable (a ∈ xs)} : D.bl ((xs.map D.str).any fun z => PyData.eqv z.py (D.str a).py) = .bl (@decide (a ∈ xs) i) := by
  refine congrArg D.bl ?_
  rw [Bool.eq_iff_iff, any_str, decide_eq_true_iff]
end TT
namespace TT
open PySem PySem.Spec PyProof.Rows L2
end TT
namespace TT
open PySem PySem.Spec PyProof.Rows L2
end TT
namespace TT
open PySem PySem.Spec PyProof.Rows L2
end TT
namespace TT
open PySem PySem.Spec PyProof.Rows L2
end TT
namespace TT
open PySem PySem.Spec PyProof.Rows L2
end TT
namespace TT
open PySem PySem.Spec PyProof.Rows L2
end TT
namespace TT
open PySem PySem.Spec PyProof.Rows L2
end TT
namespace TT
open PySem PySem.Spec PyProof.Rows L2
end TT
open TT
namespace TT
open PySem PySem.Spec PyProof.Rows L2
end TT
namespace TT
open PySem PySem.Spec PyProof.Rows L2
end TT
open TT PySem PySem.Spec PyProof.Rows L2
namespace TT
end TT
namespace TT
open PySem PySem.Spec PyProof.Rows L2
end TT
namespace TT
open PySem PySem.Spec PyProof.Rows L2
end TT
namespace TT
open PySem PySem.Spec PyProof.Rows L2
end TT
namespace TT
open PySem PySem.Spec PyProof.Rows L2
variable [Cls]
theorem RepL.ins {K : PySem.W.Frag} {Z H : Hp} {v : V} {d : D} (r : Rep K Z H v d nF) : ∀ (n : Nat) {vs : List V} {ds : List D} {F : AS}, RepL K Z H vs ds F → RepL K Z H (vs.take n ++ [v] ++ vs.drop n) (ds.take n ++ [d] ++ ds.drop n) F
  | 0, _, _, _, h => by
    simp only [List.take_zero, List.nil_append, List.drop_zero]
    exact .cons r h (fun _ z => z.elim) fun b z => ⟨z, fun y => y⟩
  | n + 1, _, _, _, .nil => .cons (E := nF) r .nil (fun _ z => z.elim) fun _ z => z.elim
  | n + 1, _, _, _, .cons a b g1 g2 => .cons a (RepL.ins r n b) g1 g2
/-- xs.insert(k, x), plainly -/
def insO {α : Type} (xs : List α) (k : Int) (x : α) : Option (List α) := if xs.length < sizeLine then some (xs.take k.toNat ++ [x] ++ xs.drop k.toNat) else none
end TT
namespace TT
open PySem PySem.Spec PyProof.Rows L2
variable [Cls]
structure Shp {α : Type} (e : α → D) (k : Nat) : Prop where
  ok : ∀ a, (e a).pyok = true
  lay : ∀ a, (e a).py.canLay0 = true
  dep : ∀ a, (e a).py.depth ≤ k
section
variable {α β γ : Type} {e : α → D} {ea : α → D} {eb : β → D} {ec : γ → D} {k l m : Nat}
theorem Shp.of [DecidableEq α] (h : Cmp e k) : Shp e k := ⟨h.ok, h.lay, h.dep⟩
theorem Shp.cmpD (h : Shp e k) (hk : k ≤ 64 := by decide) (a : α) : cmpD (e a) = true := by
  unfold TT.cmpD SeqAt.shaped
  rw [h.ok, h.lay, decide_eq_true (Nat.le_trans (h.dep a) hk)]; rfl
end
end TT
namespace TT
open PySem PySem.Spec PyProof.Rows L2
end TT
namespace TT
open PySem PySem.Spec PyProof.Rows L2
variable [Cls]
def isL (x : Bool ⊕ Int) : Bool := match x with
  | .inl _ => true
  | .inr _ => false
theorem getD_e {α : Type} {e : α → D} (o : Option α) (z : α) : (o.map e).getD (e z) = e (o.getD z) := by cases o <;> rfl
end TT
namespace TT
open PySem PySem.Spec PyProof.Rows L2
end TT
namespace TT
open PySem PySem.Spec PyProof.Rows L2
end TT
namespace TT
open PySem PySem.Spec PyProof.Rows L2
variable [Cls]
section
variable {X : Cx} {k : Nat} {fa : Addr} {fd : FuncData} {par : Str} {sp : TX} {pins : List (Addr × Obj)} {σ : L2.St}
/-- what a turn finds: the keys told so far -/
def KeysT (X : Cx) (S : W) (vs : List Value) (kz : List PyData) : Prop := PySem.W.EachIs (fun v k => ∃ x d F, RelV x v ∧ Rep X.K S.Z S.H x d F ∧ d.pyok = true ∧ d.py = k) vs kz
theorem KeysT.stp {S S' : W} {vs : List Value} {kz : List PyData} (h : KeysT X S vs kz) (st : Stp [] S S') : KeysT X S' vs kz := h.mono fun v k ⟨x, d, F, h1, h2, h3, h4⟩ => ⟨x, d, F, h1, h2.ext st.ext fun a _ ⟨i, hi, _⟩ => (nomatch hi), h3, h4⟩
theorem KeysT.reads {S : W} {s : Shared} (I : L2.Inv X pins σ S.H s) (zh : ZH S.Z S.H) {vs : List Value} {kz : List PyData} (h : KeysT X S vs kz) : PySem.W.EachIs (fun v k => ∃ as, Reads s.heap v k as) vs kz := h.mono fun v k ⟨x, d, F, h1, h2, h3, h4⟩ => by
  have dp := h2.dp zh h3
  rw [h4] at dp
  exact dp.reads I _ _ _ h1
structure Rec (X : Cx) (pins : List (Addr × Obj)) (b : Addr) : Prop where
  ne : b ≠ X.env.locals
  fs : b ∉ X.fs
  old : X.s_0.heap.objs.size ≤ b
  cell : ∀ x c, X.env.cells.lookup x = some c → c ≠ b
  pin : ∀ p ∈ X.pn ++ pins, p.1 ≠ b
theorem Rec.of {H : Hp} {s : Shared} {b : Addr} (I : L2.Inv X pins σ H s) (hb : s.heap.objs.size ≤ b) : Rec X pins b := by
  obtain ⟨_, h1, h2, h3, h4, h5⟩ := I.fpOk (H' := fun _ => none) hb rfl
  refine ⟨h1, h2, Nat.le_trans I.sz hb, h4, h5⟩
end
end TT
namespace TT
open PySem PySem.Spec PyProof.Rows L2
end TT
namespace TT
open PySem PySem.Spec PyProof.Rows L2
end TT
namespace TT
open PySem PySem.Spec PyProof.Rows L2
end TT
namespace TT
open PySem PySem.Spec PyProof.Rows L2
end TT
namespace TT
open PySem PySem.Spec PyProof.Rows L2
end TT
namespace TT
open PySem PySem.Spec PyProof.Rows L2
end TT
namespace PySem
end PySem
namespace TT
open PySem PySem.Spec PyProof.Rows L2
end TT
namespace TT
open PySem PySem.Spec PyProof.Rows L2
end TT
namespace L2
open PySem PySem.Spec PyProof.Rows
end L2
namespace TT
open PySem PySem.Spec PyProof.Rows L2
end TT
namespace TT
open PySem PySem.Spec PyProof.Rows L2
end TT
namespace TT
open PySem PySem.Spec PyProof.Rows L2
end TT
namespace TT
open PySem PySem.Spec PyProof.Rows L2
end TT
namespace TT
open PySem PySem.Spec PyProof.Rows L2
end TT
namespace TT
open PySem PySem.Spec PyProof.Rows L2
/-- a tree that stands frozen -/
structure Dat where
  d : D
  fz : d.frz = d
def eD (x : Dat) : D := x.d
theorem fzD : Fz eD eD := fun x => x.fz
def inD {α : Type} (e : α → D) (h : Fz e e) (x : α) : Dat := ⟨e x, h x⟩
theorem dat_ext {x y : Dat} (h : eD x = eD y) : x = y := by
  cases x; cases y
  have h : _ = _ := h
  simp only [eD] at h
  subst h; rfl
theorem frzL_hd {d : D} {r : List D} (h : frzL (d :: r) = d :: r) : d.frz = d := by rw [frzL] at h; exact (List.cons.inj h).1
theorem frzL_tl {d : D} {r : List D} (h : frzL (d :: r) = d :: r) : frzL r = r := by rw [frzL] at h; exact (List.cons.inj h).2
def datL : (xs : List D) → frzL xs = xs → List Dat
  | [], _ => []
  | x :: r, h => ⟨x, frzL_hd h⟩ :: datL r (frzL_tl h)
theorem datL_map : ∀ (xs : List D) (h : frzL xs = xs), (datL xs h).map eD = xs
  | [], _ => rfl
  | x :: r, h => by rw [datL, List.map_cons, datL_map r]; rfl
theorem tup_frz {xs : List D} (h : (D.tup xs).frz = .tup xs) : frzL xs = xs := by rw [D.frz] at h; exact D.tup.inj h
def asT : Dat → Option (List Dat)
  | ⟨.tup xs, h⟩ => some (datL xs (tup_frz h))
  | _ => none
theorem asT_e {x : Dat} {ys : List Dat} (h : asT x = some ys) : eD x = eT eD ys := by
  obtain ⟨d, hd⟩ := x
  cases d with
  | tup xs =>
    cases h
    show D.tup xs = D.tup (List.map eD (datL xs _))
    rw [datL_map]
  | _ => cases h
def asI : Dat → Option Int
  | ⟨.int i, _⟩ => some i
  | _ => none
theorem asI_e {x : Dat} {i : Int} (h : asI x = some i) : eD x = .int i := by
  obtain ⟨d, hd⟩ := x
  cases d with
  | int j => cases h; rfl
  | _ => cases h
def tyT (x : Dat) : String := (tyD (eD x)).getD ""
def tyA (x : Dat) (c : String) : Option Bool := (tyD (eD x)).bind fun t => kitB t c
theorem tyA_t {x : Dat} {c : String} {b : Bool} (h : tyA x c = some b) : tyD (eD x) = some (tyT x) := by
  unfold tyA at h
  unfold tyT
  cases q : tyD (eD x) with
  | none => rw [q] at h; cases h
  | some t => rfl
theorem tyA_k {x : Dat} {c : String} {b : Bool} (h : tyA x c = some b) : kitB (tyT x) c = some b := by
  unfold tyA at h
  unfold tyT
  cases q : tyD (eD x) with
  | none => rw [q] at h; cases h
  | some t => rw [q] at h; exact h
def lenA (x : Dat) : Option Int := lenD (eD x)
def eqA (a b : Dat) : Bool := PyData.eqv (eD a).py (eD b).py
section
variable [Cls]
variable {X : Cx} {e : Expr} {M R : List Nat} {t : TX}
abbrev oEqT (t : TX) : TX := oEq t
abbrev oEqI (t : TX) : TX := oEq t
theorem x_eqT (h : XX X e M R t) : XX X e M R (oEqT t) := x_eq h
theorem x_eqI (h : XX X e M R t) : XX X e M R (oEqI t) := x_eq h
end
end TT
namespace TT
open PySem PySem.Spec PyProof.Rows L2
variable [Cls]
theorem fm_range {α : Type} : ∀ (l : List α), (List.range l.length).filterMap (fun k => l[k]?) = l
  | [] => rfl
  | a :: r => by
    rw [List.length_cons, List.range_succ_eq_map, List.filterMap_cons]
    show a :: _ = _
    rw [List.filterMap_map]
    congr 1
    exact fm_range r
theorem back_pick {α : Type} (l : List α) : ((List.range l.length).filterMap fun (k : Nat) => l[(((l.length : Int) - 1) + (k : Int) * (-1)).toNat]?) = l.reverse := by
  have h : ∀ k, k ∈ List.range l.length → l[(((l.length : Int) - 1) + (k : Int) * (-1)).toNat]? = l.reverse[k]? := fun k hk => by
    have := List.mem_range.mp hk
    rw [List.getElem?_reverse this]
    congr 1
    omega
  have := fm_range l.reverse
  rw [List.length_reverse] at this
  rw [← this]
  clear this
  have : ∀ (r : List Nat), (∀ k, k ∈ r → k ∈ List.range l.length) → r.filterMap (fun (k : Nat) => l[(((l.length : Int) - 1) + (k : Int) * (-1)).toNat]?) = r.filterMap fun k => l.reverse[k]? := fun r hr => by
    induction r with
    | nil => rfl
    | cons a r ih =>
      rw [List.filterMap_cons, List.filterMap_cons, h a (hr a List.mem_cons_self), ih fun k hk => hr k (List.mem_cons_of_mem _ hk)]
  exact this _ fun k hk => hk
section
variable {prog : Program} {w : World} {A : Around} {E : Value → Shared → Prop} {s : Shared}
theorem sliced_backN {n : Nat} {sl : Addr} {vs : Value} {Q : Int × Int × Nat → Shared → Prop} (hs : s.heap.IsSliceOf sl .none .none vs) (ps : IsPart vs (some (-1))) (h : Q ((n : Int) - 1, -1, n) s) : wpAny (model prog w) A (Builtin.Slice.sliceApplied (.ref sl) (pure ((n : Nat) : Int))) Q E s := by
  obtain ⟨os, hos, hcs, hds⟩ := id hs
  unfold Builtin.Slice.sliceApplied Builtin.Slice.sliceFields
  refine wpAny_bind (wpAny_bind (wpAny_field hos hds (x := .none) rfl (wpAny_bind (wpAny_field hos hds (x := .none) rfl (wpAny_bind (wpAny_field hos hds (x := vs) rfl (wpAny_pure ?_)))))))
  refine wpAny_bind (HT.slicePart_ ps ?_)
  show wpAny _ _ (if ((-1 : Int) == 0) = true then _ else _) _ _ s
  rw [if_neg (by decide)]
  refine wpAny_bind (HT.slicePart_ .none (wpAny_bind (HT.slicePart_ .none (wpAny_bind (wpAny_pure ?_)))))
  have e : Builtin.Slice.slicePlaces ((n : Int) - 1) (-1) (-1) = n := by
    unfold Builtin.Slice.slicePlaces
    rw [if_neg (by decide)]
    by_cases h : n = 0
    · subst h; rfl
    · rw [if_pos (by omega), show (-(-1 : Int)) = 1 from rfl, Int.ediv_one]; omega
  have : wpAny (model prog w) A (pure ((n : Int) - 1, -1, Builtin.Slice.slicePlaces ((n : Int) - 1) (-1) (-1)) : Sem (Int × Int × Nat)) Q E s := wpAny_pure (by rw [e]; exact h)
  exact this
theorem getItem_backN {t sl : Addr} {its : List Value} {vs : Value} {Q : Value → Shared → Prop} (hz : its.length ≤ sizeLine) (ht : IsTup s.heap t its.toArray) (hs : s.heap.IsSliceOf sl .none .none vs) (ps : IsPart vs (some (-1)))
    (h : Q (.ref s.heap.objs.size) { s with heap := s.heap.push { cls := .type "tuple", data := .seq its.reverse.toArray } }) : wpAny (model prog w) A (getItem (.ref t) (.ref sl)) Q E s := by
  obtain ⟨os, hos, hcs, hds⟩ := id hs
  have hTs : s.TypeIs (.ref sl) "slice" := ⟨os, hos, hcs⟩
  unfold getItem
  try with_reducible refine wpAny_holding ?_
  first | refine wpAny_bind (wpAny_pure ?_) | skip
  refine wpAny_bind (wpAny_sequenceKey ht.typeIs (by decide) ?_)
  refine wpAny_bind (wpAny_callSpecial?_slot (name := Str.ofString "__getitem__") ht.typeIs PyProof.Rows.slot_tuple_getitem (wpAny_call_entry PyProof.Rows.slot_tuple_getitem ht.typeIs entry_tuple_getitem ?_ (args_tuple_getitem _ _)))
  show wpAny _ _ (Builtin.Tuple.tupleItemsOf (.ref t) >>= _) _ _ s
  refine wpAny_bind (tupleItemsOf_ ht ?_)
  refine wpAny_bind (wpAny_typeOf hTs ?_)
  rw [if_pos (by decide)]
  refine wpAny_bind (sliced_backN (n := its.toArray.size) hs ps ?_)
  show wpAny _ _ (if ((((its.toArray.size : Nat) : Int) - 1) == 0 && (-1 : Int) == 1 && its.toArray.size == its.toArray.size) = true then _ else _) _ _ s
  rw [if_neg (by rw [show ((-1 : Int) == 1) = false from rfl, Bool.and_false, Bool.false_and]; decide)]
  have e : ((List.range its.toArray.size).filterMap fun (k : Nat) => its.toArray[((((its.toArray.size : Nat) : Int) - 1) + (k : Int) * (-1)).toNat]?).toArray = its.reverse.toArray := by
    congr 1
    have := back_pick its
    simpa using this
  rw [e]
  first
    | exact wpAny_bind (m := Builtin.Tuple.tupleExact _) (wpAny_newObj_type (wpAny_pure ⟨_, rfl, wpAny_pure h⟩) (by show its.reverse.toArray.size ≤ sizeLine; simpa using hz))
    | exact wpAny_bind (m := Builtin.Tuple.tupleExact _) (wpAny_newObj_type (wpAny_bind (wpAny_pure (wpAny_pure ⟨_, rfl, wpAny_pure h⟩))) (by show its.reverse.toArray.size ≤ sizeLine; simpa using hz))
end
section
variable {X : Cx} {e : Expr} {te : TE} {k : Nat} {p1 p2 p3 pos : Pos}
def tRevT (K : PySem.W.Frag) (te : TE) : TE := fun σ H Q => te σ H fun x H1 => ∃ a xs, x = .ref a ∧ SqT K H1 a xs ∧ ∀ p, H1 p = none → Q (.ref p) (upd H1 p (.tup xs.reverse))
theorem pe_revT (he : PE X e te) : PE X (.Subscript e (.Slice none none (some (.UnaryOp .USub (.Constant (.int 1) k p1) p2)) p3) pos) (tRevT X.K te) := by
  refine ⟨fun pins s σ H Q I h => ?_⟩
  refine Subscript_ (thn (he.run pins s σ H _ I h) fun v s1 ⟨x, H1, I1, r1, a, xs, ex, hx, q⟩ => ?_)
  subst ex
  cases r1
  have hst : PO X (some (.UnaryOp .USub (.Constant (.int 1) k p1) p2)) (tPart (tUn (rU fun i => .int (-i)) (tC (.int 1)))) := po_some (pe_un un_neg pe_int)
  refine wpAny_Slice (thn (po_none.run pins s1 σ H1 (fun o H2 => o = none ∧ H2 = H1) I1 ⟨rfl, rfl⟩) fun vl s2 ⟨l, H2, I2, pl, el, e2⟩ => ?_)
  subst el e2
  refine thn (po_none.run pins s2 σ H2 (fun o H3 => o = none ∧ H3 = H2) I2 ⟨rfl, rfl⟩) fun vu s3 ⟨u, H3, I3, pu, eu, e3⟩ => ?_
  subst eu e3
  refine thn (hst.run pins s3 σ H3 (fun o H4 => o = some (-1) ∧ H4 = H3) I3 ⟨1, rfl, -1, rfl, rfl, rfl⟩) fun vs s4 ⟨o, H4, I4, ps, eo, e4⟩ => ?_
  subst eo e4
  cases pl
  cases pu
  have I5 : L2.Inv X pins σ H4 { s4 with heap := s4.heap.push { cls := .type "slice", data := .fields #[.none, .none, vs] } } := I4.kept (t' := s4.toks) fun b ob q => Heap.get?_push_of_some _ q
  obtain ⟨its, r, ht, hz⟩ := I5.tuple hx
  have hlen := r.length
  show wpAny (model X.prog X.w) X.A (subscriptTail e (.Slice none none (some (.UnaryOp .USub (.Constant (.int 1) k p1) p2)) p3) (.ref a) (.ref s4.heap.objs.size)) (EP X pins σ Q) X.xe { s4 with heap := s4.heap.push { cls := .type "slice", data := .fields #[.none, .none, vs] } }
  refine tail_any (ops := [.ref a, .ref s4.heap.objs.size]) ht.typeIs PyProof.Rows.slot_tuple_getitem.lookup ?_ (by with_unfolding_all rfl)
  refine getItem_backN (by omega) ht (Heap.IsSliceOf.new _ .none .none vs) ps ?_
  refine ⟨.ref _, _, I5.laid (t' := s4.toks) (o := .tup xs.reverse) (fun b ob q => Heap.get?_push_of_some _ q) (Nat.le_refl _) ?_, rfl, q _ (I5.hok.fresh (Nat.le_refl _))⟩
  exact ⟨by rw [List.length_reverse]; exact hz, its.reverse, r.reverse, IsTup.new _ _⟩
variable {M R : List Nat} {t : TX}
theorem RepL.reverseN {K : PySem.W.Frag} {Z H : Hp} {vs : List V} {ds : List D} (h : RepL K Z H vs ds nF) : RepL K Z H vs.reverse ds.reverse nF := by
  have app : ∀ {vs ws : List V} {ds es : List D}, RepL K Z H vs ds nF → RepL K Z H ws es nF → RepL K Z H (vs ++ ws) (ds ++ es) nF := fun {vs} => by
    induction vs with
    | nil => intro ws ds es h1 h2; cases h1; exact h2
    | cons v vs ih =>
      intro ws ds es h1 h2
      cases h1 with
      | cons a b g1 g2 => exact .cons (G := nF) (E := nF) (a.mono fun x z => g1 x z) (ih (b.mono fun x z => (g2 x z).1) h2) (fun _ z => z) fun _ z => ⟨z, fun y => y⟩
  induction vs generalizing ds with
  | nil => cases h; exact .nil
  | cons v vs ih =>
    cases h with
    | cons a b g1 g2 =>
      rw [List.reverse_cons, List.reverse_cons]
      exact app (ih (b.mono fun x z => (g2 x z).1)) (.cons (G := nF) (E := nF) (a.mono fun x z => g1 x z) .nil (fun _ z => z) fun _ z => z.elim)
/-- t[::-1] -/
def oRevT (t : TX) : TX := fun env Q => t env fun d env1 => ∃ xs, d = .tup xs ∧ frzL xs = xs ∧ Q (.tup xs.reverse) env1
theorem x_revT (h : XX X e M R t) : XX X (.Subscript e (.Slice none none (some (.UnaryOp .USub (.Constant (.int 1) k p1) p2)) p3) pos) M [] (oRevT t) := ⟨pe_imp (pe_revT h.pe) fun σ H Q ⟨S, Qt, eH, s, q, kk⟩ => by
  subst eH
  refine ⟨S, _, rfl, s, q, fun S1 v d Fv ⟨xs, ed, fx, q1⟩ s1 st1 v1 => ?_⟩
  subst ed
  obtain ⟨l, vs, rfl, h1, h0, h2⟩ := v1.rep.tup_inv s1.zh
  refine ⟨l, _, rfl, SqT.of h1, fun p hp => ?_⟩
  have f := Fr.tup (K := X.K) s1 hp (RepL.reverseN (RepL.imm' (H' := S1.H) (G := nF) h2 fx))
  exact kk ⟨_, _, S1.env, S1.F⟩ _ _ _ q1 (f.sr s1) (st1.then0 f.stp) ((f.vp (M := []) s1).first st1 |>.mono (fun i hi => by simpa using hi) fun _ z => z)⟩
theorem revT_e {α : Type} {e : α → D} (xs : List α) : D.tup (List.map e xs).reverse = eT e xs.reverse := by rw [← List.map_reverse]; rfl
end
end TT
namespace TT
open PySem PySem.Spec PyProof.Rows L2
variable [Cls]
theorem refl_ib_sub : reflectedDiffers (.type "int") (.type "bool") "sub" = pure false := by
  unfold reflectedDiffers
  show (typeLookup (.type "bool") (dunderR "sub") >>= fun rb => typeLookup (.type "int") (dunderR "sub") >>= fun ra => pure (rb.isSome && rb != ra)) = pure false
  rw [typeLookup_type, typeLookup_type, builtinLookup_eq_fast]; kernel_rfl
theorem sub_int_bool' {prog : Program} {w : World} {A : Around} {E : Value → Shared → Prop} {s : Shared} {a : Int} {t : Tok} {b : Bool} {Q : Value → Shared → Prop} (h : Q (.int (a - if b = true then (1 : Int) else 0) s.toks) { s with toks := s.toks + 1 }) : wpAny (model prog w) A (binaryOp .Sub (.int a t) (.bool b)) Q E s :=
  binaryOp_sub_gives (op := .Sub) (T := "int") (U := "bool") (by decide) (typeIs_int s a t) rfl F.fills_int_sub F.fills_bool_sub isSubtype_bool_int refl_ib_sub F.slot_int_sub F.entry_int_sub (F.args_int_sub_2 _ _)
    (AutoIntG7.int___sub___int_bool_0 a t b) trivial h
def numV : V → Option Int
  | .int i => some i
  | .bl b => some (if b then 1 else 0)
  | _ => none
theorem op_subIB {X : Cx} : OpR X (binaryOp .Sub) (fun x y H Q => ∃ i k, x = .int i ∧ numV y = some k ∧ Q (.int (i - k)) H) := by
  intro pins s σ H x y v u Q I rx ry h
  obtain ⟨i, k, rfl, e, q⟩ := h
  obtain ⟨t, rfl⟩ := rx
  cases y with
  | int j =>
    cases e
    obtain ⟨t', rfl⟩ := ry
    exact PyProof.Rows.sub_int ⟨.int _, H, I.tok _, ⟨_, rfl⟩, q⟩
  | bl b =>
    cases e
    cases ry
    exact sub_int_bool' ⟨.int _, H, I.tok _, ⟨_, rfl⟩, q⟩
  | _ => cases e
def rSubA : D → D → (D → Prop) → Prop := fun x y Q => ∃ i k, x = .int i ∧ intD y = some k ∧ Q (.int (i - k))
theorem o_subA {X : Cx} : OpT X (binaryOp .Sub) rSubA := ⟨_, op_subIB, fun σ S x d Fx y e Fy Qd P s rx ry ⟨i, k, e1, e2, q⟩ kk => by
  subst e1
  refine ⟨i, k, rx.int_inv, ?_, kk _ _ _ _ nF q (.imm s (.int _))⟩
  cases e with
  | int j => rw [ry.int_inv]; exact e2
  | bl b => rw [ry.bl_inv]; exact e2
  | _ => cases e2⟩
def numA (x : Dat) : Option Int := intD (eD x)
end TT
namespace TT
open PySem PySem.Spec PyProof.Rows L2
variable [Cls]
theorem anyL {α : Type} {e : α → D} (h : Fz e e) (xs : List α) : eL false e xs = eL false eD (xs.map (inD e h)) := by
  show D.lst false _ = D.lst false _
  rw [List.map_map]; rfl
end TT
namespace TT
open PySem PySem.Spec PyProof.Rows L2
def as3 (x : Dat) : Option (Dat × Dat × Dat) := (asT x).bind fun ys => match ys with
  | [a, b, c] => some (a, b, c)
  | _ => none
variable [Cls]
theorem as3_e {x : Dat} {p : Dat × Dat × Dat} (h : as3 x = some p) : eD x = e3 eD eD eD p := by
  unfold as3 at h
  cases q : asT x with
  | none => rw [q] at h; cases h
  | some ys =>
    rw [q] at h
    match ys, h with
    | [a, b, c], h =>
      have h : some (a, b, c) = some p := h
      cases h
      rw [asT_e q]; rfl
theorem anyO {α : Type} {e : α → D} {o : Bool} (h : Fz e e) (xs : List α) : eL o e xs = D.lst o (List.map eD (List.map (inD e h) xs)) := by
  show D.lst o _ = D.lst o _
  rw [List.map_map]; rfl
section
variable {X : Cx} {e : Expr} {M R : List Nat} {t : TX} {b : List Stmt}
abbrev oEq3 (t : TX) : TX := oEq t
theorem x_eq3 (h : XX X e M R t) : XX X e M R (oEq3 t) := x_eq h
/-- a body that is never reached -/
theorem xss_never : XSs X b [] sNever := ⟨⟨fun pins s σ H D I h => by
  obtain ⟨S, Dt, eH, s1, q, _⟩ := h
  exact q.elim⟩⟩
end
end TT
namespace TT
open PySem L2
theorem k_cs : ¬ (Str.ofString "cells" = Str.ofString "spot") := by decide
theorem k_cl : ¬ (Str.ofString "cells" = Str.ofString "left") := by decide
theorem k_sl : ¬ (Str.ofString "spot" = Str.ofString "left") := by decide
theorem k_ls : ¬ (Str.ofString "left" = Str.ofString "spot") := by decide
def tapeD (o : Bool) (cs : List Int) (s l : Int) : D := .dct o [(.inr "cells", .lst o (cs.map D.int)), (.inr "spot", .int s), (.inr "left", .int l)]
@[simp] theorem tape_cells (o cs s l) : dget (tapeD o cs s l) (.str "cells") = some (some (.lst o (cs.map D.int))) := by
  simp [dget, tapeD, keyD, lookK, k_cs, k_cl, k_sl]
@[simp] theorem tape_spot (o cs s l) : dget (tapeD o cs s l) (.str "spot") = some (some (.int s)) := by
  simp [dget, tapeD, keyD, lookK, k_cs, k_cl, k_sl]
@[simp] theorem tape_left (o cs s l) : dget (tapeD o cs s l) (.str "left") = some (some (.int l)) := by
  simp [dget, tapeD, keyD, lookK, k_cs, k_cl, k_sl]
@[simp] theorem tape_puts (cs s l s') : putX (tapeD true cs s l) (.str "spot") (.int s') = some (tapeD true cs s' l) := by
  simp [putX, tapeD, keyD, putD, sizeLine_eq, k_cs, k_cl, k_sl, k_ls]
@[simp] theorem tape_putl (cs s l l') : putX (tapeD true cs s l) (.str "left") (.int l') = some (tapeD true cs s l') := by
  simp [putX, tapeD, keyD, putD, sizeLine_eq, k_cs, k_cl, k_sl, k_ls]
/-- a tape of which at most b cells are read -/
def TapeOk (b : Int) (d : D) : Prop := ∃ cs s l, d = tapeD true cs s l ∧ cs ≠ [] ∧ cs.length ≤ 63 ∧ 0 ≤ s ∧ s ≤ b ∧ 0 ≤ l
theorem TapeOk.mono {b c : Int} {d : D} (h : TapeOk b d) (hc : b ≤ c) : TapeOk c d := by
  obtain ⟨cs, s, l, h1, h2, h3, h4, h5, h6⟩ := h
  exact ⟨cs, s, l, h1, h2, h3, h4, by omega, h6⟩
@[simp] theorem tape_nf (cs s l) : (tapeD true cs s l).nf = true := by
  unfold tapeD
  rw [D.nf, nfK_all]
  simp [nfL_all]
theorem TapeOk.nf {b : Int} {d : D} (h : TapeOk b d) : d.nf = true := by
  obtain ⟨cs, s, l, rfl, _⟩ := h
  exact tape_nf _ _ _
def sp__law_begun : TX := fun env Q => ∃ ns : List Int, env = [some (.kst (ns.map D.int))] ∧ ∀ t, TapeOk 0 t → ∀ fe, nfE fe = true → Q t fe
def sp__law_draw : TX := fun env Q => ∃ (b : Int) (t : D) (k : Int), env = [some t, some (.int k)] ∧ TapeOk b t ∧ b ≤ 1000000000 ∧ 0 < k ∧ k < 1000000000 ∧ ∀ r t', 0 ≤ r → r < k → TapeOk (b + 1) t' → Q (.int r) [some t', none]
def sp__law_pick : TX := fun env Q => ∃ (b : Int) (t : D) (xs : List D), env = [some t, some (.lst false xs)] ∧ TapeOk b t ∧ b ≤ 1000000000 ∧ 0 < xs.length ∧ xs.length < 100000 ∧ (∀ d ∈ xs, d.frz = d) ∧ ∀ d t', d ∈ xs → TapeOk (b + 1) t' → Q d [some t', none]
/-- signs, as ints -/
def pm (b : Bool) : D := .int (if b = true then 1 else -1)
@[simp] theorem pm_frz (b : Bool) : (pm b).frz = pm b := frz_int _
def rowsI (n m : Nat) (x : Nat → Nat → Bool) : List (List Int) := (List.range n).map fun f => rowI m (x f)
end TT
namespace TT
open PySem L2
def lists (xss : List (List Int)) : List D := xss.map fun xs => D.lst false (xs.map D.int)
@[simp] theorem lists_frz (xss : List (List Int)) : (lists xss).map D.frz = lists xss := by
  unfold lists
  rw [List.map_map]
  exact List.map_congr_left fun f _ => by simp
@[simp] theorem lists_length (xss : List (List Int)) : (lists xss).length = xss.length := by simp [lists]
def bookD (o : Bool) (ca cl : List (List Int)) (un : List Int) : D := .dct o [(.inr "causes", .lst o (lists ca)), (.inr "clashes", .lst o (lists cl)), (.inr "undone", .lst o (un.map D.int))]
theorem k_ac : ¬ (Str.ofString "causes" = Str.ofString "clashes") := by decide
theorem k_au : ¬ (Str.ofString "causes" = Str.ofString "undone") := by decide
theorem k_cu : ¬ (Str.ofString "clashes" = Str.ofString "undone") := by decide
@[simp] theorem book_frz (o ca cl un) : (bookD o ca cl un).frz = bookD false ca cl un := by simp [bookD]
@[simp] theorem book_causes (o ca cl un) : dget (bookD o ca cl un) (.str "causes") = some (some (.lst o (lists ca))) := by simp [dget, bookD, keyD, lookK]
@[simp] theorem book_clashes (o ca cl un) : dget (bookD o ca cl un) (.str "clashes") = some (some (.lst o (lists cl))) := by simp [dget, bookD, keyD, lookK, k_ac]
@[simp] theorem book_undone (o ca cl un) : dget (bookD o ca cl un) (.str "undone") = some (some (.lst o (un.map D.int))) := by simp [dget, bookD, keyD, lookK, k_au, k_cu]
theorem absI_nat (i : Int) : absI i = (i.natAbs : Int) := by
  unfold absI
  split <;> omega
theorem cut_len {α : Type} (xs : List α) (lo hi : Option Int) : (cutL xs lo hi).length ≤ xs.length := by
  unfold cutL
  refine Nat.le_trans (List.length_take_le' _ _) ?_
  simp
end TT
namespace TT
open PySem L2
def topN (ns : List Nat) : Nat := ns.foldl max 0
def farTop (n : Nat) (ring : Bool) (x : Cfg) : Nat := topN ((List.range n).map (farP n ring x))
/-- the beat from which all rest (but what swings) -/
def latest (n m : Nat) (ring : Bool) (x : Nat → Nat → Bool) : Nat := topN (((List.range m).filter fun c => anyHeld n ring (col x c)).map fun c => farTop n ring (col x c))
def swings (n m : Nat) (ring : Bool) (x : Nat → Nat → Bool) : List Nat := (List.range m).filter fun c => !anyHeld n ring (col x c)
def tableD (o : Bool) (n m : Nat) (ring : Bool) (x : Nat → Nat → Bool) : List D := (List.range m).map fun c => farD o n ring (col x c)
@[simp] theorem tableD_length (o n m ring x) : (tableD o n m ring x).length = m := by simp [tableD]
@[simp] theorem tableD_frz (o n m ring x) : (tableD o n m ring x).map D.frz = tableD false n m ring x := by
  unfold tableD
  rw [List.map_map]
  exact List.map_congr_left fun c _ => farD_frz _ _ _ _
@[simp] theorem stD_nf (o n m x) : (D.lst o (stD n m x)).nf = o := by unfold stD; simp
@[simp] theorem stD_all (n m x) : (stD n m x).all D.nf = true := by unfold stD; simp
@[simp] theorem natsD_nf (l : List Nat) : (natsD l).all D.nf = true := by simp [natsD]
def restD (n m : Nat) (ring : Bool) (x : Nat → Nat → Bool) : D := .tup [.int (latest n m ring x : Nat), .lst true (natsD ((swings n m ring x).map (· + 1)))]
def restF (n m : Nat) (ring : Bool) (x : Nat → Nat → Bool) : D := .tup [.int (latest n m ring x : Nat), .lst false (natsD ((swings n m ring x).map (· + 1)))]
@[simp] theorem restD_frz (n m ring x) : (restD n m ring x).frz = restF n m ring x := by simp [restD, restF]
@[simp] theorem restF_frz (n m ring x) : (restF n m ring x).frz = restF n m ring x := by simp [restF]
end TT
namespace TT
open PySem PySem.Spec PyProof.Rows L2
section
variable {α β γ σ ρ : Type}
/-- not by rfl: the kernel would compare two binds by their parts -/
theorem bsome {a : α} {f : α → Option β} : (some a).bind f = f a := of_eq_true (eq_true rfl)
def natI (l : List Nat) : List Int := l.map fun i : Nat => (i : Int)
@[simp] theorem natI_length (l : List Nat) : (natI l).length = l.length := by simp [natI]
theorem rngI0 (n : Nat) : rngI 0 n = natI (List.range n) := List.map_congr_left fun i _ => by omega
theorem rngI1 (n : Nat) : rngI 1 n = natI (List.range' 1 n) := by
  unfold rngI natI
  rw [List.range'_eq_map_range, List.map_map]
  exact List.map_congr_left fun i _ => by simp
theorem rng1_nat {n : Nat} {j : Int} (h : j = n) (hn : n ≤ 1000000000) : rng1 j = some (natI (List.range n)) := by
  subst h
  unfold rng1
  rw [if_pos (by omega), rngI0]
  simp
theorem lrgQ {i j : Int} (h1 : 0 ≤ i) (h2 : i ≤ 100000) (h3 : 0 ≤ j) (h4 : j ≤ 100000) : lrg i j = some (rngI i (j - i).toNat) := by
  unfold lrg
  rw [if_pos]
  exact .of_le (by omega) (by omega) (by omega) (by omega)
theorem at_nat {xs : List α} {j : Nat} {a : α} (h : xs[j]? = some a) : atI xs (j : Nat) = some a := by
  obtain ⟨h1, h2⟩ := List.getElem?_eq_some_iff.mp h
  unfold atI
  rw [ixN_of (by omega) (by omega)]
  simpa using h
theorem at_int {xs : List α} {i : Int} {a : α} (h0 : 0 ≤ i) (h : xs[i.toNat]? = some a) : atI xs i = some a := by
  have := at_nat h
  rwa [Int.toNat_of_nonneg h0] at this
theorem push_ok {xs : List α} {x : α} (h : xs.length < 100000) : pushO xs x = some (xs ++ [x]) := by
  unfold pushO
  rw [if_pos (Nat.lt_of_lt_of_le h (size_le (Nat.le_refl _)))]
theorem cat_ok {xs ys : List α} (h : xs.length + ys.length ≤ 100000) : catO xs ys = some (xs ++ ys) := by
  unfold catO
  rw [if_pos (size_le h)]
theorem wp_at {xs : List α} {i : Int} {f : α → Option β} {K : β → Prop} (h0 : 0 ≤ i) (h1 : i < xs.length) (k : ∀ a, xs[i.toNat]? = some a → Wp (f a) K) : Wp ((atI xs i).bind f) K :=
  have e : xs[i.toNat]? = some (xs[i.toNat]'(by omega)) := List.getElem?_eq_getElem _
  wp_step (at_int h0 e) (k _ e)
theorem wp_push {xs : List α} {x : α} {f : List α → Option β} {K : β → Prop} (h : xs.length < 100000) (k : Wp (f (xs ++ [x])) K) : Wp ((pushO xs x).bind f) K := wp_step (push_ok h) k
theorem wp_cat {xs ys : List α} {f : List α → Option β} {K : β → Prop} (h : xs.length + ys.length ≤ 100000) (k : Wp (f (xs ++ ys)) K) : Wp ((catO xs ys).bind f) K := wp_step (cat_ok h) k
theorem wp_rng1 {n : Nat} {j : Int} {f : List Int → Option β} {K : β → Prop} (h : j = n) (hn : n ≤ 1000000000) (k : Wp (f (natI (List.range n))) K) : Wp ((rng1 j).bind f) K := wp_step (rng1_nat h hn) k
theorem wp_lrg {i j : Int} {f : List Int → Option β} {K : β → Prop} (h1 : 0 ≤ i) (h2 : i ≤ 100000) (h3 : 0 ≤ j) (h4 : j ≤ 100000) (k : Wp (f (rngI i (j - i).toNat)) K) : Wp ((lrg i j).bind f) K := wp_step (lrgQ h1 h2 h3 h4) k
theorem mapP_eq {f : α → Option β} {g : α → β} : ∀ {xs : List α}, (∀ a, a ∈ xs → f a = some (g a)) → mapP f xs = some (xs.map g)
  | [], _ => rfl
  | x :: xs, h => by rw [mapP, h x List.mem_cons_self, Option.bind_some, mapP_eq fun a ha => h a (List.mem_cons_of_mem _ ha)]; rfl
theorem cmapP_eq {f : α → Option β} {g : α → β} {xs : List α} (hn : xs.length ≤ 100000) (h : ∀ a, a ∈ xs → f a = some (g a)) : cmapP f xs = some (xs.map g) := by
  unfold cmapP
  rw [if_pos (size_le hn), mapP_eq h]
theorem wp_cmapP {xs : List α} {g : α → Option γ} {f : List γ → Option β} {K : β → Prop} (g' : α → γ) (hn : xs.length ≤ 100000) (h : ∀ a, a ∈ xs → g a = some (g' a)) (k : Wp (f (xs.map g')) K) : Wp ((cmapP g xs).bind f) K := wp_step (cmapP_eq hn h) k
theorem loopS_I {f : α → σ → Option σ} {K : σ → Prop} (I : List α → σ → Prop) (hs : ∀ a r s, I (a :: r) s → Wp (f a s) (I r)) (hk : ∀ s, I [] s → K s) : ∀ (xs : List α) (s : σ), I xs s → Wp (loopS f xs s) K
  | [], s, h => ⟨s, rfl, hk s h⟩
  | x :: xs, s, h => wp_bind ((hs x xs s h).mono fun s' h' => loopS_I I hs hk xs s' h')
theorem wp_loopS {f : α → σ → Option σ} {xs : List α} {s : σ} {k : σ → Option β} {K : β → Prop} (I : List α → σ → Prop) (h0 : I xs s) (hs : ∀ a r s, I (a :: r) s → Wp (f a s) (I r)) (hk : ∀ s, I [] s → Wp (k s) K) : Wp ((loopS f xs s).bind k) K := wp_bind (loopS_I I hs hk xs s h0)
theorem loopR_I {f : Int → σ → Option σ} {n : Nat} {K : σ → Prop} (I : Nat → σ → Prop) (hs : ∀ j s, j < n → I j s → Wp (f (j : Nat) s) (I (j + 1))) (hk : ∀ s, I n s → K s) {s : σ} (h0 : I 0 s) : Wp (loopS f (natI (List.range n)) s) K := by
  refine loopS_I (fun r s => ∃ j, j ≤ n ∧ r = natI (List.range' j (n - j)) ∧ I j s) (fun a r s => ?_) (fun s => ?_) _ s ⟨0, by omega, by rw [List.range_eq_range']; rfl, h0⟩
  · rintro ⟨j, hj, e, h⟩
    have : j < n := by
      have := congrArg List.length e
      simp at this; omega
    have e2 : List.range' j (n - j) = j :: List.range' (j + 1) (n - (j + 1)) := by
      rw [show n - j = (n - (j + 1)) + 1 by omega, List.range'_succ]
    rw [e2] at e
    obtain ⟨rfl, rfl⟩ := List.cons.inj e
    exact (hs j s this h).mono fun s' h' => ⟨j + 1, this, rfl, h'⟩
  · rintro ⟨j, hj, e, h⟩
    have := congrArg List.length e
    have : j = n := by simp at this; omega
    subst this
    exact hk s h
theorem wp_loopR {f : Int → σ → Option σ} {n : Nat} {s : σ} {k : σ → Option β} {K : β → Prop} (I : Nat → σ → Prop) (h0 : I 0 s) (hs : ∀ j s, j < n → I j s → Wp (f (j : Nat) s) (I (j + 1))) (hk : ∀ s, I n s → Wp (k s) K) : Wp ((loopS f (natI (List.range n)) s).bind k) K := wp_bind (loopR_I I hs hk h0)
/-- a loop whose turns all go on -/
def GoF (I : σ → Prop) : Flow ρ σ → Prop
  | .go s => I s
  | _ => False
theorem loopF_I {f : α → σ → Option (Flow ρ σ)} {K : Flow ρ σ → Prop} (I : σ → Prop) (hs : ∀ a s, I s → Wp (f a s) (GoF I)) (hk : ∀ s, I s → K (.go s)) : ∀ (xs : List α) (s : σ), I s → Wp (loopF f xs s) K
  | [], s, h => ⟨.go s, rfl, hk s h⟩
  | x :: xs, s, h => wp_bind ((hs x s h).mono fun s' h' => by
    cases s' with
    | go s' => exact loopF_I I hs hk xs s' h'
    | brk s' => exact h'.elim
    | ret r => exact h'.elim)
theorem wp_loopF {f : α → σ → Option (Flow ρ σ)} {xs : List α} {s : σ} {k : Flow ρ σ → Option β} {K : β → Prop} (I : σ → Prop) (h0 : I s) (hs : ∀ a s, I s → Wp (f a s) (GoF I)) (hk : ∀ s, I s → Wp (k (.go s)) K) : Wp ((loopF f xs s).bind k) K := wp_bind (loopF_I I hs hk xs s h0)
/-- .. a turn at a time, with the turn's item -/
theorem loopF_J {f : α → σ → Option (Flow ρ σ)} {K : Flow ρ σ → Prop} (I : List α → σ → Prop) (hs : ∀ a r s, I (a :: r) s → Wp (f a s) (GoF (I r))) (hk : ∀ s, I [] s → K (.go s)) : ∀ (xs : List α) (s : σ), I xs s → Wp (loopF f xs s) K
  | [], s, h => ⟨.go s, rfl, hk s h⟩
  | x :: xs, s, h => wp_bind ((hs x xs s h).mono fun s' h' => by
    cases s' with
    | go s' => exact loopF_J I hs hk xs s' h'
    | brk s' => exact h'.elim
    | ret r => exact h'.elim)
theorem wp_loopJ {f : α → σ → Option (Flow ρ σ)} {xs : List α} {s : σ} {k : Flow ρ σ → Option β} {K : β → Prop} (I : List α → σ → Prop) (h0 : I xs s) (hs : ∀ a r s, I (a :: r) s → Wp (f a s) (GoF (I r))) (hk : ∀ s, I [] s → Wp (k (.go s)) K) : Wp ((loopF f xs s).bind k) K := wp_bind (loopF_J I hs hk xs s h0)
theorem mapS_I {f : α → σ → Option (γ × σ)} {I : List α → List γ → σ → Prop} (hs : ∀ a r acc s, I (a :: r) acc s → Wp (f a s) fun q => I r (acc ++ [q.1]) q.2) : ∀ (xs : List α) (acc : List γ) (s : σ), I xs acc s → Wp (mapS f xs s) fun q => I [] (acc ++ q.1) q.2
  | [], acc, s, h => ⟨([], s), rfl, by simpa using h⟩
  | x :: xs, acc, s, h => wp_bind ((hs x xs acc s h).mono fun q hq => wp_bind ((mapS_I hs xs _ _ hq).mono fun z hz => wp_some (by simpa using hz)))
theorem wp_cmapS {f : α → σ → Option (γ × σ)} {xs : List α} {s : σ} {k : List γ × σ → Option β} {K : β → Prop} (hn : xs.length ≤ 100000) (I : List α → List γ → σ → Prop) (h0 : I xs [] s) (hs : ∀ a r acc s, I (a :: r) acc s → Wp (f a s) fun q => I r (acc ++ [q.1]) q.2) (hk : ∀ ys s, I [] ys s → Wp (k (ys, s)) K) : Wp ((cmapS f xs s).bind k) K := by
  refine wp_bind ?_
  unfold cmapS
  rw [if_pos (size_le hn)]
  exact (mapS_I hs xs [] s h0).mono fun q hq => hk q.1 q.2 hq
end
end TT
namespace TT
open PySem PySem.Spec PyProof.Rows L2
def m_side_behind  (stand : (List (List Int))) (cut : Int) (folk : Int) (beats : Int) (far : (Option (List Int))) : Option (Int) :=
  (optE far (some beats) (fun far1 => (atI far1 folk).bind fun x =>
  some (min beats x))).bind fun t =>
  (atI stand folk).bind fun x1 =>
  (atI x1 (cut - 1)).bind fun x2 =>
  some (if (decide ((Builtin.bitAnd t 1) = 0)) = true then x2 else (-x2))
def m__law_begun  (script : (List Int)) : Option (((List Int) × Int × Int)) :=
  some ((if (!(cutL script none (some 63)).isEmpty) = true then (cutL script none (some 63)) else [0]), 0, 0)
def m__law_draw  (tape : ((List Int) × Int × Int)) (many : Int) : Option (Int × ((List Int) × Int × Int)) :=
  (if (decide (tape.2.2 < many)) = true then
  (guardO (0 < (tape.1.length : Int))).bind fun _ =>
  (atI tape.1 (tape.2.1 % (tape.1.length : Int))).bind fun x =>
  (guardO (CPowW (((x % 2147483647) + (69621 * tape.2.1)) + 48271) 17)).bind fun _ =>
  (guardO (0 < (100000000000000000000000000000000000000000000000000 + 151))).bind fun _ =>
  if ((decide (1000000000000000000 ≤ x)) && (decide (tape.2.1 < (tape.1.length : Int)))) = true then
  some (tape.1, (tape.2.1 + 1), (x - 1000000000000000000))
  else
  some (tape.1, (tape.2.1 + 1), (((((x % 2147483647) + (69621 * tape.2.1)) + 48271) ^ (17 : Int).toNat) % (100000000000000000000000000000000000000000000000000 + 151)))
  else
  some tape).bind fun tape1 =>
  (guardO (0 < many)).bind fun _ =>
  (guardO (CDivW tape1.2.2 many)).bind fun _ =>
  some ((tape1.2.2 % many), (tape1.1, tape1.2.1, (tape1.2.2 / many)))
def m__law_pick {α : Type} (tape : ((List Int) × Int × Int)) (some_ : (List α)) : Option (α × ((List Int) × Int × Int)) :=
  (m__law_draw tape (some_.length : Int)).bind fun (r, tape1) =>
  (atI some_ r).bind fun x =>
  some (x, tape1)
end TT
namespace TT
open PySem PySem.Spec PyProof.Rows L2
abbrev Tp := List Int × Int × Int
structure TpOk (b : Int) (t : Tp) : Prop where
  ne : t.1 ≠ []
  len : t.1.length ≤ 63
  s0 : 0 ≤ t.2.1
  s1 : t.2.1 ≤ b
  l0 : 0 ≤ t.2.2
theorem TpOk.mono {b c : Int} {t : Tp} (h : TpOk b t) (hc : b ≤ c) : TpOk c t := ⟨h.ne, h.len, h.s0, Int.le_trans h.s1 hc, h.l0⟩
section
variable {β : Type} {K : β → Prop} {b : Int} {t : Tp}
theorem begun_wp {ns : List Int} {f : Tp → Option β} (q : ∀ t, TpOk 0 t → Wp (f t) K) : Wp ((m__law_begun ns).bind f) K := by
  refine wp_step (a := (if (!(cutL ns none (some 63)).isEmpty) = true then cutL ns none (some 63) else [0], 0, 0)) rfl (q _ ?_)
  have e : cutL ns none (some 63) = ns.take 63 := cut_to ns 63
  rw [e]
  by_cases h : ns.take 63 = []
  · rw [h]
    exact ⟨by simp, by simp, Int.le_refl _, Int.le_refl _, Int.le_refl _⟩
  · have h2 : (ns.take 63).isEmpty = false := by simpa using h
    rw [h2]
    refine ⟨h, ?_, Int.le_refl _, Int.le_refl _, Int.le_refl _⟩
    show (ns.take 63).length ≤ 63
    rw [List.length_take]; omega
theorem draw_wp {k : Int} {f : Int × Tp → Option β} (ht : TpOk b t) (hb : b ≤ 1000000000) (h0 : 0 < k) (h1 : k ≤ 1000000000000000000000000000000000000000000000000000000000000) (q : ∀ r t', 0 ≤ r → r < k → TpOk (b + 1) t' → Wp (f (r, t')) K) : Wp ((m__law_draw t k).bind f) K := by
  obtain ⟨cs, s, l⟩ := t
  obtain ⟨hc0, hc, hs0, hs, hl0⟩ := ht
  simp only at hc0 hc hs0 hs hl0
  have hlen : 0 < cs.length := List.length_pos_iff.mpr hc0
  have fin : ∀ (s' l' : Int), 0 ≤ s' → s' ≤ b + 1 → 0 ≤ l' → Wp (((guardO (0 < k)).bind fun _ => (guardO (CDivW l' k)).bind fun _ => some (l' % k, (cs, s', l' / k))).bind f) K := fun s' l' h1' h2 h3 => by
    rw [guard_pos h0, guard_pos (show CDivW l' k from cdivG h0 h1)]
    exact q _ _ (Int.emod_nonneg _ (by omega)) (Int.emod_lt_of_pos _ h0) ⟨hc0, hc, h1', h2, Int.ediv_nonneg h3 (by omega)⟩
  unfold m__law_draw
  simp only
  by_cases hl : l < k
  · rw [if_pos (by simpa using hl)]
    have hm0 : 0 ≤ s % (cs.length : Int) := Int.emod_nonneg _ (by omega)
    have hm1 : s % (cs.length : Int) < cs.length := Int.emod_lt_of_pos _ (by omega)
    obtain ⟨v, hv⟩ : ∃ v, cs[(s % (cs.length : Int)).toNat]? = some v := ⟨_, List.getElem?_eq_getElem (by omega)⟩
    have m0 : 0 ≤ v % 2147483647 := Int.emod_nonneg _ (by decide)
    have m1 : v % 2147483647 < 2147483647 := Int.emod_lt_of_pos _ (by decide)
    have p3 : CPowW (v % 2147483647 + 69621 * s + 48271) 17 := powW_of (k := 48) (by decide) (by omega) (by decide) (by decide)
    rw [guard_pos (show 0 < (cs.length : Int) by omega), at_int hm0 hv]
    simp only [Option.bind_some]
    rw [guard_pos p3, guard_pos (show 0 < 100000000000000000000000000000000000000000000000000 + 151 by decide)]
    simp only [Option.bind_some]
    split
    · rename_i h
      have h : 1000000000000000000 ≤ v ∧ s < (cs.length : Int) := by simpa using h
      exact fin (s + 1) (v - 1000000000000000000) (by omega) (by omega) (by omega)
    · exact fin (s + 1) _ (by omega) (by omega) (Int.emod_nonneg _ (by decide))
  · rw [if_neg (by simpa using hl)]
    exact fin s l hs0 (by omega) hl0
theorem pick_wp {α : Type} {xs : List α} {f : α × Tp → Option β} (ht : TpOk b t) (hb : b ≤ 1000000000) (h0 : 0 < xs.length) (h1 : xs.length < 100000) (q : ∀ a t', a ∈ xs → TpOk (b + 1) t' → Wp (f (a, t')) K) : Wp ((m__law_pick t xs).bind f) K := by
  unfold m__law_pick
  refine wp_bind (draw_wp ht hb (by omega) (by omega) fun r t' r0 r1 ht' => ?_)
  refine wp_at r0 r1 fun a ha => wp_some (q a t' (List.mem_of_getElem? ha) ht')
end
end TT
namespace TT
open PySem PySem.Spec PyProof.Rows L2
theorem rowsI_at {n m f : Nat} {x : Nat → Nat → Bool} (hf : f < n) : atI (rowsI n m x) (f : Nat) = some (rowI m (x f)) := at_nat (by unfold rowsI; simp [hf])
theorem rowI_at {m c : Nat} {y : Nat → Bool} (hc : c < m) : atI (rowI m y) (c : Nat) = some (sg c (y c)) := at_nat (by unfold rowI; simp [hc])
theorem rowI_at1 {m c : Nat} {y : Nat → Bool} (hc : c < m) : atI (rowI m y) ((c : Int) + 1 - 1) = some (sg c (y c)) := by rw [Int.add_sub_cancel]; exact rowI_at hc
@[simp] theorem rowsI_length (n m : Nat) (x : Nat → Nat → Bool) : (rowsI n m x).length = n := by simp [rowsI]
section
variable {n m c f k : Nat} {x : Nat → Nat → Bool} {ring : Bool}
def farI (n : Nat) (a : Nat → Nat) : List Int := (List.range n).map fun f => (a f : Int)
def farO (n : Nat) (ring : Bool) (x : Cfg) : Option (List Int) := if anyHeld n ring x = true then some (farI n (farP n ring x)) else none
@[simp] theorem farI_length (n : Nat) (a : Nat → Nat) : (farI n a).length = n := by simp [farI]
theorem farI_at {a : Nat → Nat} (hf : f < n) : atI (farI n a) (f : Nat) = some (a f : Int) := at_nat (by unfold farI; simp [hf])
theorem side_eq (hc : c < m) (hf : f < n) : m_side_behind (rowsI n m x) ((c : Int) + 1) (f : Nat) (k : Nat) (farO n ring (col x c)) = some (sg c (itB n ring k (col x c) f)) := by
  unfold m_side_behind
  have hq : ∀ t : Nat, itB n ring k (col x c) f = (x f c != odd t) → (if decide (Builtin.bitAnd (t : Int) 1 = 0) = true then sg c (x f c) else -sg c (x f c)) = sg c (itB n ring k (col x c) f) := fun t h => by
    rw [h, bitAnd_m1]
    by_cases ht : (t : Int) % 2 = 0
    · rw [if_pos (decide_eq_true ht), (odd_int t).mp ht, Bool.bne_false]
    · rw [if_neg (by simpa using ht), sg_neg]
      have : odd t = true := by
        cases e : odd t with
        | true => rfl
        | false => exact absurd ((odd_int t).mpr e) ht
      rw [this, Bool.bne_true]
  rw [rowsI_at hf]
  simp only [bsome]
  rw [rowI_at1 hc]
  simp only [bsome]
  unfold farO
  by_cases ha : anyHeld n ring (col x c) = true
  · have hF : Far n ring (col x c) (farP n ring (col x c)) := farP_far (by omega) (by simpa [anyHeld] using ha)
    rw [if_pos ha]
    simp only [optE_some]
    rw [farI_at hf]
    simp only [bsome]
    rw [show min (k : Int) (farP n ring (col x c) f : Nat) = ((min k (farP n ring (col x c) f) : Nat) : Int) by omega]
    exact congrArg some (hq _ (itB_far hF k f hf))
  · rw [if_neg ha]
    simp only [optE_none, bsome]
    refine congrArg some (hq k (itB_free (fun g hg => ?_) k f hf))
    cases e : heldB n ring (col x c) g with
    | false => rfl
    | true => exact absurd (by unfold anyHeld; rw [List.any_eq_true]; exact ⟨g, by simp [hg], e⟩) ha
end
end TT
namespace TT
open PySem PySem.Spec PyProof.Rows L2
end TT
namespace TT
open PySem PySem.Spec PyProof.Rows L2
section
variable {α β γ δ : Type} {e : α → D} {P : α → Prop} {k : Nat} {o : Bool}
/-- such data can be shown, in at most k signs -/
def SB (e : α → D) (P : α → Prop) (k : Nat) : Prop := ∀ a, P a → (e a).py.showable = true ∧ (e a).py.shown.length ≤ k
theorem SB.shown (h : SB e P k) {a : α} (ha : P a) (hk : k ≤ 100000 := by decide) : shownO (e a) = some (e a).py.shown := by
  unfold shownO
  rw [if_pos ⟨(h a ha).1, size_le (Nat.le_trans (h a ha).2 hk)⟩]
theorem SB.mono {j : Nat} {R : α → Prop} (h : SB e P k) (hk : k ≤ j) (hr : ∀ a, R a → P a) : SB e R j := fun a ha => ⟨(h a (hr a ha)).1, Nat.le_trans (h a (hr a ha)).2 hk⟩
theorem sbI (k : Nat) (h0 : 0 < k := by decide) (h1 : k ≤ 500 := by decide) : SB D.int (fun i => i.natAbs < 10 ^ k) (k + 1) := fun i hi => by
  rw [py_int]
  refine ⟨?_, ?_⟩
  · simp only [PyData.showable, decide_eq_true_eq]
    by_cases h : i.natAbs = 0
    · rw [h]; decide
    · refine (Nat.log2_lt h).mpr (Nat.lt_of_lt_of_le hi (Nat.le_trans (Nat.pow_le_pow_right (by decide) h1) ?_))
      have : 10 ^ 500 ≤ 2 ^ 1920 := by decide +kernel
      exact this
  · simp only [PyData.shown]
    rw [PySem.ofString_length]
    exact int_text_length_le10 h0 hi
theorem sbB : SB D.bl (fun _ => True) 5 := fun b _ => by
  rw [py_bl]
  refine ⟨by simp only [PyData.showable], ?_⟩
  simp only [PyData.shown]
  cases b <;> decide
theorem sbN : SB eN (fun _ => True) 4 := fun _ _ => by
  show D.non.py.showable = true ∧ D.non.py.shown.length ≤ 4
  rw [D.py]
  exact ⟨by simp only [PyData.showable], by simp only [PyData.shown]; decide⟩
theorem sb_all (h : SB e P k) : ∀ xs : List α, (∀ x, x ∈ xs → P x) → PyData.showableAll (pyL (xs.map e)) = true ∧ ((PyData.shownAll (pyL (xs.map e))).map (·.length)).sum ≤ k * xs.length ∧ (PyData.shownAll (pyL (xs.map e))).length = xs.length
  | [], _ => by simp [pyL, PyData.showableAll, PyData.shownAll]
  | x :: xs, hp => by
    obtain ⟨h1, h2, h3⟩ := sb_all h xs fun y hy => hp y (List.mem_cons_of_mem _ hy)
    obtain ⟨g1, g2⟩ := h x (hp x List.mem_cons_self)
    simp only [List.map_cons, pyL, PyData.showableAll, PyData.shownAll, List.sum_cons, List.length_cons, h1, g1, Nat.mul_add, h3]
    exact ⟨rfl, by omega, trivial⟩
theorem sbL (n : Nat) (h : SB e P k) : SB (eL o e) (fun xs => xs.length ≤ n ∧ ∀ x, x ∈ xs → P x) ((k + 2) * n + 3) := fun xs hp => by
  obtain ⟨h1, h2, h3⟩ := sb_all h xs hp.2
  unfold eL
  rw [py_lst]
  refine ⟨by simp only [PyData.showable]; exact h1, ?_⟩
  simp only [PyData.shown]
  have := listText_len_le (PyData.shownAll (pyL (xs.map e)))
  rw [h3] at this
  have : k * xs.length ≤ k * n := Nat.mul_le_mul_left k hp.1
  rw [Nat.add_mul]
  have := hp.1
  omega
theorem sbT (n : Nat) (h : SB e P k) : SB (eT e) (fun xs => xs.length ≤ n ∧ ∀ x, x ∈ xs → P x) ((k + 2) * n + 3) := fun xs hp => by
  obtain ⟨h1, h2, h3⟩ := sb_all h xs hp.2
  unfold eT
  rw [py_tup]
  refine ⟨by simp only [PyData.showable]; exact h1, ?_⟩
  simp only [PyData.shown]
  have := tupleText_len_le (PyData.shownAll (pyL (xs.map e)))
  rw [h3] at this
  have : k * xs.length ≤ k * n := Nat.mul_le_mul_left k hp.1
  rw [Nat.add_mul]
  have := hp.1
  omega
variable {ea : α → D} {eb : β → D} {ec : γ → D} {Pa : α → Prop} {Pb : β → Prop} {Pc : γ → Prop} {ka kb kc : Nat}
theorem wp_shown {f : Str → Option β} {K : β → Prop} {a : α} (h : SB e P k) (ha : P a) (hk : k ≤ 100000) (q : Wp (f (e a).py.shown) K) : Wp ((shownO (e a)).bind f) K := wp_step (h.shown ha hk) q
end
/-- what the law must promise, from a promise that holds -/
theorem law_spG [Cls] {sp : TX} (h : ∀ env Q, spLaw env Q → sp env Q) {K : PySem.W.Frag} {H : Hp} {a : Addr} {ns : List Int} (ht : ∀ p, p ∈ Cls.tb → H p.1 = some (.tbl #[]) ∧ Cls.tb.lookup p.1 = some p.2) (hl : ns.length ≤ 63) (hs : SqL K H a (ns.map V.int)) : liftSp K 1 sp [.ref a] H (fun v _ => v = .bl true) (fun _ _ _ => False) := by
  obtain ⟨h1, S, Qt, e, s, q, k⟩ := law_sp (K := K) ht hl hs
  exact ⟨h1, S, Qt, e, s, h _ _ q, k⟩
end TT
namespace TT
open PySem PySem.Spec PyProof.Rows L2
end TT
namespace TT
end TT
namespace TT
open PySem PySem.Spec PyProof.Rows L2
end TT
namespace TT
open PySem PySem.Spec PyProof.Rows L2
end TT
namespace TT
open PySem PySem.Spec PyProof.Rows L2
end TT
namespace TT
open PySem PySem.Spec PyProof.Rows L2
def m_is_whole  (thing : Int) : Option (Bool) :=
  some (true && (!false))
def m_is_side  (many : Int) (thing : Int) : Option (Bool) :=
  (m_is_whole thing).bind fun r =>
  some (r && ((decide (1 ≤ (absI thing))) && (decide ((absI thing) ≤ many))))
def m__law_bans  (tape : ((List Int) × Int × Int)) (book : ((List (List Int)) × (List (List Int)) × (List Int))) : Option ((List (Int × Int)) × ((List Int) × Int × Int)) :=
  (rng1 (book.2.2.length : Int)).bind fun r =>
  (loopS (fun (deed : Int) (found : (List (Int × Int))) => (atI book.1 deed).bind fun x =>
  (cmapP (fun (one : Int) => (atI book.2.2 one).bind fun x1 =>
  (atI book.2.2 deed).bind fun x2 =>
  some (x1, (0 - x2))) x).bind fun ys =>
  (catO found ys).bind fun found1 =>
  (atI book.2.1 deed).bind fun x3 =>
  (cmapP (fun (one1 : Int) => (atI book.2.2 one1).bind fun x4 =>
  (atI book.2.2 deed).bind fun x5 =>
  some ((0 - x4), (0 - x5))) x3).bind fun ys1 =>
  (catO found1 ys1).bind fun found2 =>
  some found2) r []).bind fun found =>
  (rng1 (found.length : Int)).bind fun r1 =>
  (loopS (fun (k : Int) ((tape1, found3, some_) : ((List Int) × Int × Int) × (List (Int × Int)) × (List (Int × Int))) => (m__law_draw tape1 (found3.length : Int)).bind fun (r2, tape2) =>
  (popO found3 r2).bind fun (y, xs) =>
  (m__law_pick tape2 [y, (y.2, y.1)]).bind fun (r3, tape3) =>
  (pushO some_ r3).bind fun some_1 =>
  some (tape3, xs, some_1)) r1 (tape, found, [])).bind fun (tape1, found3, some_) =>
  some (some_, tape1)
end TT
namespace TT
open PySem PySem.Spec PyProof.Rows L2
section
variable {α β σ ρ : Type}
theorem dGet_nil (k : Int) : dGet ([] : List (Int × α)) k = none := rfl
theorem dGet_cons (p : Int × α) (r : List (Int × α)) (k : Int) : dGet (p :: r) k = if p.1 = k then some p.2 else dGet r k := by
  unfold dGet
  rw [List.find?_cons]
  by_cases h : p.1 = k
  · rw [decide_eq_true h, if_pos h]; rfl
  · rw [decide_eq_false h, if_neg h]
theorem dHas_iff {m : List (Int × α)} {k : Int} : dHas m k = true ↔ k ∈ dkeys m := by
  unfold dHas dkeys
  induction m with
  | nil => simp [dGet_nil]
  | cons p r ih =>
    rw [dGet_cons]
    by_cases h : p.1 = k
    · rw [if_pos h]; simp [h]
    · rw [if_neg h, ih]; simp [Ne.symm h]
theorem dHas_false {m : List (Int × α)} {k : Int} : dHas m k = false ↔ k ∉ dkeys m := by
  rw [← dHas_iff]; simp
theorem dGet_put (m : List (Int × α)) (k : Int) (d : α) (j : Int) : dGet (dPut m k d) j = if k = j then some d else dGet m j := by
  unfold dPut
  by_cases h : (m.any fun kv => decide (kv.1 = k)) = true
  · rw [if_pos h]
    induction m with
    | nil => simp at h
    | cons p r ih =>
      rw [List.map_cons, dGet_cons, dGet_cons]
      by_cases hp : p.1 = k
      · rw [if_pos hp]
        by_cases hj : k = j
        · simp [hp, hj]
        · have : ¬ p.1 = j := by omega
          simp only [this, if_false, hj]
          have e : ∀ r : List (Int × α), dGet (r.map fun kv => if kv.1 = k then (kv.1, d) else kv) j = dGet r j := by
            intro r
            induction r with
            | nil => rfl
            | cons q s ihs =>
              rw [List.map_cons, dGet_cons, dGet_cons, ihs]
              by_cases hq : q.1 = k
              · simp [hq, hj]
              · simp [hq]
          exact e r
      · rw [if_neg hp]
        have h' : (r.any fun kv => decide (kv.1 = k)) = true := by simpa [hp] using h
        rw [ih h']
        by_cases hj : k = j
        · have : ¬ p.1 = j := by omega
          simp [this, hj]
        · simp [hj]
  · rw [if_neg h]
    have nk : dGet m k = none := by
      cases q : dGet m k with
      | none => rfl
      | some v =>
        have : dHas m k = true := by unfold dHas; rw [q]; rfl
        rw [dHas_iff] at this
        unfold dkeys at this
        obtain ⟨p, hp, rfl⟩ := List.mem_map.mp this
        exact absurd (List.any_eq_true.mpr ⟨p, hp, by simp⟩) h
    have e : ∀ m : List (Int × α), dGet (m ++ [(k, d)]) j = (dGet m j).or (if k = j then some d else none) := by
      intro m
      induction m with
      | nil => rw [List.nil_append, dGet_cons, dGet_nil]; simp
      | cons p r ih =>
        rw [List.cons_append, dGet_cons, dGet_cons, ih]
        by_cases hp : p.1 = j <;> simp [hp]
    rw [e]
    by_cases hj : k = j
    · subst hj; rw [nk]; simp
    · simp [hj]
theorem keys_put {m : List (Int × α)} {k : Int} (d : α) (h : k ∈ dkeys m) : dkeys (dPut m k d) = dkeys m := by
  have : (m.any fun kv => decide (kv.1 = k)) = true := by
    unfold dkeys at h
    obtain ⟨p, hp, rfl⟩ := List.mem_map.mp h
    exact List.any_eq_true.mpr ⟨p, hp, by simp⟩
  unfold dPut dkeys
  rw [if_pos this, List.map_map]
  refine List.map_congr_left fun p _ => ?_
  show (if p.1 = k then (p.1, d) else p).1 = p.1
  split <;> rfl
theorem keys_put_new {m : List (Int × α)} {k : Int} (d : α) (h : k ∉ dkeys m) : dPut m k d = m ++ [(k, d)] := by
  unfold dPut
  rw [if_neg]
  intro z
  obtain ⟨p, hp, e⟩ := List.any_eq_true.mp z
  exact h (List.mem_map.mpr ⟨p, hp, by simpa using e⟩)
theorem dGet_ex {m : List (Int × α)} {k : Int} (h : k ∈ dkeys m) : ∃ v, dGet m k = some v := by
  rw [← dHas_iff] at h
  unfold dHas at h
  exact Option.isSome_iff_exists.mp h
theorem wp_dPutO {m : List (Int × α)} {k : Int} {d : α} {f : List (Int × α) → Option β} {K : β → Prop} (nd : (dkeys m).Nodup) (hl : m.length < 100000) (h : Wp (f (dPut m k d)) K) : Wp ((dPutO m k d).bind f) K := by
  refine wp_step (a := dPut m k d) ?_ h
  unfold dPutO
  rw [if_pos ⟨nd, Nat.lt_of_lt_of_le hl (size_le (Nat.le_refl _))⟩]
theorem while_wp {f : σ → Option (Flow ρ σ)} {I Z : σ → Prop} (μ : σ → Nat) (h : ∀ s, I s → Wp (f s) fun fl => match fl with
      | .go s' => I s' ∧ μ s' < μ s
      | .brk s' => Z s'
      | .ret _ => False) : ∀ (n : Nat) (s : σ), μ s ≤ n → I s → Wp (whileO f s) fun fl => ∃ s', fl = .go s' ∧ Z s' := by
  intro n
  induction n with
  | zero =>
    intro s hn hi
    obtain ⟨fl, e, hf⟩ := h s hi
    rw [whileO]
    show Wp ((f s).bind _) _
    rw [e]
    cases fl with
    | go s' => exact absurd hf.2 (by omega)
    | brk s' => exact ⟨_, rfl, s', rfl, hf⟩
    | ret r => exact hf.elim
  | succ n ih =>
    intro s hn hi
    obtain ⟨fl, e, hf⟩ := h s hi
    rw [whileO]
    show Wp ((f s).bind _) _
    rw [e]
    cases fl with
    | go s' => exact ih s' (by have := hf.2; omega) hf.1
    | brk s' => exact ⟨_, rfl, s', rfl, hf⟩
    | ret r => exact hf.elim
end
end TT
namespace TT
open PySem PySem.Spec PyProof.Rows L2
def IsSide (n : Nat) (s : Int) : Prop := 1 ≤ s.natAbs ∧ s.natAbs ≤ n
theorem IsSide.neg {n : Nat} {s : Int} (h : IsSide n s) : IsSide n (-s) := by unfold IsSide at *; omega
def sidesL (n : Nat) : List Int := (natI (List.range' 1 n)).flatMap fun c => [c, -c]
theorem mem_sides {n : Nat} {s : Int} : s ∈ sidesL n ↔ IsSide n s := by
  unfold sidesL natI IsSide
  simp only [List.mem_flatMap, List.mem_map, List.mem_cons, List.not_mem_nil, or_false]
  constructor
  · rintro ⟨c, ⟨i, hi, rfl⟩, h⟩
    have := List.mem_range'_1.mp hi
    omega
  · intro h
    refine ⟨(s.natAbs : Int), ⟨s.natAbs, List.mem_range'_1.mpr (by omega), rfl⟩, by omega⟩
theorem sides_length (n : Nat) : (sidesL n).length = 2 * n := by
  unfold sidesL natI
  rw [List.flatMap_map, List.length_flatMap]
  have key : ∀ l : List Nat, (l.map fun a : Nat => ([(a : Int), -(a : Int)] : List Int).length).sum = 2 * l.length := by
    intro l
    induction l with
    | nil => rfl
    | cons a l ih => rw [List.map_cons, List.sum_cons, ih, List.length_cons]; simp; omega
  exact (key _).trans (by rw [List.length_range'])
theorem len_le_of_sub {α : Type} [DecidableEq α] : ∀ {l l2 : List α}, l.Nodup → (∀ x, x ∈ l → x ∈ l2) → l.length ≤ l2.length
  | [], _, _, _ => Nat.zero_le _
  | x :: xs, l2, nd, h => by
    rw [List.nodup_cons] at nd
    have hx := h x List.mem_cons_self
    have := len_le_of_sub (l := xs) (l2 := l2.erase x) nd.2 fun y hy => (List.mem_erase_of_ne (fun e => nd.1 (by rw [← e]; exact hy))).mpr (h y (List.mem_cons_of_mem _ hy))
    rw [List.length_erase_of_mem hx] at this
    have := List.length_pos_of_mem hx
    rw [List.length_cons]
    omega
structure BansOk (n : Nat) (bans : List (Int × Int)) : Prop where
  len : bans.length ≤ 2000
  l : ∀ b, b ∈ bans → IsSide n b.1
  r : ∀ b, b ∈ bans → IsSide n b.2
  ne : ∀ b, b ∈ bans → b.1.natAbs ≠ b.2.natAbs
def StepB (b : Int × Int) (s t : Int) : Prop := (s = b.1 ∧ t = -b.2) ∨ (s = b.2 ∧ t = -b.1)
def Step (bans : List (Int × Int)) (s t : Int) : Prop := ∃ b, b ∈ bans ∧ StepB b s t
inductive Reach (bans : List (Int × Int)) (s : Int) : Int → Prop
  | refl : Reach bans s s
  | tail {t u : Int} : Reach bans s t → Step bans t u → Reach bans s u
theorem Step.side {n : Nat} {bans : List (Int × Int)} (B : BansOk n bans) {s t : Int} (h : Step bans s t) : IsSide n t := by
  obtain ⟨b, hb, h⟩ := h
  rcases h with ⟨_, rfl⟩ | ⟨_, rfl⟩
  · exact (B.r b hb).neg
  · exact (B.l b hb).neg
theorem Reach.side {n : Nat} {bans : List (Int × Int)} (B : BansOk n bans) {s t : Int} (hs : IsSide n s) (h : Reach bans s t) : IsSide n t := by
  cases h with
  | refl => exact hs
  | tail _ h => exact h.side B
end TT
namespace TT
open PySem PySem.Spec PyProof.Rows L2
/-- what is found from s, what is left to be looked at -/
structure Vis (bans : List (Int × Int)) (s : Int) (found : List (Int × Bool)) (left : List Int) : Prop where
  nd : (dkeys found).Nodup
  re : ∀ t, t ∈ dkeys found → Reach bans s t
  st : s ∈ dkeys found
  sub : ∀ t, t ∈ left → t ∈ dkeys found
  len : left.length ≤ found.length
theorem Vis.few {n : Nat} {bans : List (Int × Int)} (B : BansOk n bans) {s : Int} {found : List (Int × Bool)} {left : List Int} (hs : IsSide n s) (v : Vis bans s found left) : found.length ≤ 2 * n := by
  have := len_le_of_sub v.nd fun t ht => mem_sides.mpr ((v.re t ht).side B hs)
  rw [sides_length] at this
  unfold dkeys at this
  simpa using this
/-- all that s leads to -/
structure LedOk (n : Nat) (bans : List (Int × Int)) (s : Int) (d : List (Int × Bool)) : Prop where
  nd : (dkeys d).Nodup
  few : d.length ≤ 2 * n
  iff : ∀ t, t ∈ dkeys d ↔ Reach bans s t
/-- what each side leads to -/
structure LeadsOk (n : Nat) (bans : List (Int × Int)) (leads : List (Int × List (Int × Bool))) : Prop where
  keys : dkeys leads = sidesL n
  at_ : ∀ s, IsSide n s → ∃ d, dGet leads s = some d ∧ LedOk n bans s d
end TT
namespace TT
open PySem PySem.Spec PyProof.Rows L2
def onS (y : Nat → Bool) (s : Int) : Bool := y (s.natAbs - 1) == decide (0 < s)
theorem onS_neg {y : Nat → Bool} {s : Int} (h : s ≠ 0) : onS y (-s) = !onS y s := by
  unfold onS
  rw [Int.natAbs_neg]
  by_cases hs : 0 < s
  · have : ¬ 0 < -s := by omega
    rw [decide_eq_true hs, decide_eq_false this]; cases y (s.natAbs - 1) <;> rfl
  · have : 0 < -s := by omega
    rw [decide_eq_false hs, decide_eq_true this]; cases y (s.natAbs - 1) <;> rfl
def LetB (bans : List (Int × Int)) (y : Nat → Bool) : Prop := ∀ b, b ∈ bans → ¬ (onS y b.1 = true ∧ onS y b.2 = true)
theorem step_on {n : Nat} {bans : List (Int × Int)} {y : Nat → Bool} (B : BansOk n bans) (L : LetB bans y) {s t : Int} (h : Step bans s t) (hs : onS y s = true) : onS y t = true := by
  obtain ⟨b, hb, h⟩ := h
  have l := L b hb
  have n1 : b.1 ≠ 0 := by have := (B.l b hb).1; omega
  have n2 : b.2 ≠ 0 := by have := (B.r b hb).1; omega
  rcases h with ⟨rfl, rfl⟩ | ⟨rfl, rfl⟩
  · rw [onS_neg n2]
    cases e : onS y b.2 with
    | false => rfl
    | true => exact absurd ⟨hs, e⟩ l
  · rw [onS_neg n1]
    cases e : onS y b.1 with
    | false => rfl
    | true => exact absurd ⟨e, hs⟩ l
theorem reach_on {n : Nat} {bans : List (Int × Int)} {y : Nat → Bool} (B : BansOk n bans) (L : LetB bans y) {s t : Int} (h : Reach bans s t) (hs : onS y s = true) : onS y t = true := by
  induction h with
  | refl => exact hs
  | tail _ h ih => exact step_on B L h ih
theorem Reach.trans {bans : List (Int × Int)} {s t u : Int} (h : Reach bans s t) (h2 : Reach bans t u) : Reach bans s u := by
  induction h2 with
  | refl => exact h
  | tail _ h ih => exact ih.tail h
theorem Step.back {bans : List (Int × Int)} {s t : Int} (h : Step bans s t) : Step bans (-t) (-s) := by
  obtain ⟨b, hb, h⟩ := h
  refine ⟨b, hb, ?_⟩
  rcases h with ⟨rfl, rfl⟩ | ⟨rfl, rfl⟩
  · exact .inr ⟨by omega, rfl⟩
  · exact .inl ⟨by omega, rfl⟩
theorem Reach.back {bans : List (Int × Int)} {s t : Int} (h : Reach bans s t) : Reach bans (-t) (-s) := by
  induction h with
  | refl => exact .refl
  | tail _ h ih => exact (Reach.refl.tail h.back).trans ih
/-- bans in plain form -/
structure PlainB (n : Nat) (bans : List (Int × Int)) : Prop where
  one : ∀ s, IsSide n s → ∃ y, LetB bans y ∧ onS y s = true
  two : ∀ c e, c < n → e < n → c ≠ e → ∃ y y', LetB bans y ∧ LetB bans y' ∧ ((y c ≠ y' c ∧ y e = y' e) ∨ (y c = y' c ∧ y e ≠ y' e))
theorem PlainB.nought {n : Nat} {bans : List (Int × Int)} (B : BansOk n bans) (P : PlainB n bans) {s : Int} (hs : IsSide n s) : ¬ Reach bans s (-s) := fun h => by
  obtain ⟨y, L, o⟩ := P.one s hs
  have := reach_on B L h o
  rw [onS_neg (by have := hs.1; omega), o] at this
  cases this
theorem PlainB.alike {n : Nat} {bans : List (Int × Int)} (B : BansOk n bans) (P : PlainB n bans) {s t : Int} (hs : IsSide n s) (ht : IsSide n t) (ne : s.natAbs ≠ t.natAbs) : ¬ (Reach bans s t ∧ Reach bans t s) := fun ⟨h1, h2⟩ => by
  have key : ∀ y, LetB bans y → onS y s = onS y t := fun y L => by
    cases e : onS y s with
    | true => exact (reach_on B L h1 e).symm
    | false =>
      cases e2 : onS y t with
      | false => rfl
      | true => rw [reach_on B L h2 e2] at e; cases e
  have := hs.1; have := hs.2; have := ht.1; have := ht.2
  obtain ⟨y, y', L, L', h⟩ := P.two (s.natAbs - 1) (t.natAbs - 1) (by omega) (by omega) (by omega)
  have k1 := key y L
  have k2 := key y' L'
  unfold onS at k1 k2
  rcases h with ⟨h, e⟩ | ⟨e, h⟩
  · rw [← e] at k2
    have k3 := k1.trans k2.symm
    revert h k3
    cases y (s.natAbs - 1) <;> cases y' (s.natAbs - 1) <;> cases decide (0 < s) <;> simp
  · rw [← e] at k2
    have k3 := k1.symm.trans k2
    revert h k3
    cases y (t.natAbs - 1) <;> cases y' (t.natAbs - 1) <;> cases decide (0 < t) <;> simp
end TT
namespace TT
open PySem PySem.Spec PyProof.Rows L2
section
variable {n : Nat} {bans : List (Int × Int)} {β : Type}
abbrev Town := List (Int × List (Int × Bool)) × List Int × List (Int × Int)
/-- all pairs told of the closures -/
def closedL (n : Nat) (leads : List (Int × List (Int × Bool))) : List (Int × Int) := (sidesL n).flatMap fun one => (dkeys ((dGet leads one).getD [])).filterMap fun side => if (decide (absI one < absI side) && decide (absI side ≤ (n : Int))) = true then some (one, -side) else none
structure TownOk (n : Nat) (bans : List (Int × Int)) (tw : Town) : Prop where
  ld : LeadsOk n bans tw.1
  nums : tw.2.1 = natI (List.range' 1 n)
  cl : tw.2.2 = risenB (closedL n tw.1)
  few : tw.2.2.length ≤ 40000
  closed : ∀ p, p ∈ tw.2.2 ↔ IsSide n p.1 ∧ IsSide n p.2 ∧ p.1.natAbs < p.2.natAbs ∧ Reach bans p.1 (-p.2)
end
end TT
namespace TT
open PySem PySem.Spec PyProof.Rows L2
section
variable {n : Nat} {bans : List (Int × Int)} {β : Type} {y z : Nat → Bool}
/-- the cut c turned -/
def flipN (y : Nat → Bool) (c : Nat) : Nat → Bool := fun i => if i = c then !y i else y i
end
end TT
namespace TT
open PySem PySem.Spec PyProof.Rows L2
section
variable {n : Nat} {bans : List (Int × Int)} {β : Type} {y z : Nat → Bool}
theorem cut_from {α : Type} (xs : List α) (k : Nat) : cutL xs (some (k : Int)) none = xs.drop k := by
  unfold cutL
  have e2 : HT.sIx xs.length xs.length none = xs.length := rfl
  rw [e2]
  by_cases h : k ≤ xs.length
  · have e1 : HT.sIx xs.length 0 (some (k : Int)) = k := by rw [HT.sIx_nat, Nat.min_eq_left h]
    rw [e1]
    exact List.take_of_length_le (by rw [List.length_drop]; exact Nat.le_refl _)
  · have e1 : HT.sIx xs.length 0 (some (k : Int)) = xs.length := by rw [HT.sIx_nat, Nat.min_eq_right (by omega)]
    rw [e1, List.drop_of_length_le (by omega : xs.length ≤ k)]
    simp
end
end TT
namespace TT
open PySem PySem.Spec PyProof.Rows L2
section
variable {n : Nat} {bans : List (Int × Int)} {β : Type} {y z : Nat → Bool}
/-- settings from y on, each by one cut from the one before -/
structure WayP (n : Nat) (bans : List (Int × Int)) (y : Nat → Bool) (ws : List (Nat → Bool)) (w : Nat → Bool) : Prop where
  hd : ws[0]? = some y
  lt : ws[ws.length - 1]? = some w
  all : ∀ v, v ∈ ws → LetB bans v
  ch : ∀ i v v', ws[i]? = some v → ws[i + 1]? = some v' → ∃ c, c < n ∧ v' = flipN v c
theorem WayP.pos {ws : List (Nat → Bool)} {w : Nat → Bool} (h : WayP n bans y ws w) : 0 < ws.length := (List.getElem?_eq_some_iff.mp h.hd).1
theorem WayP.more {ws : List (Nat → Bool)} {w : Nat → Bool} (h : WayP n bans y ws w) {c : Nat} (hc : c < n) (L : LetB bans (flipN w c)) : WayP n bans y (ws ++ [flipN w c]) (flipN w c) := by
  have hp := h.pos
  refine ⟨by rw [List.getElem?_append_left hp]; exact h.hd, by simp, fun v hv => ?_, fun i v v' h1 h2 => ?_⟩
  · rcases List.mem_append.mp hv with hv | hv
    · exact h.all v hv
    · rw [List.mem_singleton.mp hv]; exact L
  · have hi : i + 1 < ws.length + 1 := by
      have := (List.getElem?_eq_some_iff.mp h2).1
      simpa using this
    rw [List.getElem?_append_left (by omega)] at h1
    by_cases e : i + 1 < ws.length
    · rw [List.getElem?_append_left e] at h2
      exact h.ch i v v' h1 h2
    · have ei : i = ws.length - 1 := by omega
      rw [ei, h.lt] at h1
      cases h1
      have : i + 1 = ws.length := by omega
      rw [this] at h2
      simp at h2
      exact ⟨c, hc, h2.symm⟩
end
end TT
namespace TT
open PySem PySem.Spec PyProof.Rows L2
/-- deeds by numbers: causes below, closed, without clash; clashes below, none a cause -/
structure BookP (k : Nat) (ca cl : Nat → Nat → Prop) (un : Nat → Int) : Prop where
  below : ∀ d x, d < k → ca d x → x < d
  closed : ∀ d x z, d < k → ca d x → ca x z → ca d z
  free : ∀ d x z, d < k → ca d x → ca d z → ¬ cl x z
  cbelow : ∀ d x, d < k → cl d x → x < d
  apart : ∀ d x, d < k → ca d x → ¬ cl d x
  cut : ∀ d, d < k → IsSide k (un d)
  inj : ∀ d e, d < k → e < k → (un d).natAbs = (un e).natAbs → d = e
  sur : ∀ c, c < k → ∃ d, d < k ∧ (un d).natAbs = c + 1
/-- deeds that can have been done -/
structure Conf (k : Nat) (ca cl : Nat → Nat → Prop) (S : Nat → Prop) : Prop where
  cs : ∀ d x, d < k → S d → ca d x → S x
  fr : ∀ d x, d < k → S d → cl d x → ¬ S x
/-- the bans of a book, either way about, in any order -/
structure BansB (k : Nat) (ca cl : Nat → Nat → Prop) (un : Nat → Int) (bans : List (Int × Int)) : Prop where
  len : bans.length ≤ 2000
  of : ∀ b, b ∈ bans → ∃ d x, d < k ∧ ((ca d x ∧ (b = (un x, -un d) ∨ b = (-un d, un x))) ∨ (cl d x ∧ (b = (-un x, -un d) ∨ b = (-un d, -un x))))
  ca : ∀ d x, d < k → ca d x → (un x, -un d) ∈ bans ∨ (-un d, un x) ∈ bans
  cl : ∀ d x, d < k → cl d x → (-un x, -un d) ∈ bans ∨ (-un d, -un x) ∈ bans
section
variable {k : Nat} {ca cl : Nat → Nat → Prop} {un : Nat → Int} {bans : List (Int × Int)}
theorem BansB.ok (P : BookP k ca cl un) (B : BansB k ca cl un bans) : BansOk k bans := by
  have key : ∀ b, b ∈ bans → IsSide k b.1 ∧ IsSide k b.2 ∧ b.1.natAbs ≠ b.2.natAbs := fun b hb => by
    obtain ⟨d, x, hd, h⟩ := B.of b hb
    have hx : x < d := h.elim (fun h => P.below d x hd h.1) fun h => P.cbelow d x hd h.1
    have s1 := P.cut d hd
    have s2 := P.cut x (by omega)
    have ne : (un x).natAbs ≠ (un d).natAbs := fun e => by
      have := P.inj x d (by omega) hd e
      omega
    rcases h with ⟨_, rfl | rfl⟩ | ⟨_, rfl | rfl⟩
    · exact ⟨s2, s1.neg, by rw [Int.natAbs_neg]; exact ne⟩
    · exact ⟨s1.neg, s2, by rw [Int.natAbs_neg]; exact ne.symm⟩
    · exact ⟨s2.neg, s1.neg, by rw [Int.natAbs_neg, Int.natAbs_neg]; exact ne⟩
    · exact ⟨s1.neg, s2.neg, by rw [Int.natAbs_neg, Int.natAbs_neg]; exact ne.symm⟩
  exact ⟨B.len, fun b hb => (key b hb).1, fun b hb => (key b hb).2.1, fun b hb => (key b hb).2.2⟩
/-- what is done at a setting -/
def doneAt (un : Nat → Int) (y : Nat → Bool) (d : Nat) : Prop := onS y (un d) = false
theorem let_conf (P : BookP k ca cl un) (B : BansB k ca cl un bans) {y : Nat → Bool} : LetB bans y ↔ Conf k ca cl (doneAt un y) := by
  have nz : ∀ d, d < k → un d ≠ 0 := fun d hd => by have := (P.cut d hd).1; omega
  constructor
  · intro L
    refine ⟨fun d x hd hs hc => ?_, fun d x hd hs hc => ?_⟩
    · have hx := P.below d x hd hc
      unfold doneAt at hs ⊢
      cases o : onS y (un x) with
      | false => rfl
      | true =>
        have od : onS y (-un d) = true := by rw [onS_neg (nz d hd), hs]; rfl
        rcases B.ca d x hd hc with h | h
        · exact absurd ⟨o, od⟩ (L _ h)
        · exact absurd ⟨od, o⟩ (L _ h)
    · have hx := P.cbelow d x hd hc
      unfold doneAt at hs ⊢
      intro hs2
      have od : onS y (-un d) = true := by rw [onS_neg (nz d hd), hs]; rfl
      have ox : onS y (-un x) = true := by rw [onS_neg (nz x (by omega)), hs2]; rfl
      rcases B.cl d x hd hc with h | h
      · exact L _ h ⟨ox, od⟩
      · exact L _ h ⟨od, ox⟩
  · intro C b hb ⟨o1, o2⟩
    obtain ⟨d, x, hd, h⟩ := B.of b hb
    have hx : x < d := h.elim (fun h => P.below d x hd h.1) fun h => P.cbelow d x hd h.1
    have done : ∀ e, e < k → onS y (-un e) = true → doneAt un y e := fun e he h => by
      rw [onS_neg (nz e he)] at h
      unfold doneAt
      cases q : onS y (un e) with
      | false => rfl
      | true => rw [q] at h; cases h
    rcases h with ⟨hc, rfl | rfl⟩ | ⟨hc, rfl | rfl⟩
    · have := C.cs d x hd (done d hd o2) hc
      unfold doneAt at this
      have o1 : onS y (un x) = true := o1
      rw [this] at o1; cases o1
    · have := C.cs d x hd (done d hd o1) hc
      unfold doneAt at this
      have o2 : onS y (un x) = true := o2
      rw [this] at o2; cases o2
    · exact C.fr d x hd (done d hd o2) hc (done x (by omega) o1)
    · exact C.fr d x hd (done d hd o1) hc (done x (by omega) o2)
/-- the setting of what is done -/
theorem setting_of (P : BookP k ca cl un) (S : Nat → Prop) : ∃ y : Nat → Bool, ∀ d, d < k → (doneAt un y d ↔ S d) := by
  classical
  have ex : ∀ c, c < k → ∃ d, d < k ∧ (un d).natAbs = c + 1 := P.sur
  refine ⟨fun c => if h : c < k then (if S (Classical.choose (ex c h)) then decide (un (Classical.choose (ex c h)) < 0) else decide (0 < un (Classical.choose (ex c h)))) else false, fun d hd => ?_⟩
  have sd := P.cut d hd
  have h1 := sd.1; have h2 := sd.2
  have hc : (un d).natAbs - 1 < k := by omega
  have e : Classical.choose (ex _ hc) = d := by
    obtain ⟨g1, g2⟩ := Classical.choose_spec (ex _ hc)
    exact P.inj _ _ g1 hd (by omega)
  unfold doneAt onS
  simp only
  rw [dif_pos hc, e]
  by_cases hs : S d
  · rw [if_pos hs]
    by_cases q : 0 < un d
    · have : ¬ un d < 0 := by omega
      simp [q, this, hs]
    · have : un d < 0 := by omega
      simp [q, this, hs]
  · rw [if_neg hs]
    simp [hs]
/-- a deed with its causes -/
theorem conf_deed (P : BookP k ca cl un) {d : Nat} (hd : d < k) : Conf k ca cl fun x => x = d ∨ ca d x := by
  refine ⟨fun e x he hs hc => ?_, fun e x he hs hc hx => ?_⟩
  · rcases hs with rfl | hs
    · exact .inr hc
    · exact .inr (P.closed d e x hd hs hc)
  · rcases hs with rfl | hs
    · rcases hx with rfl | hx
      · exact absurd (P.cbelow x x hd hc) (Nat.lt_irrefl _)
      · exact P.apart e x hd hx hc
    · rcases hx with rfl | hx
      · have := P.cbelow e x he hc
        have := P.below x e hd hs
        omega
      · exact P.free d e x hd hs hx hc
/-- the bans of a book are in plain form -/
theorem BookP.plain (P : BookP k ca cl un) (B : BansB k ca cl un bans) : PlainB k bans := by
  obtain ⟨y0, h0⟩ := setting_of P fun _ => False
  have L0 : LetB bans y0 := (let_conf P B).mpr ⟨fun d x hd hs => ((h0 d hd).mp hs).elim, fun d x hd hs => ((h0 d hd).mp hs).elim⟩
  have deed : ∀ d, d < k → ∃ y, LetB bans y ∧ doneAt un y d ∧ ∀ e, e < k → d < e → ¬ doneAt un y e := fun d hd => by
    obtain ⟨y, h⟩ := setting_of P fun x => x = d ∨ ca d x
    have C := conf_deed P hd
    refine ⟨y, (let_conf P B).mpr ⟨fun e x he hs hc => ?_, fun e x he hs hc hx => ?_⟩, (h d hd).mpr (.inl rfl), fun e he hlt hs => ?_⟩
    · have := P.below e x he hc
      exact (h x (by omega)).mpr (C.cs e x he ((h e he).mp hs) hc)
    · have := P.cbelow e x he hc
      exact C.fr e x he ((h e he).mp hs) hc ((h x (by omega)).mp hx)
    · rcases (h e he).mp hs with rfl | hs
      · omega
      · have := P.below d e hd hs; omega
  constructor
  · intro s hs
    have h1 := hs.1; have h2 := hs.2
    obtain ⟨d, hd, e⟩ := P.sur (s.natAbs - 1) (by omega)
    have nz : un d ≠ 0 := by have := (P.cut d hd).1; omega
    by_cases q : s = un d
    · refine ⟨y0, L0, ?_⟩
      have : ¬ doneAt un y0 d := fun z => (h0 d hd).mp z
      unfold doneAt at this
      rw [q]; simpa using this
    · obtain ⟨y, L, hy, _⟩ := deed d hd
      refine ⟨y, L, ?_⟩
      have : s = -un d := by omega
      unfold doneAt at hy
      rw [this, onS_neg nz, hy]; rfl
  · -- of two cuts one can be turned alone
    have main : ∀ d e, d < e → e < k → ∃ y y', LetB bans y ∧ LetB bans y' ∧ y ((un d).natAbs - 1) ≠ y' ((un d).natAbs - 1) ∧ y ((un e).natAbs - 1) = y' ((un e).natAbs - 1) := fun d e hde he => by
      obtain ⟨y, L, hy, hn⟩ := deed d (by omega)
      refine ⟨y0, y, L0, L, ?_, ?_⟩
      · have n0 : ¬ doneAt un y0 d := fun z => (h0 d (by omega)).mp z
        unfold doneAt onS at hy n0
        intro z
        rw [z] at n0
        exact n0 hy
      · have n0 : ¬ doneAt un y0 e := fun z => (h0 e he).mp z
        have n1 := hn e he hde
        unfold doneAt onS at n0 n1
        revert n0 n1
        cases y0 ((un e).natAbs - 1) <;> cases y ((un e).natAbs - 1) <;> cases decide (0 < un e) <;> simp
    intro c e hc he ne
    obtain ⟨d1, hd1, e1⟩ := P.sur c hc
    obtain ⟨d2, hd2, e2⟩ := P.sur e he
    have x1 : (un d1).natAbs - 1 = c := by omega
    have x2 : (un d2).natAbs - 1 = e := by omega
    have nd : d1 ≠ d2 := fun z => ne (by rw [← x1, ← x2, z])
    rcases Nat.lt_or_gt_of_ne nd with h | h
    · obtain ⟨y, y', L, L', g1, g2⟩ := main d1 d2 h hd2
      rw [x1] at g1
      rw [x2] at g2
      exact ⟨y, y', L, L', .inl ⟨g1, g2⟩⟩
    · obtain ⟨y, y', L, L', g1, g2⟩ := main d2 d1 h hd1
      rw [x2] at g1
      rw [x1] at g2
      exact ⟨y, y', L, L', .inr ⟨g2, g1⟩⟩
end
end TT
namespace TT
open PySem PySem.Spec PyProof.Rows L2
/-- a book as lists: of each deed its causes and its clashes -/
structure BookL (ca cl : List (List Int)) : Prop where
  ln : cl.length = ca.length
  rg : ∀ (d : Nat) (l : List Int), ca[d]? = some l → ∀ v : Int, v ∈ l → 0 ≤ v ∧ v < (d : Int)
  cg : ∀ (d : Nat) (l : List Int), cl[d]? = some l → ∀ v : Int, v ∈ l → 0 ≤ v ∧ v < (d : Int)
  closed : ∀ (d : Nat) (l : List Int), ca[d]? = some l → ∀ v : Int, v ∈ l → ∀ m : List Int, ca[v.toNat]? = some m → ∀ w, w ∈ m → w ∈ l
  free : ∀ (d : Nat) (l : List Int), ca[d]? = some l → ∀ v : Int, v ∈ l → ∀ m : List Int, cl[v.toNat]? = some m → ∀ w, w ∈ m → w ∉ l
  apart : ∀ (d : Nat) (l m : List Int), ca[d]? = some l → cl[d]? = some m → ∀ v : Int, v ∈ l → v ∉ m
  sum : ∀ (d : Nat) (l m : List Int), ca[d]? = some l → cl[d]? = some m → l.length + m.length ≤ d
theorem BookL.nil : BookL [] [] := ⟨rfl, fun d l h => by simp at h, fun d l h => by simp at h, fun d l h => by simp at h, fun d l h => by simp at h, fun d l m h => by simp at h, fun d l m h => by simp at h⟩
theorem BookL.more {ca cl : List (List Int)} {l1 l2 : List Int} (B : BookL ca cl) (h1 : ∀ v, v ∈ l1 → 0 ≤ v ∧ v < (ca.length : Int)) (h2 : ∀ v, v ∈ l2 → 0 ≤ v ∧ v < (ca.length : Int)) (h3 : ∀ v, v ∈ l1 → ∀ m : List Int, ca[v.toNat]? = some m → ∀ w, w ∈ m → w ∈ l1)
    (h4 : ∀ v, v ∈ l1 → ∀ m : List Int, cl[v.toNat]? = some m → ∀ w, w ∈ m → w ∉ l1) (h5 : ∀ v, v ∈ l1 → v ∉ l2) (h6 : l1.length + l2.length ≤ ca.length) : BookL (ca ++ [l1]) (cl ++ [l2]) := by
  have ln := B.ln
  have at1 : ∀ (d : Nat) (l : List Int), (ca ++ [l1])[d]? = some l → (d < ca.length ∧ ca[d]? = some l) ∨ (d = ca.length ∧ l = l1) := fun d l h => by
    have hd : d < ca.length + 1 := by
      have := (List.getElem?_eq_some_iff.mp h).1
      simpa using this
    by_cases e : d < ca.length
    · rw [List.getElem?_append_left e] at h; exact .inl ⟨e, h⟩
    · have e2 : d = ca.length := by omega
      subst e2
      simp at h
      exact .inr ⟨rfl, h.symm⟩
  have at2 : ∀ (d : Nat) (l : List Int), (cl ++ [l2])[d]? = some l → (d < ca.length ∧ cl[d]? = some l) ∨ (d = ca.length ∧ l = l2) := fun d l h => by
    have hd : d < cl.length + 1 := by
      have := (List.getElem?_eq_some_iff.mp h).1
      simpa using this
    by_cases e : d < cl.length
    · rw [List.getElem?_append_left e] at h; exact .inl ⟨by omega, h⟩
    · have e2 : d = cl.length := by omega
      subst e2
      simp at h
      exact .inr ⟨ln, h.symm⟩
  refine ⟨by simp [ln], fun d l h v hv => ?_, fun d l h v hv => ?_, fun d l h v hv m hm w hw => ?_, fun d l h v hv m hm w hw => ?_, fun d l m hl hm v hv => ?_, fun d l m hl hm => ?_⟩
  · rcases at1 d l h with ⟨_, h⟩ | ⟨rfl, rfl⟩
    · exact B.rg d l h v hv
    · exact h1 v hv
  · rcases at2 d l h with ⟨_, h⟩ | ⟨rfl, rfl⟩
    · exact B.cg d l h v hv
    · exact h2 v hv
  · rcases at1 d l h with ⟨hd, h⟩ | ⟨rfl, rfl⟩
    · have hr := B.rg d l h v hv
      rcases at1 _ m hm with ⟨_, hm⟩ | ⟨e, _⟩
      · exact B.closed d l h v hv m hm w hw
      · omega
    · have hr := h1 v hv
      rcases at1 _ m hm with ⟨_, hm⟩ | ⟨e, _⟩
      · exact h3 v hv m hm w hw
      · omega
  · rcases at1 d l h with ⟨hd, h⟩ | ⟨rfl, rfl⟩
    · have hr := B.rg d l h v hv
      rcases at2 _ m hm with ⟨_, hm⟩ | ⟨e, _⟩
      · exact B.free d l h v hv m hm w hw
      · omega
    · have hr := h1 v hv
      rcases at2 _ m hm with ⟨_, hm⟩ | ⟨e, _⟩
      · exact h4 v hv m hm w hw
      · omega
  · rcases at1 d l hl with ⟨hd, hl⟩ | ⟨rfl, rfl⟩
    · rcases at2 d m hm with ⟨_, hm⟩ | ⟨e, _⟩
      · exact B.apart d l m hl hm v hv
      · omega
    · rcases at2 _ m hm with ⟨e, _⟩ | ⟨_, rfl⟩
      · omega
      · exact h5 v hv
  · rcases at1 d l hl with ⟨hd, hl⟩ | ⟨rfl, rfl⟩
    · rcases at2 d m hm with ⟨_, hm⟩ | ⟨e, _⟩
      · exact B.sum d l m hl hm
      · omega
    · rcases at2 _ m hm with ⟨e, _⟩ | ⟨_, rfl⟩
      · omega
      · exact h6
end TT
namespace TT
open PySem PySem.Spec PyProof.Rows L2
end TT
namespace TT
open PySem PySem.Spec PyProof.Rows L2
end TT
namespace TT
open PySem PySem.Spec PyProof.Rows L2
end TT
namespace TT
open PySem PySem.Spec PyProof.Rows L2
end TT
namespace TT
open PySem PySem.Spec PyProof.Rows L2
section
variable {n : Nat} {bans : List (Int × Int)} {S : Int → Prop} {s t : Int}
/-- sides that bear one another: closed under what follows, none with its other one -/
structure GoodS (n : Nat) (bans : List (Int × Int)) (S : Int → Prop) : Prop where
  side : ∀ s, S s → IsSide n s
  cl : ∀ s t, S s → Reach bans s t → S t
  con : ∀ s, S s → ¬ S (-s)
theorem Reach.back' (h : Reach bans s (-t)) : Reach bans t (-s) := by
  have := h.back
  rwa [Int.neg_neg] at this
theorem GoodS.none : GoodS n bans fun _ => False := ⟨fun _ h => h.elim, fun _ _ h => h.elim, fun _ h => h.elim⟩
theorem GoodS.add (B : BansOk n bans) (P : PlainB n bans) (G : GoodS n bans S) (hs : IsSide n s) (h2 : ¬ S (-s)) : GoodS n bans fun t => S t ∨ Reach bans s t := by
  refine ⟨fun t h => h.elim (G.side t) fun h => h.side B hs, fun t u h g => h.elim (fun h => .inl (G.cl t u h g)) fun h => .inr (h.trans g), fun t h g => ?_⟩
  rcases h with h | h
  · rcases g with g | g
    · exact G.con t h g
    · exact h2 (G.cl t _ h g.back')
  · rcases g with g | g
    · exact h2 (G.cl _ _ g h.back)
    · exact P.nought B hs (h.trans g.back')
end
end TT
namespace TT
open PySem PySem.Spec PyProof.Rows L2
section
variable {α : Type}
theorem keys_dPut {m : List (Int × α)} {k : Int} {d : α} {j : Int} : j ∈ dkeys (dPut m k d) ↔ j ∈ dkeys m ∨ j = k := by
  by_cases h : k ∈ dkeys m
  · rw [keys_put d h]
    exact ⟨.inl, fun z => z.elim id fun e => e ▸ h⟩
  · rw [keys_put_new d h]
    unfold dkeys
    simp
theorem nd_dPut {m : List (Int × α)} {k : Int} {d : α} (nd : (dkeys m).Nodup) : (dkeys (dPut m k d)).Nodup := by
  by_cases h : k ∈ dkeys m
  · rw [keys_put d h]; exact nd
  · rw [keys_put_new d h]
    have e : dkeys (m ++ [(k, d)]) = dkeys m ++ [k] := by unfold dkeys; simp
    rw [e, List.nodup_append]
    refine ⟨nd, by simp, fun x hx y hy => ?_⟩
    rw [List.mem_singleton.mp hy]
    exact fun z => h (z ▸ hx)
theorem dMerge_keys : ∀ {more m : List (Int × α)} {j : Int}, j ∈ dkeys (dMerge m more) ↔ j ∈ dkeys m ∨ j ∈ dkeys more
  | [], m, j => by unfold dMerge dkeys; simp
  | p :: more, m, j => by
    have ih := dMerge_keys (more := more) (m := dPut m p.1 p.2) (j := j)
    have e : dkeys (p :: more) = p.1 :: dkeys more := rfl
    refine (show j ∈ dkeys (dMerge m (p :: more)) ↔ j ∈ dkeys (dMerge (dPut m p.1 p.2) more) from Iff.rfl).trans (ih.trans ?_)
    rw [keys_dPut, e, List.mem_cons]
    constructor
    · rintro ((h | h) | h)
      · exact .inl h
      · exact .inr (.inl h)
      · exact .inr (.inr h)
    · rintro (h | h | h)
      · exact .inl (.inl h)
      · exact .inl (.inr h)
      · exact .inr h
theorem dMerge_nd : ∀ {more m : List (Int × α)}, (dkeys m).Nodup → (dkeys (dMerge m more)).Nodup
  | [], m, h => h
  | p :: more, m, h => dMerge_nd (more := more) (m := dPut m p.1 p.2) (nd_dPut h)
end
section
variable {n : Nat} {bans : List (Int × Int)} {tw : Town} {y : Nat → Bool}
abbrev SD := List (Int × Bool)
/-- sides of a spot as far as the cuts below c -/
structure PartS (n : Nat) (bans : List (Int × Int)) (c : Nat) (d : SD) : Prop where
  nd : (dkeys d).Nodup
  good : GoodS n bans fun s => s ∈ dkeys d
  dec : ∀ i, i < c → ((i : Int) + 1) ∈ dkeys d ∨ (-((i : Int) + 1)) ∈ dkeys d
theorem PartS.few {c : Nat} {d : SD} (h : PartS n bans c d) : d.length ≤ 2 * n := by
  have := len_le_of_sub h.nd fun t ht => mem_sides.mpr (h.good.side t ht)
  rw [sides_length] at this
  unfold dkeys at this
  simpa using this
def leadD (tw : Town) (s : Int) : SD := (dGet tw.1 s).getD []
theorem lead_ok (T : TownOk n bans tw) {s : Int} (hs : IsSide n s) : dGet tw.1 s = some (leadD tw s) ∧ LedOk n bans s (leadD tw s) := by
  obtain ⟨d, h1, h2⟩ := T.ld.at_ s hs
  unfold leadD
  rw [h1]
  exact ⟨rfl, h2⟩
theorem PartS.more (B : BansOk n bans) (P : PlainB n bans) (T : TownOk n bans tw) {c : Nat} {d : SD} (h : PartS n bans c d) {s : Int} (hs : IsSide n s) (ha : s.natAbs = c + 1) (h2 : -s ∉ dkeys d) : PartS n bans (c + 1) (dMerge d (leadD tw s)) := by
  have L := (lead_ok T hs).2
  have e : ∀ t, t ∈ dkeys (dMerge d (leadD tw s)) ↔ t ∈ dkeys d ∨ Reach bans s t := fun t => by rw [dMerge_keys, L.iff]
  refine ⟨dMerge_nd h.nd, ?_, fun i hi => ?_⟩
  · have := h.good.add B P hs h2
    refine ⟨fun t ht => this.side t ((e t).mp ht), fun t u ht hr => (e u).mpr (this.cl t u ((e t).mp ht) hr), fun t ht hn => this.con t ((e t).mp ht) ((e _).mp hn)⟩
  · rw [e, e]
    by_cases hc : i = c
    · subst hc
      have : s = (i : Int) + 1 ∨ s = -((i : Int) + 1) := by omega
      rcases this with rfl | rfl
      · exact .inl (.inr .refl)
      · exact .inr (.inr .refl)
    · exact (h.dec i (by omega)).imp .inl .inl
end
end TT
namespace TT
open PySem PySem.Spec PyProof.Rows L2
end TT
namespace TT
open PySem PySem.Spec PyProof.Rows L2
def m__law_road_end  (bans : (List (Int × Int))) (side : Int) (numbers : (List Int)) : Option (Int) :=
  (loopF (fun (number : Int) (here : Int) => if ((!true) || (false || (!((decide (0 ≤ number)) && (decide (number < (bans.length : Int))))))) = true then
  some (.ret 0)
  else
  (atI bans number).bind fun x =>
  if (!decide (here ∈ [x.1, x.2])) = true then
  some (.ret 0)
  else
  (atI bans number).bind fun x1 =>
  some (.go (if (decide (here = x1.1)) = true then (0 - x1.2) else (0 - x1.1)))) numbers side).bind fun fl => match fl with
  | .go here => some here
  | .brk _ => none
  | .ret r_ => some r_
def m__law_shuffled {α : Type} [DecidableEq α] (tape : ((List Int) × Int × Int)) (some_ : (List α)) : Option ((List α) × ((List Int) × Int × Int)) :=
  (whileO (ρ := Unit) (fun ((tape1, left, found) : ((List Int) × Int × Int) × (List α) × (List α)) => if (!decide (left = [])) = true then
  (m__law_draw tape1 (left.length : Int)).bind fun (r, tape2) =>
  (popO left r).bind fun (y, xs) =>
  (pushO found y).bind fun found1 =>
  some (.go (tape2, xs, found1))
  else
  some (.brk (tape1, left, found))) (tape, some_, [])).bind fun fl => match fl with
  | .go (tape1, left, found) => some (found, tape1)
  | .brk _ => none
  | .ret r_ => none
def m__law_side  (tape : ((List Int) × Int × Int)) (many : Int) : Option (Int × ((List Int) × Int × Int)) :=
  (m__law_draw tape many).bind fun (r, tape1) =>
  (m__law_pick tape1 [1, (-1)]).bind fun (r2, tape2) =>
  (guardO (CMul (1 + r) r2)).bind fun _ =>
  some (((1 + r) * r2), tape2)
section
variable {b : Int} {t : Tp} {β : Type} {K : β → Prop} {n : Nat}
theorem one_or {f : Int × Tp → Option β} (ht : TpOk b t) (hb : b ≤ 1000000000) (q : ∀ r t', (r = 1 ∨ r = -1) → TpOk (b + 1) t' → Wp (f (r, t')) K) : Wp ((m__law_pick t [1, (-1)]).bind f) K :=
  pick_wp ht hb (by simp) (by simp) fun r t' hr ht' => q r t' (by simpa using hr) ht'
theorem side_wp {f : Int × Tp → Option β} (ht : TpOk b t) (hb : b ≤ 1000000000 - 10) (h0 : 0 < n) (hn : n ≤ 100) (q : ∀ s t', IsSide n s → TpOk (b + 2) t' → Wp (f (s, t')) K) : Wp ((m__law_side t (n : Int)).bind f) K := by
  unfold m__law_side
  refine wp_bind (draw_wp ht (by omega) (by omega) (by omega) fun r t1 r0 r1 ht1 => ?_)
  refine one_or ht1 (by omega) fun e t2 he ht2 => ?_
  refine wp_guard (show CMul (1 + r) e from .inr (by omega)) (wp_some ?_)
  refine q _ t2 ?_ (ht2.mono (by omega))
  unfold IsSide
  rcases he with rfl | rfl <;> omega
theorem perm_erase {α : Type} {l : List α} {i : Nat} {a : α} (h : l[i]? = some a) : l.Perm (a :: l.eraseIdx i) := by
  induction l generalizing i with
  | nil => simp at h
  | cons x l ih =>
    cases i with
    | zero => simp at h; subst h; exact .refl _
    | succ i =>
      simp at h
      rw [List.eraseIdx_cons_succ]
      exact ((ih h).cons x).trans (.swap _ _ _)
theorem shuffled_wp {α : Type} [DecidableEq α] {xs : List α} {f : List α × Tp → Option β} (ht : TpOk b t) (hb : b ≤ 1000000000 - 20000) (hx : xs.length ≤ 10000) (q : ∀ ys t', ys.Perm xs → TpOk (b + 10000) t' → Wp (f (ys, t')) K) : Wp ((m__law_shuffled t xs).bind f) K := by
  unfold m__law_shuffled
  refine wp_bind (wp_bind ?_)
  have H := while_wp (ρ := Unit) (f := fun ((tape1, left, found) : ((List Int) × Int × Int) × (List α) × (List α)) => if (!decide (left = [])) = true then
      (m__law_draw tape1 (left.length : Int)).bind fun (r, tape2) =>
      (popO left r).bind fun (y, xs) =>
      (pushO found y).bind fun found1 =>
      some (.go (tape2, xs, found1))
      else
      some (.brk (tape1, left, found)))
    (I := fun p => (p.2.2 ++ p.2.1).Perm xs ∧ TpOk (b + p.2.2.length) p.1) (Z := fun p => p.2.2.Perm xs ∧ TpOk (b + p.2.2.length) p.1) (fun p => p.2.1.length) ?_ _ (t, xs, []) (Nat.le_refl _) ⟨.refl _, ht.mono (by simp)⟩
  · obtain ⟨fl, e, ⟨t1, left, found⟩, rfl, h1, h2⟩ := H
    refine ⟨_, e, wp_some (q _ _ h1 (h2.mono ?_))⟩
    have := h1.length_eq
    simp only at this ⊢
    omega
  · rintro ⟨t1, left, found⟩ ⟨h1, h2⟩
    simp only at h1 h2
    have hl := h1.length_eq
    rw [List.length_append] at hl
    by_cases e : left = []
    · subst e
      show Wp (if (!decide (([] : List α) = [])) = true then _ else _) _
      rw [if_neg (by simp)]
      exact wp_some ⟨by simpa using h1, h2⟩
    · show Wp (if (!decide (left = [])) = true then _ else _) _
      have pos : 0 < left.length := List.length_pos_iff.mpr e
      rw [if_pos (by simp [e])]
      refine draw_wp h2 (by omega) (by omega) (by omega) fun r t2 r0 r1 ht2 => ?_
      have hr : r.toNat < left.length := by omega
      have hx : left[r.toNat]? = some (left[r.toNat]'hr) := List.getElem?_eq_getElem hr
      generalize left[r.toNat]'hr = y at hx
      refine wp_step (a := (y, left.eraseIdx r.toNat)) (by unfold popO; rw [if_pos (by omega), ixN_of r0 (by omega)]; simp [hx]) ?_
      refine wp_push (by omega) (wp_some ⟨⟨?_, ?_⟩, ?_⟩)
      · show ((found ++ [y]) ++ left.eraseIdx r.toNat).Perm xs
        rw [List.append_assoc]
        exact ((perm_erase hx).symm.append_left found).trans h1
      · refine ht2.mono ?_
        simp only [List.length_append, List.length_cons, List.length_nil]; omega
      · show (left.eraseIdx r.toNat).length < left.length
        rw [List.length_eraseIdx, if_pos hr]; omega
end
end TT
namespace K05
open PySem PySem.Spec PyProof.Rows L2 TT
variable [Cls]
def m_is_whole  (thing : Dat) : Option (Bool) :=
  (tyA thing "int").bind fun b =>
  (if b = true then (tyA thing "bool").bind fun b1 =>
  some (!b1) else some false).bind fun t =>
  some t
def sp_is_whole : TX := fun env_ Q => ∃ (thing : Dat), env_ = [some (eD thing)] ∧ Wp (m_is_whole thing) fun w_ => match w_ with | r_ => Q (D.bl r_) [none]
def sp__law_begun : TX := fun env_ Q => ∃ (script : (List Int)), env_ = [some ((eQ D.int) script)] ∧ Wp (m__law_begun script) fun w_ => match w_ with | r_ => Q ((eR3 true "cells" "spot" "left" (eL true D.int) D.int D.int) r_) [none]
def sp__law_draw : TX := fun env_ Q => ∃ (tape : ((List Int) × Int × Int)) (many : Int), env_ = [some ((eR3 true "cells" "spot" "left" (eL true D.int) D.int D.int) tape), some (D.int many)] ∧ Wp (m__law_draw tape many) fun w_ => match w_ with | (r_, i0_) => Q (D.int r_) [some ((eR3 true "cells" "spot" "left" (eL true D.int) D.int D.int) i0_), none]
def m__law_road_end  (bans : (List (Int × Int))) (side : Int) (numbers : Dat) : Option (Int) :=
  (asT numbers).bind fun x =>
  (loopF (fun (number : Dat) (here : Int) => (tyA number "int").bind fun b =>
  (if (!b) = true then some true else (tyA number "bool").bind fun b1 =>
  (if b1 = true then some true else (asI number).bind fun x1 =>
  some (!((decide (0 ≤ x1)) && (decide (x1 < (bans.length : Int)))))).bind fun t =>
  some t).bind fun t1 =>
  if t1 = true then
  some (.ret 0)
  else
  (asI number).bind fun x2 =>
  (atI bans x2).bind fun x3 =>
  if (!decide (here ∈ [x3.1, x3.2])) = true then
  some (.ret 0)
  else
  (asI number).bind fun x4 =>
  (atI bans x4).bind fun x5 =>
  some (.go (if (decide (here = x5.1)) = true then (0 - x5.2) else (0 - x5.1)))) x side).bind fun fl => match fl with
  | .go here => some here
  | .brk _ => none
  | .ret r_ => some r_
def sp__law_road_end : TX := fun env_ Q => ∃ (bans : (List (Int × Int))) (side : Int) (numbers : Dat), env_ = [some ((eL false (e2 D.int D.int)) bans), some (D.int side), some (eD numbers)] ∧ Wp (m__law_road_end bans side numbers) fun w_ => match w_ with | r_ => Q (D.int r_) [none, none, none]
def m__law_roads  (many : Int) (bans : (List (Int × Int))) (side : Int) : Option ((List (Int × (List Int)))) :=
  (whileO (ρ := Unit) (fun ((found, row, at_) : (List (Int × (List Int))) × (List Int) × Int) => if (decide (at_ < (row.length : Int))) = true then
  (rng1 (bans.length : Int)).bind fun r =>
  (loopS (fun (number : Int) ((found1, row1) : (List (Int × (List Int))) × (List Int)) => (atI bans number).bind fun x =>
  (atI bans number).bind fun x1 =>
  (loopS (fun ((one, other) : (Int × Int)) ((found2, row2) : (List (Int × (List Int))) × (List Int)) => (atI row2 at_).bind fun x2 =>
  if ((decide (one = x2)) && (!dHas found2 (0 - other))) = true then
  (atI row2 at_).bind fun x3 =>
  (dGet found2 x3).bind fun v =>
  (catO v [number]).bind fun zs =>
  (dPutO found2 (0 - other) zs).bind fun found3 =>
  (pushO row2 (0 - other)).bind fun row3 =>
  some (found3, row3)
  else
  some (found2, row2)) [x, (x1.2, x1.1)] (found1, row1)).bind fun (found2, row2) =>
  some (found2, row2)) r (found, row)).bind fun (found1, row1) =>
  some (.go (found1, row1, (at_ + 1)))
  else
  some (.brk (found, row, at_))) ([(side, [])], [side], 0)).bind fun fl => match fl with
  | .go (found, row, at_) => some found
  | .brk _ => none
  | .ret r_ => none
def sp__law_roads : TX := fun env_ Q => ∃ (many : Int) (bans : (List (Int × Int))) (side : Int), env_ = [some (D.int many), some ((eL false (e2 D.int D.int)) bans), some (D.int side)] ∧ Wp (m__law_roads many bans side) fun w_ => match w_ with | r_ => Q ((eK true (eL true D.int)) r_) [none, none, none]
def m__law_other_z  (tape : ((List Int) × Int × Int)) (thing : Dat) (many : Int) (count : Int) : Option (Dat × ((List Int) × Int × Int)) :=
  none
def sp__law_other_z : TX := fun env_ Q => ∃ (tape : ((List Int) × Int × Int)) (thing : Dat) (many : Int) (count : Int), env_ = [some ((eR3 true "cells" "spot" "left" (eL true D.int) D.int D.int) tape), some (eD thing), some (D.int many), some (D.int count)] ∧ Wp (m__law_other_z tape thing many count) fun w_ => match w_ with | (r_, i0_) => Q (eD r_) [some ((eR3 true "cells" "spot" "left" (eL true D.int) D.int D.int) i0_), none, none, none]
def m_is_side  (many : Int) (thing : Dat) : Option (Bool) :=
  (m_is_whole thing).bind fun r =>
  (if r = true then (asI thing).bind fun x =>
  some ((decide (1 ≤ (absI x))) && (decide ((absI x) ≤ many))) else some false).bind fun t =>
  some t
def sp_is_side : TX := fun env_ Q => ∃ (many : Int) (thing : Dat), env_ = [some (D.int many), some (eD thing)] ∧ Wp (m_is_side many thing) fun w_ => match w_ with | r_ => Q (D.bl r_) [none, none]
def m_end_of  (bans : (List (Int × Int))) (side : Int) (thing : Dat) : Option ((Option Int)) :=
  (tyA thing "tuple").bind fun b =>
  if (!b) = true then
  some none
  else
  (asT thing).bind fun x =>
  (loopF (fun (number : Dat) (side1 : Int) => (m_is_whole number).bind fun r =>
  (if (!r) = true then some true else (asI number).bind fun x1 =>
  (if (!((decide (0 ≤ x1)) && (decide (x1 < (bans.length : Int))))) = true then some true else (asI number).bind fun x2 =>
  (atI bans x2).bind fun x3 =>
  some (!decide (side1 ∈ [x3.1, x3.2]))).bind fun t =>
  some t).bind fun t1 =>
  if t1 = true then
  some (.ret none)
  else
  (asI number).bind fun x4 =>
  (atI bans x4).bind fun x5 =>
  some (.go (if (decide (side1 = x5.1)) = true then (-x5.2) else (-x5.1)))) x side).bind fun fl => match fl with
  | .go side1 => some (some side1)
  | .brk _ => none
  | .ret r_ => some r_
def sp_end_of : TX := fun env_ Q => ∃ (bans : (List (Int × Int))) (side : Int) (thing : Dat), env_ = [some ((eL false (e2 D.int D.int)) bans), some (D.int side), some (eD thing)] ∧ Wp (m_end_of bans side thing) fun w_ => match w_ with | r_ => Q ((eO D.int) r_) [none, none, none]
def sp__law_pick : TX := fun env_ Q => ∃ (α : Type) (eα : α → D) (qα : List α → D) (_ : SeqE qα eα) (_ : Fz eα eα) (tape : ((List Int) × Int × Int)) (some_ : (List α)), env_ = [some ((eR3 true "cells" "spot" "left" (eL true D.int) D.int D.int) tape), some (qα some_)] ∧ Wp (m__law_pick tape some_) fun w_ => match w_ with | (r_, i0_) => Q (eα r_) [some ((eR3 true "cells" "spot" "left" (eL true D.int) D.int D.int) i0_), none]
def sp__law_shuffled : TX := fun env_ Q => ∃ (α : Type) (dα : DecidableEq α) (eα : α → D) (_ : Fz eα eα) (_ : Cmp eα 5) (tape : ((List Int) × Int × Int)) (some_ : (List α)), env_ = [some ((eR3 true "cells" "spot" "left" (eL true D.int) D.int D.int) tape), some ((eL false eα) some_)] ∧ Wp (m__law_shuffled tape some_) fun w_ => match w_ with | (r_, i0_) => Q ((eL true eα) r_) [some ((eR3 true "cells" "spot" "left" (eL true D.int) D.int D.int) i0_), none]
def m__law_due  (many : Int) (bans : (List (Int × Int))) (thing : Dat) : Option (Bool) :=
  (tyA thing "tuple").bind fun b =>
  (if (!b) = true then some true else (lenA thing).bind fun n =>
  (if (!decide (n = 3)) = true then some true else (asT thing).bind fun x =>
  (atI x 1).bind fun x1 =>
  (tyA x1 "tuple").bind fun b1 =>
  some (!b1)).bind fun t =>
  some t).bind fun t1 =>
  if t1 = true then
  some false
  else
  (asT thing).bind fun x2 =>
  (atI x2 0).bind fun x3 =>
  (tyA x3 "int").bind fun b2 =>
  (if (!b2) = true then some true else (tyA x3 "bool").bind fun b3 =>
  (if b3 = true then some true else (asI x3).bind fun x4 =>
  some (!((decide (1 ≤ (absI x4))) && (decide ((absI x4) ≤ many))))).bind fun t2 =>
  some t2).bind fun t3 =>
  if t3 = true then
  some false
  else
  (asT thing).bind fun x5 =>
  (atI x5 2).bind fun x6 =>
  (tyA x6 "tuple").bind fun b4 =>
  if (!b4) = true then
  some false
  else
  (asI x3).bind fun x7 =>
  (asT thing).bind fun x8 =>
  (atI x8 1).bind fun x9 =>
  (m__law_road_end bans x7 x9).bind fun r =>
  (numA x3).bind fun i =>
  (if (decide (r = (0 - i))) = true then (numA x3).bind fun i1 =>
  (asT thing).bind fun x10 =>
  (atI x10 2).bind fun x11 =>
  (m__law_road_end bans (0 - i1) x11).bind fun r2 =>
  (guardO (cmpD (eD (inD D.int fzI r2)) = true ∧ cmpD (eD x3) = true)).bind fun _ =>
  some (eqA (inD D.int fzI r2) x3) else some false).bind fun t4 =>
  some t4
def sp__law_due : TX := fun env_ Q => ∃ (many : Int) (bans : (List (Int × Int))) (thing : Dat), env_ = [some (D.int many), some ((eL false (e2 D.int D.int)) bans), some (eD thing)] ∧ Wp (m__law_due many bans thing) fun w_ => match w_ with | r_ => Q (D.bl r_) [none, none, none]
def m_is_nothing  (many : Int) (bans : (List (Int × Int))) (thing : Dat) : Option (Bool) :=
  (tyA thing "tuple").bind fun b =>
  (if (!b) = true then some true else (lenA thing).bind fun n =>
  (if (!decide (n = 3)) = true then some true else (asT thing).bind fun x =>
  (atI x 0).bind fun x1 =>
  (m_is_side many x1).bind fun r =>
  some (!r)).bind fun t =>
  some t).bind fun t1 =>
  if t1 = true then
  some false
  else
  (as3 thing).bind fun x2 =>
  (asI x2.1).bind fun x3 =>
  (m_end_of bans x3 x2.2.1).bind fun r1 =>
  (asI x2.1).bind fun x4 =>
  (if (decide (r1 = (some (-x4)))) = true then (asI x2.1).bind fun x5 =>
  (m_end_of bans (-x5) x2.2.2).bind fun r2 =>
  (guardO (cmpD (eD (inD (eO D.int) (fzO fzI) r2)) = true ∧ cmpD (eD x2.1) = true)).bind fun _ =>
  some (eqA (inD (eO D.int) (fzO fzI) r2) x2.1) else some false).bind fun t2 =>
  some t2
def sp_is_nothing : TX := fun env_ Q => ∃ (many : Int) (bans : (List (Int × Int))) (thing : Dat), env_ = [some (D.int many), some ((eL false (e2 D.int D.int)) bans), some (eD thing)] ∧ Wp (m_is_nothing many bans thing) fun w_ => match w_ with | r_ => Q (D.bl r_) [none, none, none]
def sp__law_side : TX := fun env_ Q => ∃ (tape : ((List Int) × Int × Int)) (many : Int), env_ = [some ((eR3 true "cells" "spot" "left" (eL true D.int) D.int D.int) tape), some (D.int many)] ∧ Wp (m__law_side tape many) fun w_ => match w_ with | (r_, i0_) => Q (D.int r_) [some ((eR3 true "cells" "spot" "left" (eL true D.int) D.int D.int) i0_), none]
def m__law_other_3  (tape : ((List Int) × Int × Int)) (thing : Dat) (many : Int) (count : Int) : Option (Dat × ((List Int) × Int × Int)) :=
  (tyA thing "tuple").bind fun b =>
  (if (!b) = true then some (true, tape) else (guardO (cmpD (eD thing) = true ∧ cmpD (eD (inD (eT eN) (fzT fzN) [])) = true)).bind fun _ =>
  (if (eqA thing (inD (eT eN) (fzT fzN) [])) = true then some (true, tape) else (m__law_draw tape 4).bind fun (r, tape1) =>
  some ((decide (r = 0)), tape1)).bind fun (t, tape2) =>
  some (t, tape2)).bind fun (t1, tape3) =>
  if t1 = true then
  (lrg 0 count).bind fun r2 =>
  (catO [(inD D.int fzI 0), (inD D.int fzI 1), (inD D.int fzI (-1)), (inD D.int fzI count), (inD D.int fzI (count - 1)), (inD D.int fzI (0 - many)), (inD D.bl fzB true), (inD D.bl fzB false), (inD eN fzN ()), (inD D.str fzS ("0" : Str)), (inD (eT eN) (fzT fzN) []), (inD (eL false eN) (fzL fzN) []), (inD (eT D.int) (fzT fzI) [0]), (inD D.int fzI 1000000000000000000000000000000)] (List.map (inD D.int fzI) (cutL r2 none (some 9)))).bind fun zs =>
  (m__law_pick tape3 zs).bind fun (r3, tape4) =>
  some (r3, tape4)
  else
  (lenA thing).bind fun n =>
  (m__law_draw tape3 n).bind fun (r4, tape5) =>
  (asT thing).bind fun x =>
  (asT thing).bind fun x1 =>
  (atI x1 r4).bind fun x2 =>
  (m__law_other_z tape5 x2 many count).bind fun (r5, tape6) =>
  (catO (cutL x none (some r4)) [r5]).bind fun zs1 =>
  (asT thing).bind fun x3 =>
  (catO zs1 (cutL x3 (some (r4 + 1)) none)).bind fun zs2 =>
  (asT thing).bind fun x4 =>
  (asT thing).bind fun x5 =>
  (catO x4 (cutL x5 (some r4) (some (r4 + 1)))).bind fun zs3 =>
  (asT thing).bind fun x6 =>
  (asT thing).bind fun x7 =>
  (catO (cutL x6 none (some r4)) (cutL x7 (some (r4 + 1)) none)).bind fun zs4 =>
  (asT thing).bind fun x8 =>
  (m__law_pick tape6 [(inD (eT eD) (fzT fzD) zs2), (inD (eT eD) (fzT fzD) zs2), (inD (eT eD) (fzT fzD) zs2), (inD (eT eD) (fzT fzD) zs3), (inD (eT eD) (fzT fzD) zs4), (inD (eL false eD) (fzL fzD) zs2), (inD (eT eD) (fzT fzD) x8.reverse)]).bind fun (r6, tape7) =>
  some (r6, tape7)
def sp__law_other_3 : TX := fun env_ Q => ∃ (tape : ((List Int) × Int × Int)) (thing : Dat) (many : Int) (count : Int), env_ = [some ((eR3 true "cells" "spot" "left" (eL true D.int) D.int D.int) tape), some (eD thing), some (D.int many), some (D.int count)] ∧ Wp (m__law_other_3 tape thing many count) fun w_ => match w_ with | (r_, i0_) => Q (eD r_) [some ((eR3 true "cells" "spot" "left" (eL true D.int) D.int D.int) i0_), none, none, none]
def m__law_bans  (tape : ((List Int) × Int × Int)) (many : Int) : Option ((List (Int × Int)) × ((List Int) × Int × Int)) :=
  (m__law_pick tape [0, (many / 2), many, (many + (many / 2)), (2 * many), (3 * many)]).bind fun (r, tape1) =>
  (guardO (CMul r (TT.b2i (decide (1 < many))))).bind fun _ =>
  (rng1 (r * (TT.b2i (decide (1 < many))))).bind fun r1 =>
  (loopS (fun (k : Int) ((tape2, found) : ((List Int) × Int × Int) × (List (Int × Int))) => (m__law_side tape2 many).bind fun (r2, tape3) =>
  (m__law_side tape3 many).bind fun (r3, tape4) =>
  if (!decide ((absI r2) = (absI r3))) = true then
  (pushO found (r2, r3)).bind fun found1 =>
  some (tape4, found1)
  else
  some (tape4, found)) r1 (tape1, [])).bind fun (tape2, found) =>
  ((if (decide (1 < many)) = true then (m__law_draw tape2 3).bind fun (r4, tape6) =>
  some ((decide (r4 = 0)), tape6) else some (false, tape2)).bind fun (t, tape7) =>
  if t = true then
  (lrg 1 (many + 1)).bind fun r5 =>
  (m__law_shuffled tape7 r5).bind fun (r6, tape8) =>
  (m__law_draw tape8 (many - 1)).bind fun (r7, tape9) =>
  (cmapS (fun (cut : Int) (tape11 : ((List Int) × Int × Int)) => (m__law_pick tape11 [1, (-1)]).bind fun (r9, tape12) =>
  (guardO (CMul cut r9)).bind fun _ =>
  some ((cut * r9), tape12)) (cutL r6 none (some (2 + r7))) tape9).bind fun (ys, tape11) =>
  (rng1 (ys.length : Int)).bind fun r10 =>
  (cmapP (fun (k2 : Int) => (atI ys k2).bind fun x =>
  (atI ys (k2 - 1)).bind fun x1 =>
  some (x, (0 - x1))) r10).bind fun ys1 =>
  (catO found ys1).bind fun found3 =>
  some (tape11, found3)
  else
  some (tape7, found)).bind fun (tape5, found2) =>
  (m__law_shuffled tape5 found2).bind fun (r11, tape13) =>
  some (r11, tape13)
def sp__law_bans : TX := fun env_ Q => ∃ (tape : ((List Int) × Int × Int)) (many : Int), env_ = [some ((eR3 true "cells" "spot" "left" (eL true D.int) D.int D.int) tape), some (D.int many)] ∧ Wp (m__law_bans tape many) fun w_ => match w_ with | (r_, i0_) => Q ((eL true (e2 D.int D.int)) r_) [some ((eR3 true "cells" "spot" "left" (eL true D.int) D.int D.int) i0_), none]
def m__law_other_2  (tape : ((List Int) × Int × Int)) (thing : Dat) (many : Int) (count : Int) : Option (Dat × ((List Int) × Int × Int)) :=
  (tyA thing "tuple").bind fun b =>
  (if (!b) = true then some (true, tape) else (guardO (cmpD (eD thing) = true ∧ cmpD (eD (inD (eT eN) (fzT fzN) [])) = true)).bind fun _ =>
  (if (eqA thing (inD (eT eN) (fzT fzN) [])) = true then some (true, tape) else (m__law_draw tape 4).bind fun (r, tape1) =>
  some ((decide (r = 0)), tape1)).bind fun (t, tape2) =>
  some (t, tape2)).bind fun (t1, tape3) =>
  if t1 = true then
  (lrg 0 count).bind fun r2 =>
  (catO [(inD D.int fzI 0), (inD D.int fzI 1), (inD D.int fzI (-1)), (inD D.int fzI count), (inD D.int fzI (count - 1)), (inD D.int fzI (0 - many)), (inD D.bl fzB true), (inD D.bl fzB false), (inD eN fzN ()), (inD D.str fzS ("0" : Str)), (inD (eT eN) (fzT fzN) []), (inD (eL false eN) (fzL fzN) []), (inD (eT D.int) (fzT fzI) [0]), (inD D.int fzI 1000000000000000000000000000000)] (List.map (inD D.int fzI) (cutL r2 none (some 9)))).bind fun zs =>
  (m__law_pick tape3 zs).bind fun (r3, tape4) =>
  some (r3, tape4)
  else
  (lenA thing).bind fun n =>
  (m__law_draw tape3 n).bind fun (r4, tape5) =>
  (asT thing).bind fun x =>
  (asT thing).bind fun x1 =>
  (atI x1 r4).bind fun x2 =>
  (m__law_other_3 tape5 x2 many count).bind fun (r5, tape6) =>
  (catO (cutL x none (some r4)) [r5]).bind fun zs1 =>
  (asT thing).bind fun x3 =>
  (catO zs1 (cutL x3 (some (r4 + 1)) none)).bind fun zs2 =>
  (asT thing).bind fun x4 =>
  (asT thing).bind fun x5 =>
  (catO x4 (cutL x5 (some r4) (some (r4 + 1)))).bind fun zs3 =>
  (asT thing).bind fun x6 =>
  (asT thing).bind fun x7 =>
  (catO (cutL x6 none (some r4)) (cutL x7 (some (r4 + 1)) none)).bind fun zs4 =>
  (asT thing).bind fun x8 =>
  (m__law_pick tape6 [(inD (eT eD) (fzT fzD) zs2), (inD (eT eD) (fzT fzD) zs2), (inD (eT eD) (fzT fzD) zs2), (inD (eT eD) (fzT fzD) zs3), (inD (eT eD) (fzT fzD) zs4), (inD (eL false eD) (fzL fzD) zs2), (inD (eT eD) (fzT fzD) x8.reverse)]).bind fun (r6, tape7) =>
  some (r6, tape7)
def sp__law_other_2 : TX := fun env_ Q => ∃ (tape : ((List Int) × Int × Int)) (thing : Dat) (many : Int) (count : Int), env_ = [some ((eR3 true "cells" "spot" "left" (eL true D.int) D.int D.int) tape), some (eD thing), some (D.int many), some (D.int count)] ∧ Wp (m__law_other_2 tape thing many count) fun w_ => match w_ with | (r_, i0_) => Q (eD r_) [some ((eR3 true "cells" "spot" "left" (eL true D.int) D.int D.int) i0_), none, none, none]
def m__law_other_1  (tape : ((List Int) × Int × Int)) (thing : Dat) (many : Int) (count : Int) : Option (Dat × ((List Int) × Int × Int)) :=
  (tyA thing "tuple").bind fun b =>
  (if (!b) = true then some (true, tape) else (guardO (cmpD (eD thing) = true ∧ cmpD (eD (inD (eT eN) (fzT fzN) [])) = true)).bind fun _ =>
  (if (eqA thing (inD (eT eN) (fzT fzN) [])) = true then some (true, tape) else (m__law_draw tape 4).bind fun (r, tape1) =>
  some ((decide (r = 0)), tape1)).bind fun (t, tape2) =>
  some (t, tape2)).bind fun (t1, tape3) =>
  if t1 = true then
  (lrg 0 count).bind fun r2 =>
  (catO [(inD D.int fzI 0), (inD D.int fzI 1), (inD D.int fzI (-1)), (inD D.int fzI count), (inD D.int fzI (count - 1)), (inD D.int fzI (0 - many)), (inD D.bl fzB true), (inD D.bl fzB false), (inD eN fzN ()), (inD D.str fzS ("0" : Str)), (inD (eT eN) (fzT fzN) []), (inD (eL false eN) (fzL fzN) []), (inD (eT D.int) (fzT fzI) [0]), (inD D.int fzI 1000000000000000000000000000000)] (List.map (inD D.int fzI) (cutL r2 none (some 9)))).bind fun zs =>
  (m__law_pick tape3 zs).bind fun (r3, tape4) =>
  some (r3, tape4)
  else
  (lenA thing).bind fun n =>
  (m__law_draw tape3 n).bind fun (r4, tape5) =>
  (asT thing).bind fun x =>
  (asT thing).bind fun x1 =>
  (atI x1 r4).bind fun x2 =>
  (m__law_other_2 tape5 x2 many count).bind fun (r5, tape6) =>
  (catO (cutL x none (some r4)) [r5]).bind fun zs1 =>
  (asT thing).bind fun x3 =>
  (catO zs1 (cutL x3 (some (r4 + 1)) none)).bind fun zs2 =>
  (asT thing).bind fun x4 =>
  (asT thing).bind fun x5 =>
  (catO x4 (cutL x5 (some r4) (some (r4 + 1)))).bind fun zs3 =>
  (asT thing).bind fun x6 =>
  (asT thing).bind fun x7 =>
  (catO (cutL x6 none (some r4)) (cutL x7 (some (r4 + 1)) none)).bind fun zs4 =>
  (asT thing).bind fun x8 =>
  (m__law_pick tape6 [(inD (eT eD) (fzT fzD) zs2), (inD (eT eD) (fzT fzD) zs2), (inD (eT eD) (fzT fzD) zs2), (inD (eT eD) (fzT fzD) zs3), (inD (eT eD) (fzT fzD) zs4), (inD (eL false eD) (fzL fzD) zs2), (inD (eT eD) (fzT fzD) x8.reverse)]).bind fun (r6, tape7) =>
  some (r6, tape7)
def sp__law_other_1 : TX := fun env_ Q => ∃ (tape : ((List Int) × Int × Int)) (thing : Dat) (many : Int) (count : Int), env_ = [some ((eR3 true "cells" "spot" "left" (eL true D.int) D.int D.int) tape), some (eD thing), some (D.int many), some (D.int count)] ∧ Wp (m__law_other_1 tape thing many count) fun w_ => match w_ with | (r_, i0_) => Q (eD r_) [some ((eR3 true "cells" "spot" "left" (eL true D.int) D.int D.int) i0_), none, none, none]
def m__law_other  (tape : ((List Int) × Int × Int)) (thing : Dat) (many : Int) (count : Int) : Option (Dat × ((List Int) × Int × Int)) :=
  (tyA thing "tuple").bind fun b =>
  (if (!b) = true then some (true, tape) else (guardO (cmpD (eD thing) = true ∧ cmpD (eD (inD (eT eN) (fzT fzN) [])) = true)).bind fun _ =>
  (if (eqA thing (inD (eT eN) (fzT fzN) [])) = true then some (true, tape) else (m__law_draw tape 4).bind fun (r, tape1) =>
  some ((decide (r = 0)), tape1)).bind fun (t, tape2) =>
  some (t, tape2)).bind fun (t1, tape3) =>
  if t1 = true then
  (lrg 0 count).bind fun r2 =>
  (catO [(inD D.int fzI 0), (inD D.int fzI 1), (inD D.int fzI (-1)), (inD D.int fzI count), (inD D.int fzI (count - 1)), (inD D.int fzI (0 - many)), (inD D.bl fzB true), (inD D.bl fzB false), (inD eN fzN ()), (inD D.str fzS ("0" : Str)), (inD (eT eN) (fzT fzN) []), (inD (eL false eN) (fzL fzN) []), (inD (eT D.int) (fzT fzI) [0]), (inD D.int fzI 1000000000000000000000000000000)] (List.map (inD D.int fzI) (cutL r2 none (some 9)))).bind fun zs =>
  (m__law_pick tape3 zs).bind fun (r3, tape4) =>
  some (r3, tape4)
  else
  (lenA thing).bind fun n =>
  (m__law_draw tape3 n).bind fun (r4, tape5) =>
  (asT thing).bind fun x =>
  (asT thing).bind fun x1 =>
  (atI x1 r4).bind fun x2 =>
  (m__law_other_1 tape5 x2 many count).bind fun (r5, tape6) =>
  (catO (cutL x none (some r4)) [r5]).bind fun zs1 =>
  (asT thing).bind fun x3 =>
  (catO zs1 (cutL x3 (some (r4 + 1)) none)).bind fun zs2 =>
  (asT thing).bind fun x4 =>
  (asT thing).bind fun x5 =>
  (catO x4 (cutL x5 (some r4) (some (r4 + 1)))).bind fun zs3 =>
  (asT thing).bind fun x6 =>
  (asT thing).bind fun x7 =>
  (catO (cutL x6 none (some r4)) (cutL x7 (some (r4 + 1)) none)).bind fun zs4 =>
  (asT thing).bind fun x8 =>
  (m__law_pick tape6 [(inD (eT eD) (fzT fzD) zs2), (inD (eT eD) (fzT fzD) zs2), (inD (eT eD) (fzT fzD) zs2), (inD (eT eD) (fzT fzD) zs3), (inD (eT eD) (fzT fzD) zs4), (inD (eL false eD) (fzL fzD) zs2), (inD (eT eD) (fzT fzD) x8.reverse)]).bind fun (r6, tape7) =>
  some (r6, tape7)
def sp__law_other : TX := fun env_ Q => ∃ (tape : ((List Int) × Int × Int)) (thing : Dat) (many : Int) (count : Int), env_ = [some ((eR3 true "cells" "spot" "left" (eL true D.int) D.int D.int) tape), some (eD thing), some (D.int many), some (D.int count)] ∧ Wp (m__law_other tape thing many count) fun w_ => match w_ with | (r_, i0_) => Q (eD r_) [some ((eR3 true "cells" "spot" "left" (eL true D.int) D.int D.int) i0_), none, none, none]
def m_law  (script : (List Int)) : Option (Bool) :=
  (m__law_begun script).bind fun r =>
  (rng1 (4 + (min 5 (script.length : Int)))).bind fun r2 =>
  (loopF (fun (turn : Int) (tape : ((List Int) × Int × Int)) => (atI [9, 60] (TT.b2i (decide (turn = 0)))).bind fun x =>
  (m__law_pick tape [2, 3, 4, 9, x]).bind fun (r3, tape1) =>
  (m__law_bans tape1 r3).bind fun (r4, tape2) =>
  (m__law_draw tape2 4).bind fun (r5, tape3) =>
  (catO r4 (cutL [(1, 2), (1, (-2)), ((-1), 2), ((-1), (-2))] none (some (1 + r5)))).bind fun zs =>
  (m__law_shuffled tape3 zs).bind fun (r6, tape4) =>
  (m__law_pick tape4 [r3, r3, 2]).bind fun (r7, tape5) =>
  (m__law_side tape5 r7).bind fun (r8, tape6) =>
  (m__law_roads r3 r6 r8).bind fun r9 =>
  (m__law_roads r3 r6 (0 - r8)).bind fun r10 =>
  (catO ((r8, ((dGet r9 (0 - r8)).getD [0]), ((dGet r10 r8).getD [0])).2.1) ((r8, ((dGet r9 (0 - r8)).getD [0]), ((dGet r10 r8).getD [0])).2.2)).bind fun zs1 =>
  (catO zs1 ((r8, ((dGet r9 (0 - r8)).getD [0]), ((dGet r10 r8).getD [0])).2.1)).bind fun zs2 =>
  (m__law_pick tape6 [(r8, ((dGet r9 (0 - r8)).getD [0]), ((dGet r10 r8).getD [0])), (r8, zs2, (r8, ((dGet r9 (0 - r8)).getD [0]), ((dGet r10 r8).getD [0])).2.2)]).bind fun (r11, tape7) =>
  (m__law_other tape7 (inD (e3 D.int (eT D.int) (eT D.int)) (fz3 fzI (fzT fzI) (fzT fzI)) r11) r3 (r6.length : Int)).bind fun (r12, tape8) =>
  (m__law_other tape8 r12 r3 (r6.length : Int)).bind fun (r13, tape9) =>
  (m__law_other tape9 (inD (e3 D.int (eT D.int) (eT D.int)) (fz3 fzI (fzT fzI) (fzT fzI)) (r8, ((dGet r9 (0 - r8)).getD [0]), ((dGet r10 r8).getD [0]))) r3 (r6.length : Int)).bind fun (r14, tape10) =>
  (catO [(inD (e3 D.int (eT D.int) (eT D.int)) (fz3 fzI (fzT fzI) (fzT fzI)) (r8, ((dGet r9 (0 - r8)).getD [0]), ((dGet r10 r8).getD [0]))), (inD (e3 D.int (eT D.int) (eT D.int)) (fz3 fzI (fzT fzI) (fzT fzI)) (r8, zs2, (r8, ((dGet r9 (0 - r8)).getD [0]), ((dGet r10 r8).getD [0])).2.2)), r12, r13, (inD (e3 D.int (eT D.int) (eT D.int)) (fz3 fzI (fzT fzI) (fzT fzI)) ((0 - r8), (r8, ((dGet r9 (0 - r8)).getD [0]), ((dGet r10 r8).getD [0])).2.2, (r8, ((dGet r9 (0 - r8)).getD [0]), ((dGet r10 r8).getD [0])).2.1))] [r14, (inD (e3 D.int (eL false D.int) (eT D.int)) (fz3 fzI (fzL fzI) (fzT fzI)) (r8, (r8, ((dGet r9 (0 - r8)).getD [0]), ((dGet r10 r8).getD [0])).2.1, (r8, ((dGet r9 (0 - r8)).getD [0]), ((dGet r10 r8).getD [0])).2.2)), (inD eN fzN ()), (inD (eT eN) (fzT fzN) [])]).bind fun zs3 =>
  (loopF (fun (thing : Dat) (_ : Unit) => (guardO (cmpD (eD thing) = true)).bind fun _ =>
  (shownO (eD thing)).bind fun text =>
  (m__law_due r3 r6 thing).bind fun r15 =>
  (rng1 2).bind fun r16 =>
  (loopF (fun (again : Int) (_ : Unit) => (m_is_nothing r3 r6 thing).bind fun r17 =>
  (shownO (D.bl r17)).bind fun text1 =>
  (shownO (D.bl r15)).bind fun text2 =>
  (if (!decide (text1 = text2)) = true then some true else (guardO (cmpD (eD thing) = true)).bind fun _ =>
  (shownO (eD thing)).bind fun text3 =>
  some (!decide (text3 = text))).bind fun t =>
  if t = true then
  some (.ret false)
  else
  some (.go ())) r16 ()).bind fun fl2 => match fl2 with
  | .go _ => some (.go ())
  | .brk _ => none
  | .ret r_ => some (.ret r_)) zs3 ()).bind fun fl1 => match fl1 with
  | .go _ => some (.go tape10)
  | .brk _ => none
  | .ret r_ => some (.ret r_)) r2 r).bind fun fl => match fl with
  | .go tape => some true
  | .brk _ => none
  | .ret r_ => some r_
def sp_law : TX := fun env_ Q => ∃ (script : (List Int)), env_ = [some ((eQ D.int) script)] ∧ Wp (m_law script) fun w_ => match w_ with | r_ => Q (D.bl r_) [none]
end K05
namespace TT
open PySem PySem.Spec PyProof.Rows L2
/-- a thing without things within -/
def leafD : D → Prop
  | .non => True
  | .bl _ => True
  | .int i => i.natAbs < 10 ^ 32
  | .str x => x = "1" ∨ x = "+-" ∨ x = "" ∨ x = "12" ∨ x = "0"
  | _ => False
/-- at most n things within each, at most k deep -/
def Pl (n : Nat) : Nat → Dat → Prop
  | 0, x => leafD (eD x)
  | k + 1, x => leafD (eD x) ∨ ∃ ys : List Dat, (eD x = eT eD ys ∨ eD x = eL false eD ys) ∧ ys.length ≤ n ∧ ∀ y, y ∈ ys → Pl n k y
section
variable {n m k j : Nat} {x y : Dat}
theorem Pl.leaf (h : leafD (eD x)) : Pl n k x := by
  cases k with
  | zero => exact h
  | succ k => exact .inl h
theorem Pl.mono : ∀ {k j : Nat} {x : Dat}, Pl n k x → n ≤ m → k ≤ j → Pl m j x
  | 0, j, x, h, _, _ => Pl.leaf h
  | k + 1, 0, x, _, _, hk => absurd hk (by omega)
  | k + 1, j + 1, x, h, hn, hk => by
    rcases h with h | ⟨ys, h1, h2, h3⟩
    · exact .inl h
    · exact .inr ⟨ys, h1, by omega, fun y hy => (h3 y hy).mono hn (by omega)⟩
theorem leaf_sb {d : D} (h : leafD d) : d.py.showable = true ∧ d.py.shown.length ≤ 40 := by
  cases d with
  | non =>
    have := sbN () trivial
    exact ⟨this.1, Nat.le_trans this.2 (by decide)⟩
  | bl b =>
    have := sbB b trivial
    exact ⟨this.1, Nat.le_trans this.2 (by decide)⟩
  | int i =>
    have := sbI 32 (by decide) (by decide) i h
    exact ⟨this.1, Nat.le_trans this.2 (by decide)⟩
  | str s =>
    rw [py_st]
    refine ⟨by simp only [PyData.showable], ?_⟩
    simp only [PyData.shown]
    rcases h with rfl | rfl | rfl | rfl | rfl <;> decide +kernel
  | _ => exact h.elim
theorem leaf_cmp {d : D} (h : leafD d) : d.pyok = true ∧ d.py.canLay0 = true ∧ d.py.depth = 0 := by
  cases d with
  | non => rw [D.py, D.pyok]; exact ⟨rfl, by simp only [PyData.canLay0], by simp only [PyData.depth]⟩
  | bl b => rw [D.py, D.pyok]; exact ⟨rfl, by simp only [PyData.canLay0], by simp only [PyData.depth]⟩
  | int i => rw [D.py, D.pyok]; exact ⟨rfl, by simp only [PyData.canLay0], by simp only [PyData.depth]⟩
  | str s =>
    rw [py_st, D.pyok]
    refine ⟨rfl, ?_, by simp only [PyData.depth]⟩
    simp only [PyData.canLay0]
    rcases h with rfl | rfl | rfl | rfl | rfl <;> decide +kernel
  | _ => exact h.elim
theorem all_cmp {P : Dat → Prop} {k : Nat} (h : ∀ x, P x → (eD x).pyok = true ∧ (eD x).py.canLay0 = true ∧ (eD x).py.depth ≤ k) : ∀ ys : List Dat, (∀ y, y ∈ ys → P y) → pyokL (ys.map eD) = true ∧ PyData.canLayAll0 (pyL (ys.map eD)) = true ∧ PyData.depthAll (pyL (ys.map eD)) ≤ k
  | [], _ => by simp [pyokL, pyL, PyData.canLayAll0, PyData.depthAll]
  | y :: ys, hp => by
    obtain ⟨h1, h2, h3⟩ := all_cmp h ys fun z hz => hp z (List.mem_cons_of_mem _ hz)
    obtain ⟨g1, g2, g3⟩ := h y (hp y List.mem_cons_self)
    simp only [List.map_cons, pyokL, pyL, PyData.canLayAll0, PyData.depthAll, g1, g2, h1, h2]
    exact ⟨rfl, rfl, by omega⟩
inductive Kd : Dat → Prop where
  | non {z : Dat} : eD z = .non → Kd z
  | bl {z : Dat} (b : Bool) : eD z = .bl b → Kd z
  | int {z : Dat} (i : Int) : eD z = .int i → i.natAbs < 10 ^ 32 → Kd z
  | str {z : Dat} (s : Str) : eD z = .str s → (s = "1" ∨ s = "+-" ∨ s = "" ∨ s = "12" ∨ s = "0") → Kd z
  | tup {z : Dat} (ys : List Dat) : eD z = eT eD ys → Kd z
  | lst {z : Dat} (ys : List Dat) : eD z = eL false eD ys → Kd z
theorem leaf_kd (h : leafD (eD x)) : Kd x := by
  generalize e : eD x = d at h
  cases d with
  | non => exact .non e
  | bl b => exact .bl b e
  | int i => exact .int i e h
  | str s => exact .str s e h
  | _ => exact h.elim
theorem Pl.kd (h : Pl n k x) : Kd x := by
  cases k with
  | zero => exact leaf_kd h
  | succ k =>
    rcases h with h | ⟨ys, h1 | h1, _⟩
    · exact leaf_kd h
    · exact .tup ys h1
    · exact .lst ys h1
theorem ty_of {t c : String} {b : Bool} (h : tyD (eD x) = some t) (hk : kitB t c = some b) : tyA x c = some b := by
  unfold tyA; rw [h]; exact hk
theorem ty_non (e : eD x = .non) : tyA x "tuple" = some false ∧ tyA x "list" = some false ∧ tyA x "int" = some false ∧ tyA x "bool" = some false := ⟨ty_of (t := "NoneType") (by rw [e]; rfl) (by decide +kernel), ty_of (t := "NoneType") (by rw [e]; rfl) (by decide +kernel), ty_of (t := "NoneType") (by rw [e]; rfl) (by decide +kernel), ty_of (t := "NoneType") (by rw [e]; rfl) (by decide +kernel)⟩
theorem ty_bl {b : Bool} (e : eD x = .bl b) : tyA x "tuple" = some false ∧ tyA x "list" = some false ∧ tyA x "int" = some true ∧ tyA x "bool" = some true := ⟨ty_of (t := "bool") (by rw [e]; rfl) (by decide +kernel), ty_of (t := "bool") (by rw [e]; rfl) (by decide +kernel), ty_of (t := "bool") (by rw [e]; rfl) (by decide +kernel), ty_of (t := "bool") (by rw [e]; rfl) (by decide +kernel)⟩
theorem ty_int {i : Int} (e : eD x = .int i) : tyA x "tuple" = some false ∧ tyA x "list" = some false ∧ tyA x "int" = some true ∧ tyA x "bool" = some false := ⟨ty_of (t := "int") (by rw [e]; rfl) (by decide +kernel), ty_of (t := "int") (by rw [e]; rfl) (by decide +kernel), ty_of (t := "int") (by rw [e]; rfl) (by decide +kernel), ty_of (t := "int") (by rw [e]; rfl) (by decide +kernel)⟩
theorem ty_str {s : Str} (e : eD x = .str s) : tyA x "tuple" = some false ∧ tyA x "list" = some false ∧ tyA x "int" = some false ∧ tyA x "bool" = some false := ⟨ty_of (t := "str") (by rw [e]; rfl) (by decide +kernel), ty_of (t := "str") (by rw [e]; rfl) (by decide +kernel), ty_of (t := "str") (by rw [e]; rfl) (by decide +kernel), ty_of (t := "str") (by rw [e]; rfl) (by decide +kernel)⟩
theorem ty_tup {ys : List Dat} (e : eD x = eT eD ys) : tyA x "tuple" = some true ∧ tyA x "list" = some false ∧ tyA x "int" = some false ∧ tyA x "bool" = some false := ⟨ty_of (t := "tuple") (by rw [e]; rfl) (by decide +kernel), ty_of (t := "tuple") (by rw [e]; rfl) (by decide +kernel), ty_of (t := "tuple") (by rw [e]; rfl) (by decide +kernel), ty_of (t := "tuple") (by rw [e]; rfl) (by decide +kernel)⟩
theorem ty_lst {ys : List Dat} (e : eD x = eL false eD ys) : tyA x "tuple" = some false ∧ tyA x "list" = some true ∧ tyA x "int" = some false ∧ tyA x "bool" = some false := ⟨ty_of (t := "list") (by rw [e]; rfl) (by decide +kernel), ty_of (t := "list") (by rw [e]; rfl) (by decide +kernel), ty_of (t := "list") (by rw [e]; rfl) (by decide +kernel), ty_of (t := "list") (by rw [e]; rfl) (by decide +kernel)⟩
theorem map_eD_inj {xs ys : List Dat} (h : xs.map eD = ys.map eD) : xs = ys := by
  induction xs generalizing ys with
  | nil => cases ys with
    | nil => rfl
    | cons => cases h
  | cons a r ih =>
    cases ys with
    | nil => cases h
    | cons b s =>
      rw [List.map_cons, List.map_cons] at h
      rw [dat_ext (List.cons.inj h).1, ih (List.cons.inj h).2]
theorem asT_is {ys : List Dat} (e : eD x = eT eD ys) : asT x = some ys := by
  obtain ⟨d, hd⟩ := x
  have e : d = D.tup (ys.map eD) := e
  subst e
  show some (datL _ _) = some ys
  rw [map_eD_inj (datL_map _ _)]
theorem asI_is {i : Int} (e : eD x = .int i) : asI x = some i := by
  obtain ⟨d, hd⟩ := x
  have e : d = D.int i := e
  subst e; rfl
theorem lenA_tup {ys : List Dat} (e : eD x = eT eD ys) : lenA x = some (ys.length : Int) := by
  unfold lenA; rw [e]
  show some ((ys.map eD).length : Int) = _
  rw [List.length_map]
end
end TT
namespace TT
open PySem PySem.Spec PyProof.Rows L2
section
variable {n : Nat} {bans : List (Int × Int)}
/-- a ban's number, and a step by it -/
def NumOk (bans : List (Int × Int)) (k s t : Int) : Prop := ∃ i : Nat, k = (i : Int) ∧ ∃ b, bans[i]? = some b ∧ StepB b s t
/-- a road: numbers of bans, each with the side where one stands -/
inductive RoadC (bans : List (Int × Int)) : Int → List Int → Int → Prop
  | nil {s : Int} : RoadC bans s [] s
  | cons {s u t k : Int} {ks : List Int} : NumOk bans k s u → RoadC bans u ks t → RoadC bans s (k :: ks) t
theorem RoadC.snoc {s t u k : Int} {ks : List Int} (h : RoadC bans s ks t) (g : NumOk bans k t u) : RoadC bans s (ks ++ [k]) u := by
  induction h with
  | nil => exact .cons g .nil
  | cons a _ ih => exact .cons a (ih g)
end
end TT
namespace TT
open PySem PySem.Spec PyProof.Rows L2
def m_end_of  (bans : (List (Int × Int))) (side : Int) (thing : (List Int)) : Option ((Option Int)) :=
  if (!true) = true then
  some none
  else
  (loopF (fun (number : Int) (side1 : Int) => (m_is_whole number).bind fun r =>
  (if (!r) = true then some true else (if (!((decide (0 ≤ number)) && (decide (number < (bans.length : Int))))) = true then some true else (atI bans number).bind fun x =>
  some (!decide (side1 ∈ [x.1, x.2]))).bind fun t =>
  some t).bind fun t1 =>
  if t1 = true then
  some (.ret none)
  else
  (atI bans number).bind fun x1 =>
  some (.go (if (decide (side1 = x1.1)) = true then (-x1.2) else (-x1.1)))) thing side).bind fun fl => match fl with
  | .go side1 => some (some side1)
  | .brk _ => none
  | .ret r_ => some r_
def m_is_nothing  (many : Int) (bans : (List (Int × Int))) (thing : (Option (Int × (List Int) × (List Int)))) : Option (Bool) :=
  (if (!thing.isSome) = true then some true else (thing).bind fun thing1 =>
  (if (!decide (3 = 3)) = true then some true else (m_is_side many thing1.1).bind fun r =>
  some (!r)).bind fun t =>
  some t).bind fun t1 =>
  if t1 = true then
  some false
  else
  (thing).bind fun thing2 =>
  (m_end_of bans thing2.1 thing2.2.1).bind fun r1 =>
  (if (decide (r1 = (some (-thing2.1)))) = true then (m_end_of bans (-thing2.1) thing2.2.2).bind fun r2 =>
  some (decide (r2 = (some thing2.1))) else some false).bind fun t2 =>
  some t2
end TT
namespace TT
open PySem PySem.Spec PyProof.Rows L2
/-- deeds 1 .. d-1: what each one needs, what it clashes with -/
structure PBr (d : Nat) (Bl Cl : Nat → Nat → Prop) : Prop where
  lt : ∀ z x, Bl z x → 1 ≤ x ∧ x < z ∧ z < d
  rg : ∀ z x, Cl z x → 1 ≤ x ∧ x < d ∧ 1 ≤ z ∧ z < d
  tr : ∀ z x w, Bl z x → Bl x w → Bl z w
  sym : ∀ z x, Cl z x → Cl x z
  inh : ∀ z x w, Bl z x → Cl x w → Cl z w
  irr : ∀ z, ¬ Cl z z
  dis : ∀ z x, Bl z x → ¬ Cl z x
/-- causes and what they clash with, drawn one by one -/
structure Draw (d : Nat) (Bl Cl : Nat → Nat → Prop) (ca aw : Nat → Prop) : Prop where
  rg : ∀ x, ca x → 1 ≤ x ∧ x < d
  cl : ∀ x w, ca x → Bl x w → ca w
  up : ∀ x w, ca x → Cl x w → aw w
  ex : ∀ w, aw w → ∃ x, ca x ∧ Cl x w
  dis : ∀ x, ca x → ¬ aw x
theorem Draw.none {d : Nat} {Bl Cl : Nat → Nat → Prop} : Draw d Bl Cl (fun _ => False) fun _ => False := ⟨fun _ h => h.elim, fun _ _ h => h.elim, fun _ _ h => h.elim, fun _ h => h.elim, fun _ h => h.elim⟩
theorem Draw.more {d c : Nat} {Bl Cl : Nat → Nat → Prop} {ca aw : Nat → Prop} (P : PBr d Bl Cl) (D : Draw d Bl Cl ca aw) (h1 : 1 ≤ c) (h2 : c < d) (hc : ¬ aw c) :
    Draw d Bl Cl (fun x => ca x ∨ Bl c x ∨ x = c) fun w => aw w ∨ Cl c w := by
  have inS : ∀ x w, (Bl c x ∨ x = c) → Cl x w → Cl c w := fun x w h g => by
    rcases h with h | rfl
    · exact P.inh c x w h g
    · exact g
  refine ⟨fun x h => ?_, fun x w h g => ?_, fun x w h g => ?_, fun w h => ?_, fun x h g => ?_⟩
  · rcases h with h | h | rfl
    · exact D.rg x h
    · have := P.lt c x h; omega
    · exact ⟨h1, h2⟩
  · rcases h with h | h | rfl
    · exact .inl (D.cl x w h g)
    · exact .inr (.inl (P.tr c x w h g))
    · exact .inr (.inl g)
  · rcases h with h | h
    · exact .inl (D.up x w h g)
    · exact .inr (inS x w h g)
  · rcases h with h | h
    · obtain ⟨x, k1, k2⟩ := D.ex w h
      exact ⟨x, .inl k1, k2⟩
    · exact ⟨c, .inr (.inr rfl), h⟩
  · rcases h with h | h
    · rcases g with g | g
      · exact D.dis x h g
      · exact hc (D.up x c h (P.sym _ _ g))
    · rcases g with g | g
      · obtain ⟨z, k1, k2⟩ := D.ex x g
        exact hc (D.up z c k1 (P.sym _ _ (inS x z h (P.sym _ _ k2))))
      · rcases h with h | rfl
        · exact P.dis c x h g
        · exact P.irr _ g
/-- a ban by a cause, or by a clash -/
def BanR (Bl Cl : Nat → Nat → Prop) (p : Int × Int) : Prop := (∃ z c : Nat, Bl z c ∧ p = ((z : Int), -(c : Int))) ∨ ∃ o z : Nat, Cl o z ∧ o < z ∧ p = ((o : Int), (z : Int))
end TT
namespace TT
open PySem PySem.Spec PyProof.Rows L2
section
/-- what the dicts of a list tell -/
def rel (l : List SD) (z x : Nat) : Prop := ∃ m, l[z]? = some m ∧ (x : Int) ∈ dkeys m
structure WF (l : List SD) (b : Nat) : Prop where
  nd : ∀ m, m ∈ l → (dkeys m).Nodup
  rg : ∀ m, m ∈ l → ∀ k, k ∈ dkeys m → ∃ x : Nat, k = (x : Int) ∧ x < b
theorem small_len {m : SD} {b : Nat} (nd : (dkeys m).Nodup) (rg : ∀ k, k ∈ dkeys m → ∃ x : Nat, k = (x : Int) ∧ x < b) : m.length ≤ b := by
  have := len_le_of_sub (l2 := natI (List.range b)) nd fun k hk => by
    obtain ⟨x, rfl, hx⟩ := rg k hk
    unfold natI
    exact List.mem_map.mpr ⟨x, List.mem_range.mpr hx, rfl⟩
  simpa [dkeys] using this
theorem WF.len {l : List SD} {b : Nat} (W : WF l b) {m : SD} (h : m ∈ l) : m.length ≤ b := small_len (W.nd m h) (W.rg m h)
theorem WF.mono {l : List SD} {b c : Nat} (W : WF l b) (h : b ≤ c) : WF l c := ⟨W.nd, fun m hm k hk => by obtain ⟨x, e, hx⟩ := W.rg m hm k hk; exact ⟨x, e, by omega⟩⟩
theorem WF.push {l : List SD} {b : Nat} (W : WF l b) {m : SD} (nd : (dkeys m).Nodup) (rg : ∀ k, k ∈ dkeys m → ∃ x : Nat, k = (x : Int) ∧ x < b) : WF (l ++ [m]) b :=
  ⟨fun a ha => (List.mem_append.mp ha).elim (W.nd a) fun h => by rw [List.mem_singleton.mp h]; exact nd, fun a ha => (List.mem_append.mp ha).elim (W.rg a) fun h => by rw [List.mem_singleton.mp h]; exact rg⟩
/-- one more key in one dict -/
structure Add (l l' : List SD) (b i x : Nat) : Prop where
  wf : WF l' b
  len : l'.length = l.length
  iff : ∀ a w, rel l' a w ↔ rel l a w ∨ (a = i ∧ w = x)
variable {β : Type} {K : β → Prop}
theorem BanR.mono {Bl Cl Bl' Cl' : Nat → Nat → Prop} (h1 : ∀ z x, Bl z x → Bl' z x) (h2 : ∀ z x, Cl z x → Cl' z x) {p : Int × Int} (h : BanR Bl Cl p) : BanR Bl' Cl' p := by
  rcases h with ⟨z, c, h, e⟩ | ⟨o, z, h, h3, e⟩
  · exact .inl ⟨z, c, h1 _ _ h, e⟩
  · exact .inr ⟨o, z, h2 _ _ h, h3, e⟩
variable {b : Int} {t : Tp}
end
end TT
namespace TT
open PySem PySem.Spec PyProof.Rows L2
end TT
namespace TT
open PySem PySem.Spec PyProof.Rows L2
section
variable {n : Nat} {bans : List (Int × Int)} {tw : Town} {y z : Nat → Bool} {sides : List Int}
/-- the sides of a quarter, as keys -/
structure QuartD (bans : List (Int × Int)) (sides : List Int) (d : SD) : Prop where
  nd : (dkeys d).Nodup
  iff : ∀ t, t ∈ dkeys d ↔ ∃ s, s ∈ sides ∧ Reach bans s t
theorem QuartD.on {d : SD} (Q : QuartD bans sides d) (B : BansOk n bans) (L : LetB bans z) (ho : ∀ s, s ∈ sides → onS z s = true) : ∀ t, t ∈ dkeys d → onS z t = true := fun t ht => by
  obtain ⟨s, h1, h2⟩ := (Q.iff t).mp ht
  exact reach_on B L h2 (ho s h1)
end
end TT
namespace TT
open PySem PySem.Spec PyProof.Rows L2
section
variable {α ρ σ β : Type}
theorem cut_take (xs : List α) {k : Nat} (hk : k ≤ xs.length) : cutL xs none (some (k : Int)) = xs.take k := by
  unfold cutL
  rw [HT.sIx_nat, HT.sIx_none, List.drop_zero, Nat.sub_zero, Nat.min_eq_left hk]
end
end TT
namespace TT
open PySem PySem.Spec PyProof.Rows L2
variable [Cls]
section
/-- whether a side leads to another one -/
noncomputable def relB (bans : List (Int × Int)) (s t : Int) : Bool := @decide (Reach bans s t) (Classical.propDecidable _)
variable (r : Int → Int → Bool)
/-- the side of an elder cut that a cut is alike with -/
def hitF (cut : Int) : List Int → Option Int
  | [] => none
  | l :: ls => if (r cut l && r l cut) = true then some l else if (r cut (-l) && r (-l) cut) = true then some (-l) else hitF cut ls
end
section
variable {n : Nat} {bans : List (Int × Int)} {ld : List (Int × List (Int × Bool))}
/-- the elder cuts that new ones stand for -/
structure LotsOk (r : Int → Int → Bool) (n : Nat) (lots : List Int) : Prop where
  side : ∀ c, c ∈ lots → IsSide n c ∧ 0 < c
  free : ∀ c, c ∈ lots → r c (-c) = false ∧ r (-c) c = false
  alike : ∀ l1 c l2, lots = l1 ++ c :: l2 → hitF r c l1 = none
theorem LotsOk.nil {r : Int → Int → Bool} : LotsOk r n [] := ⟨(fun c h => by cases h), (fun c h => by cases h), fun l1 c l2 h => by cases l1 <;> cases h⟩
theorem LotsOk.snoc {r : Int → Int → Bool} {lots : List Int} {c : Int} (L : LotsOk r n lots) (hc : IsSide n c) (h0 : 0 < c) (h1 : r c (-c) = false) (h2 : r (-c) c = false) (h3 : hitF r c lots = none) : LotsOk r n (lots ++ [c]) := by
  refine ⟨fun x hx => ?_, fun x hx => ?_, fun l1 x l2 e => ?_⟩
  · rcases List.mem_append.mp hx with hx | hx
    · exact L.side x hx
    · rw [List.mem_singleton.mp hx]; exact ⟨hc, h0⟩
  · rcases List.mem_append.mp hx with hx | hx
    · exact L.free x hx
    · rw [List.mem_singleton.mp hx]; exact ⟨h1, h2⟩
  · rcases List.eq_nil_or_concat l2 with rfl | ⟨l3, y, rfl⟩
    · obtain ⟨e1, e2⟩ := List.append_inj' e rfl
      cases e2
      rw [← e1]; exact h3
    · rw [List.concat_eq_append, ← List.cons_append, ← List.append_assoc] at e
      obtain ⟨e1, _⟩ := List.append_inj' e rfl
      exact L.alike l1 x l3 e1
end
end TT
namespace TT
open PySem PySem.Spec PyProof.Rows L2
end TT
namespace TT
open PySem PySem.Spec PyProof.Rows L2
end TT
namespace TT
open PySem PySem.Spec PyProof.Rows L2
end TT
namespace TT
open PySem PySem.Spec PyProof.Rows L2
end TT
namespace TT
open PySem PySem.Spec PyProof.Rows L2
end TT
namespace TT
open PySem PySem.Spec PyProof.Rows L2
end TT
namespace TT
open PySem PySem.Spec PyProof.Rows L2
end TT
namespace TT
open PySem PySem.Spec PyProof.Rows L2
end TT
namespace TT
open PySem PySem.Spec PyProof.Rows L2
section
theorem size_leB {n : Nat} (h : n ≤ 10000000) : n ≤ sizeLine := Nat.le_trans h (by rw [sizeLine_eq]; decide)
variable {α β : Type} {e : α → D} {P : α → Prop} {k : Nat}
variable {n : Nat} {bans : List (Int × Int)} {tw : Town}
end
end TT
namespace TT
open PySem PySem.Spec PyProof.Rows L2
/-- rows of at most so many things, so deep -/
def PlL : List Nat → Dat → Prop
  | [], x => leafD (eD x)
  | n :: r, x => leafD (eD x) ∨ ∃ ys : List Dat, (eD x = eT eD ys ∨ eD x = eL false eD ys) ∧ ys.length ≤ n ∧ ∀ y, y ∈ ys → PlL r y
def bdL : List Nat → Nat
  | [] => 40
  | n :: r => (bdL r + 2) * n + 43
section
variable {n m : Nat} {r r' : List Nat} {x y : Dat}
theorem PlL.leaf (h : leafD (eD x)) : PlL r x := by
  cases r with
  | nil => exact h
  | cons n r => exact .inl h
theorem plL_sb : ∀ {r : List Nat}, SB eD (PlL r) (bdL r)
  | [] => fun x h => leaf_sb h
  | n :: r => fun x h => by
    rcases h with h | ⟨ys, h1, h2, h3⟩
    · have := leaf_sb h
      exact ⟨this.1, Nat.le_trans this.2 (by show _ ≤ (bdL r + 2) * n + 43; omega)⟩
    · rcases h1 with h1 | h1 <;> rw [h1]
      · have := sbT n (plL_sb (r := r)) ys ⟨h2, h3⟩
        exact ⟨this.1, Nat.le_trans this.2 (by show _ ≤ (bdL r + 2) * n + 43; omega)⟩
      · have := sbL (o := false) n (plL_sb (r := r)) ys ⟨h2, h3⟩
        exact ⟨this.1, Nat.le_trans this.2 (by show _ ≤ (bdL r + 2) * n + 43; omega)⟩
theorem plL_shown (h : PlL r x) (hb : bdL r ≤ 10000000) : shownO (eD x) = some (eD x).py.shown := by
  have := plL_sb x h
  unfold shownO
  rw [if_pos ⟨this.1, size_leB (Nat.le_trans this.2 hb)⟩]
theorem plL_cmp0 : ∀ {r : List Nat} (x : Dat), PlL r x → (eD x).pyok = true ∧ (eD x).py.canLay0 = true ∧ (eD x).py.depth ≤ r.length
  | [], x, h => by have := leaf_cmp h; exact ⟨this.1, this.2.1, by omega⟩
  | n :: r, x, h => by
    rcases h with h | ⟨ys, h1, h2, h3⟩
    · have := leaf_cmp h; exact ⟨this.1, this.2.1, by omega⟩
    · have := all_cmp (P := PlL r) (fun x hx => plL_cmp0 x hx) ys h3
      rcases h1 with h1 | h1 <;> rw [h1]
      · show (D.tup _).pyok = true ∧ (D.tup _).py.canLay0 = true ∧ (D.tup _).py.depth ≤ r.length + 1
        rw [D.py, D.pyok]
        simp only [PyData.canLay0, PyData.depth]
        exact ⟨this.1, this.2.1, by omega⟩
      · show (D.lst _ _).pyok = true ∧ (D.lst _ _).py.canLay0 = true ∧ (D.lst _ _).py.depth ≤ r.length + 1
        rw [D.py, D.pyok]
        simp only [PyData.canLay0, PyData.depth]
        exact ⟨this.1, this.2.1, by omega⟩
theorem plL_cmp (h : PlL r x) (hk : r.length ≤ 60) : cmpD (eD x) = true := by
  have := plL_cmp0 x h
  unfold cmpD SeqAt.shaped
  rw [this.1, this.2.1]
  simp only [Bool.true_and, decide_eq_true_eq]
  omega
theorem PlL.kd (h : PlL r x) : Kd x := by
  cases r with
  | nil => exact leaf_kd h
  | cons n r =>
    rcases h with h | ⟨ys, h1 | h1, _⟩
    · exact leaf_kd h
    · exact .tup ys h1
    · exact .lst ys h1
theorem plL_tup {ys : List Dat} (h : PlL (n :: r) x) (e : eD x = eT eD ys) : ys.length ≤ n ∧ ∀ y, y ∈ ys → PlL r y := by
  rcases h with h | ⟨zs, h1 | h1, h2, h3⟩
  · rw [e] at h; exact h.elim
  · rw [e] at h1
    have : ys = zs := map_eD_inj (D.tup.inj h1)
    subst this
    exact ⟨h2, h3⟩
  · rw [e] at h1
    cases h1
theorem plL_nil_tup {ys : List Dat} (h : PlL [] x) (e : eD x = eT eD ys) : False := by
  have h : leafD (eD x) := h
  rw [e] at h; exact h
/-- one more everywhere -/
def incL : List Nat → List Nat
  | [] => [1]
  | n :: r => (n + 1) :: incL r
theorem inc_leaf1 : ∀ {r : List Nat} {y : Dat}, PlL r y → PlL (incL r) y
  | [], y, h => .inl h
  | n :: r, y, h => by
    rcases h with h | ⟨ys, h1, h2, h3⟩
    · exact .inl h
    · exact .inr ⟨ys, h1, by omega, fun z hz => inc_leaf1 (h3 z hz)⟩
/-- small things fit -/
theorem small_in {ys : List Dat} (h : eD x = eT eD ys ∨ eD x = eL false eD ys) (hl : ys.length ≤ 1) (hy : ∀ y, y ∈ ys → leafD (eD y)) : ∀ {r : List Nat}, PlL (incL r) x
  | [] => .inr ⟨ys, h, hl, fun y hy' => hy y hy'⟩
  | n :: r => .inr ⟨ys, h, by omega, fun y hy' => PlL.leaf (hy y hy')⟩
end
end TT
namespace K05
open PySem PySem.Spec PyProof.Rows L2 TT
def GoodB (n : Nat) (l : List (Int × Int)) : Prop := ∀ p, p ∈ l → IsSide n p.1 ∧ IsSide n p.2 ∧ p.1.natAbs ≠ p.2.natAbs
theorem GoodB.ok {n : Nat} {l : List (Int × Int)} (h : GoodB n l) (hl : l.length ≤ 2000) : BansOk n l := ⟨hl, fun b hb => (h b hb).1, fun b hb => (h b hb).2.1, fun b hb => (h b hb).2.2⟩
theorem GoodB.app {n : Nat} {l r : List (Int × Int)} (h : GoodB n l) (g : GoodB n r) : GoodB n (l ++ r) := fun p hp => (List.mem_append.mp hp).elim (h p) (g p)
theorem prev_at {ys : List Int} {k : Nat} (hk : k < ys.length) (h2 : 2 ≤ ys.length) : ∃ (j : Nat) (x : Int), j ≠ k ∧ ys[j]? = some x ∧ atI ys ((k : Int) - 1) = some x := by
  by_cases h0 : k = 0
  · subst h0
    refine ⟨ys.length - 1, ys[ys.length - 1]'(by omega), by omega, List.getElem?_eq_getElem _, ?_⟩
    unfold atI
    have : ixN ys.length (((0 : Nat) : Int) - 1) = some (ys.length - 1) := by
      unfold ixN
      have : ¬ (0 : Int) ≤ -1 := by omega
      simp
      omega
    rw [this]
    exact List.getElem?_eq_getElem _
  · refine ⟨k - 1, ys[k - 1]'(by omega), by omega, List.getElem?_eq_getElem _, ?_⟩
    have e : (k : Int) - 1 = ((k - 1 : Nat) : Int) := by omega
    rw [e]
    exact at_nat (List.getElem?_eq_getElem _)
section
variable {b : Int} {t : Tp} {β : Type} {K : β → Prop} {n : Nat}
theorem bans3_wp {f : List (Int × Int) × Tp → Option β} (ht : TpOk b t) (hb : b ≤ 1000000000 - 100000) (h0 : 0 < n) (hn : n ≤ 60) (q : ∀ l t', GoodB n l → l.length ≤ 300 → TpOk (b + 30000) t' → Wp (f (l, t')) K) : Wp ((m__law_bans t (n : Int)).bind f) K := by
  unfold m__law_bans
  refine wp_bind (pick_wp ht (by omega) (by simp) (by simp) fun r t1 hr ht1 => ?_)
  have hr : 0 ≤ r ∧ r ≤ 180 := by
    simp only [List.mem_cons, List.not_mem_nil, or_false] at hr
    omega
  have hbi : TT.b2i (decide (1 < (n : Int))) = if 1 < n then 1 else 0 := by
    unfold TT.b2i
    by_cases h : 1 < n
    · rw [if_pos h, if_pos (by simp; omega)]
    · rw [if_neg h, if_neg (by simp; omega)]
  rw [hbi]
  refine wp_guard (show CMul r (if 1 < n then 1 else 0) from .inr (by split <;> omega)) ?_
  obtain ⟨m, em, hm⟩ : ∃ m : Nat, r * (if 1 < n then (1 : Int) else 0) = (m : Int) ∧ m ≤ 180 := by
    by_cases h : 1 < n
    · rw [if_pos h]; exact ⟨r.toNat, by omega, by omega⟩
    · rw [if_neg h]; exact ⟨0, by omega, by omega⟩
  rw [em]
  refine wp_rng1 rfl (by omega) ?_
  refine wp_loopR (fun j (s : Tp × List (Int × Int)) => GoodB n s.2 ∧ s.2.length ≤ j ∧ TpOk (b + 1 + 4 * j) s.1) ⟨(fun p hp => by cases hp), Nat.le_refl _, ht1.mono (by omega)⟩ (fun j s hj ⟨i1, i2, i3⟩ => ?_) fun s ⟨i1, i2, i3⟩ => ?_
  · obtain ⟨t2, found⟩ := s
    simp only at i1 i2 i3
    refine side_wp i3 (by omega) h0 (by omega) fun x t3 hx ht3 => ?_
    refine side_wp ht3 (by omega) h0 (by omega) fun y t4 hy ht4 => ?_
    refine wp_ite (fun h => ?_) fun _ => wp_some ⟨i1, by show found.length ≤ j + 1; omega, ht4.mono (by omega)⟩
    have h : x.natAbs ≠ y.natAbs := by
      rw [absI_nat, absI_nat] at h
      simp only [Bool.not_eq_true', decide_eq_false_iff_not] at h
      omega
    refine wp_push (by omega) (wp_some ⟨i1.app fun p hp => ?_, by simp; omega, ht4.mono (by omega)⟩)
    rw [List.mem_singleton.mp hp]
    exact ⟨hx, hy, h⟩
  · obtain ⟨t2, found⟩ := s
    have i2 : found.length ≤ m := i2
    have i1 : GoodB n found := i1
    simp only at i3
    have ht2 : TpOk (b + 1000) t2 := i3.mono (by omega)
    refine wp_bind (Wp.mono (K := fun p : Tp × List (Int × Int) => GoodB n p.2 ∧ p.2.length ≤ 300 ∧ TpOk (b + 15000) p.1) ?_ ?_)
    · refine wp_bind (Wp.mono (K := fun p : Bool × Tp => (p.1 = true → 2 ≤ n) ∧ TpOk (b + 1001) p.2) ?_ ?_)
      · refine wp_ite (fun h => ?_) fun _ => wp_some ⟨(fun z => by cases z), ht2.mono (by omega)⟩
        have h : 2 ≤ n := by have := of_decide_eq_true h; omega
        exact draw_wp ht2 (by omega) (by omega) (by omega) fun r t3 _ _ ht3 => wp_some ⟨fun _ => h, ht3.mono (by omega)⟩
      rintro ⟨tt, t3⟩ ⟨h2, ht3⟩
      simp only at h2 ht3
      refine wp_ite (fun h => ?_) fun _ => wp_some ⟨i1, by show found.length ≤ 300; omega, ht3.mono (by omega)⟩
      have h2 := h2 h
      refine wp_lrg (by omega) (by omega) (by omega) (by omega) ?_
      have er : rngI 1 ((n : Int) + 1 - 1).toNat = natI (List.range' 1 n) := by
        rw [show ((n : Int) + 1 - 1).toNat = n by omega, rngI1]
      rw [er]
      refine shuffled_wp ht3 (by omega) (by simp; omega) fun cuts t4 pm ht4 => ?_
      have cl : cuts.length = n := by have := pm.length_eq; simpa using this
      have cnd : (cuts.map Int.natAbs).Nodup := by
        refine (List.Nodup.perm ?_ (pm.map Int.natAbs).symm)
        unfold natI
        rw [List.map_map]
        have : (Int.natAbs ∘ fun i : Nat => (i : Int)) = id := by funext i; simp
        have e2 : (List.range' 1 n).map (Int.natAbs ∘ fun i : Nat => (i : Int)) = List.range' 1 n := by rw [this, List.map_id]
        rw [e2]; exact List.nodup_range'
      have cs : ∀ c, c ∈ cuts → 1 ≤ c ∧ c ≤ (n : Int) := fun c hc => by
        have := pm.subset hc
        unfold natI at this
        obtain ⟨i, hi, rfl⟩ := List.mem_map.mp this
        have := List.mem_range'_1.mp hi
        omega
      refine draw_wp ht4 (by omega) (by omega) (by omega) fun r7 t5 p0 p1 ht5 => ?_
      have ec : cutL cuts none (some (2 + r7)) = cuts.take (2 + r7).toNat := by
        have e : 2 + r7 = (((2 + r7).toNat : Nat) : Int) := by omega
        rw [e, cut_to, Int.toNat_natCast]
      show Wp ((cmapS _ (cutL cuts none (some (2 + r7))) t5).bind _) _
      rw [ec]
      have tl : (cuts.take (2 + r7).toNat).length = (2 + r7).toNat := by rw [List.length_take, cl]; omega
      refine wp_cmapS (by omega) (fun L as s => ∃ dn, cuts.take (2 + r7).toNat = dn ++ L ∧ as.map Int.natAbs = dn.map Int.natAbs ∧ TpOk (b + 11002 + as.length) s) ⟨[], rfl, rfl, ht5.mono (by simp; omega)⟩ (fun c L as s ⟨dn, j1, j2, j3⟩ => ?_) fun ys t6 ⟨dn, j1, j2, j3⟩ => ?_
      · have hc := cs c (List.mem_of_mem_take (i := (2 + r7).toNat) (by rw [j1]; simp))
        have hal : as.length ≤ 100 := by
          have h1 := congrArg List.length j1
          have h2 := congrArg List.length j2
          rw [tl, List.length_append] at h1
          rw [List.length_map, List.length_map] at h2
          omega
        refine one_or j3 (by omega) fun e t7 he ht7 => ?_
        refine wp_guard (show CMul c e from .inr (by omega)) (wp_some ⟨dn ++ [c], by rw [j1]; simp, ?_, ht7.mono (by simp; omega)⟩)
        rw [List.map_append, List.map_append, j2]
        congr 1
        show [(c * e).natAbs] = [c.natAbs]
        rcases he with rfl | rfl <;> simp
      · have j1 : cuts.take (2 + r7).toNat = dn := by simpa using j1
        rw [← j1] at j2
        have yl : ys.length = (2 + r7).toNat := by
          have := congrArg List.length j2
          rw [List.length_map, List.length_map, tl] at this
          exact this
        have ynd : (ys.map Int.natAbs).Nodup := by
          rw [j2, List.map_take]
          exact List.Sublist.nodup (List.take_sublist _ _) cnd
        have ysd : ∀ x, x ∈ ys → IsSide n x := fun x hx => by
          have : x.natAbs ∈ (cuts.take (2 + r7).toNat).map Int.natAbs := by rw [← j2]; exact List.mem_map_of_mem hx
          obtain ⟨c, hc, e⟩ := List.mem_map.mp this
          have := cs c (List.mem_of_mem_take hc)
          unfold IsSide
          omega
        refine wp_rng1 rfl (by omega) ?_
        have one : ∀ k : Int, k ∈ natI (List.range ys.length) → ∃ p, ((atI ys k).bind fun x => (atI ys (k - 1)).bind fun x1 => some (x, (0 - x1))) = some p ∧ (IsSide n p.1 ∧ IsSide n p.2 ∧ p.1.natAbs ≠ p.2.natAbs) := fun k hk => by
          unfold natI at hk
          obtain ⟨d, hd, rfl⟩ := List.mem_map.mp hk
          have hd := List.mem_range.mp hd
          obtain ⟨j, x1, g1, g2, g3⟩ := prev_at hd (by omega)
          have g0 : ys[d]? = some (ys[d]'hd) := List.getElem?_eq_getElem hd
          refine ⟨(ys[d]'hd, 0 - x1), by rw [at_nat g0, bsome, g3, bsome], ysd _ (List.mem_of_getElem? g0), ?_, fun e => ?_⟩
          · rw [Int.zero_sub]; exact (ysd _ (List.mem_of_getElem? g2)).neg
          · have e : (ys[d]'hd).natAbs = x1.natAbs := by rw [e]; simp
            have hj := (List.getElem?_eq_some_iff.mp g2).1
            have k1 : (ys.map Int.natAbs)[d]? = some x1.natAbs := by rw [List.getElem?_map, g0, ← e]; rfl
            have k2 : (ys.map Int.natAbs)[j]? = some x1.natAbs := by rw [List.getElem?_map, g2]; rfl
            have := (List.getElem?_inj (by rw [List.length_map]; exact hd) ynd).mp (k1.trans k2.symm)
            omega
        refine wp_cmapP (fun k => ((atI ys k).bind fun x => (atI ys (k - 1)).bind fun x1 => some (x, (0 - x1))).getD (0, 0)) (by simp; omega) (fun k hk => ?_) ?_
        · obtain ⟨p, e, _⟩ := one k hk
          rw [e]; rfl
        · refine wp_cat (by simp; omega) (wp_some ⟨i1.app fun p hp => ?_, by simp; omega, j3.mono (by have := congrArg List.length j2; rw [List.length_map, List.length_map, tl] at this; omega)⟩)
          obtain ⟨k, hk, rfl⟩ := List.mem_map.mp hp
          obtain ⟨p, e, g⟩ := one k hk
          rw [e]; exact g
    rintro ⟨t8, found2⟩ ⟨g1, g2, ht8⟩
    simp only at g1 g2 ht8
    refine shuffled_wp ht8 (by omega) (by omega) fun l t9 pm ht9 => wp_some (q l t9 (fun p hp => g1 p (pm.subset hp)) (by rw [pm.length_eq]; exact g2) (ht9.mono (by omega)))
end
section
variable {b : Int} {t : Tp} {β : Type} {K : β → Prop} {n m : Nat} {r : List Nat} {x : Dat} {many count : Int}
def oth (g : ((List Int) × Int × Int) → Dat → Int → Int → Option (Dat × ((List Int) × Int × Int))) (tape : ((List Int) × Int × Int)) (thing : Dat) (many : Int) (count : Int) : Option (Dat × ((List Int) × Int × Int)) :=
  (tyA thing "tuple").bind fun b =>
  (if (!b) = true then some (true, tape) else (guardO (cmpD (eD thing) = true ∧ cmpD (eD (inD (eT eN) (fzT fzN) [])) = true)).bind fun _ =>
  (if (eqA thing (inD (eT eN) (fzT fzN) [])) = true then some (true, tape) else (m__law_draw tape 4).bind fun (r, tape1) =>
  some ((decide (r = 0)), tape1)).bind fun (t, tape2) =>
  some (t, tape2)).bind fun (t1, tape3) =>
  if t1 = true then
  (lrg 0 count).bind fun r2 =>
  (catO [(inD D.int fzI 0), (inD D.int fzI 1), (inD D.int fzI (-1)), (inD D.int fzI count), (inD D.int fzI (count - 1)), (inD D.int fzI (0 - many)), (inD D.bl fzB true), (inD D.bl fzB false), (inD eN fzN ()), (inD D.str fzS ("0" : Str)), (inD (eT eN) (fzT fzN) []), (inD (eL false eN) (fzL fzN) []), (inD (eT D.int) (fzT fzI) [0]), (inD D.int fzI 1000000000000000000000000000000)] (List.map (inD D.int fzI) (cutL r2 none (some 9)))).bind fun zs =>
  (m__law_pick tape3 zs).bind fun (r3, tape4) =>
  some (r3, tape4)
  else
  (lenA thing).bind fun n =>
  (m__law_draw tape3 n).bind fun (r4, tape5) =>
  (asT thing).bind fun x =>
  (asT thing).bind fun x1 =>
  (atI x1 r4).bind fun x2 =>
  (g tape5 x2 many count).bind fun (r5, tape6) =>
  (catO (cutL x none (some r4)) [r5]).bind fun zs1 =>
  (asT thing).bind fun x3 =>
  (catO zs1 (cutL x3 (some (r4 + 1)) none)).bind fun zs2 =>
  (asT thing).bind fun x4 =>
  (asT thing).bind fun x5 =>
  (catO x4 (cutL x5 (some r4) (some (r4 + 1)))).bind fun zs3 =>
  (asT thing).bind fun x6 =>
  (asT thing).bind fun x7 =>
  (catO (cutL x6 none (some r4)) (cutL x7 (some (r4 + 1)) none)).bind fun zs4 =>
  (asT thing).bind fun x8 =>
  (m__law_pick tape6 [(inD (eT eD) (fzT fzD) zs2), (inD (eT eD) (fzT fzD) zs2), (inD (eT eD) (fzT fzD) zs2), (inD (eT eD) (fzT fzD) zs3), (inD (eT eD) (fzT fzD) zs4), (inD (eL false eD) (fzL fzD) zs2), (inD (eT eD) (fzT fzD) x8.reverse)]).bind fun (r6, tape7) =>
  some (r6, tape7)
theorem cut_take {α : Type} (xs : List α) {k : Nat} (hk : k ≤ xs.length) : cutL xs none (some (k : Int)) = xs.take k := by
  unfold cutL
  rw [HT.sIx_nat, HT.sIx_none, List.drop_zero, Nat.sub_zero, Nat.min_eq_left hk]
theorem cut_len {α : Type} {xs : List α} {lo hi : Option Int} : (cutL xs lo hi).length ≤ xs.length := by
  unfold cutL
  simp only [List.length_drop, List.length_take]
  omega
theorem eq_nil {ys : List Dat} {h2 : Fz (eT eN) (eT eN)} (e : eD x = eT eD ys) : eqA x (inD (eT eN) h2 []) = ys.isEmpty := by
  unfold eqA
  rw [e]
  show PyData.eqv (D.tup (ys.map eD)).py (D.tup []).py = _
  rw [D.py, D.py]
  cases ys with
  | nil => simp [pyL, PyData.eqv, PyData.eqvAll]
  | cons a r => simp [pyL, PyData.eqv, PyData.eqvAll]
theorem cmp_nil {h2 : Fz (eT eN) (eT eN)} : cmpD (eD (inD (eT eN) h2 [])) = true := by
  show cmpD (D.tup []) = true
  decide +kernel
theorem row1 {ys : List Dat} {h1 : Fz (eT eD) (eT eD)} (hl : ys.length ≤ n) (hy : ∀ y, y ∈ ys → PlL r y) : PlL (n :: r) (inD (eT eD) h1 ys) := .inr ⟨ys, .inl rfl, hl, hy⟩
/-- the odd things -/
theorem odd_wp {f : Dat × Tp → Option β} (ht : TpOk b t) (hb : b ≤ 1000000000 - 100) (hm : 0 ≤ many ∧ many ≤ 60) (hc : 0 ≤ count ∧ count ≤ 1000)
    (q : ∀ a t', PlL (incL r) a → TpOk (b + 1) t' → Wp (f (a, t')) K) : Wp ((lrg 0 count).bind fun r2 =>
  (catO [(inD D.int fzI 0), (inD D.int fzI 1), (inD D.int fzI (-1)), (inD D.int fzI count), (inD D.int fzI (count - 1)), (inD D.int fzI (0 - many)), (inD D.bl fzB true), (inD D.bl fzB false), (inD eN fzN ()), (inD D.str fzS ("0" : Str)), (inD (eT eN) (fzT fzN) []), (inD (eL false eN) (fzL fzN) []), (inD (eT D.int) (fzT fzI) [0]), (inD D.int fzI 1000000000000000000000000000000)] (List.map (inD D.int fzI) (cutL r2 none (some 9)))).bind fun zs =>
  (m__law_pick t zs).bind fun (r3, tape4) => f (r3, tape4)) K := by
  refine wp_lrg (by omega) (by omega) (by omega) (by omega) ?_
  rw [Int.sub_zero]
  have cl : (cutL (rngI 0 count.toNat) none (some 9)).length ≤ 1000 := Nat.le_trans cut_len (by unfold rngI; rw [List.length_map, List.length_range]; omega)
  refine wp_cat (by rw [List.length_map]; simp; omega) ?_
  refine pick_wp ht (by omega) (by simp) (by rw [List.length_append, List.length_map]; simp; omega) fun a t' ha ht' => q a t' ?_ ht'
  rcases List.mem_append.mp ha with ha | ha
  · have nl : ∀ {h : Fz (eT eN) (eT eN)}, PlL (incL r) (inD (eT eN) h []) := small_in (ys := []) (.inl rfl) (by simp) (fun y hy => by cases hy)
    have nl2 : ∀ {h : Fz (eL false eN) (eL false eN)}, PlL (incL r) (inD (eL false eN) h []) := small_in (ys := []) (.inr rfl) (by simp) (fun y hy => by cases hy)
    have on : ∀ {h : Fz (eT D.int) (eT D.int)}, PlL (incL r) (inD (eT D.int) h [0]) := small_in (ys := [inD D.int fzI 0]) (.inl rfl) (by simp) (fun y hy => by rw [List.mem_singleton.mp hy]; show (0 : Int).natAbs < 10 ^ 32; decide)
    simp only [List.mem_cons, List.not_mem_nil, or_false] at ha
    rcases ha with rfl | rfl | rfl | rfl | rfl | rfl | rfl | rfl | rfl | rfl | rfl | rfl | rfl | rfl
    · exact PlL.leaf (show (0 : Int).natAbs < 10 ^ 32 by decide)
    · exact PlL.leaf (show (1 : Int).natAbs < 10 ^ 32 by decide)
    · exact PlL.leaf (show (-1 : Int).natAbs < 10 ^ 32 by decide)
    · exact PlL.leaf (show count.natAbs < 10 ^ 32 by omega)
    · exact PlL.leaf (show (count - 1).natAbs < 10 ^ 32 by omega)
    · exact PlL.leaf (show (0 - many).natAbs < 10 ^ 32 by omega)
    · exact PlL.leaf trivial
    · exact PlL.leaf trivial
    · exact PlL.leaf trivial
    · exact PlL.leaf (.inr (.inr (.inr (.inr rfl))))
    · exact nl
    · exact nl2
    · exact on
    · exact PlL.leaf (show (1000000000000000000000000000000 : Int).natAbs < 10 ^ 32 by decide)
  · obtain ⟨i, hi, rfl⟩ := List.mem_map.mp ha
    have hi := cut_sub hi
    unfold rngI at hi
    obtain ⟨c, hc', rfl⟩ := List.mem_map.mp hi
    have := List.mem_range.mp hc'
    exact PlL.leaf (show ((0 : Int) + (c : Int)).natAbs < 10 ^ 32 by omega)
/-- what another thing is made -/
abbrev OthOk (g : Tp → Dat → Int → Int → Option (Dat × Tp)) (many count : Int) (r : List Nat) : Prop := ∀ (b : Int) (t : Tp) (y : Dat), TpOk b t → b + 10 * (r.length : Int) ≤ 999000000 → PlL r y → Wp (g t y many count) fun p => PlL (incL r) p.1 ∧ TpOk (b + 10 * (r.length + 1)) p.2
theorem oth_leaf {g : Tp → Dat → Int → Int → Option (Dat × Tp)} (hm : 0 ≤ many ∧ many ≤ 60) (hc : 0 ≤ count ∧ count ≤ 1000) : OthOk (oth g) many count [] := fun b t y ht hb py => by
  simp only [List.length_nil] at hb
  have nt : tyA y "tuple" = some false := by
    cases py.kd with
    | non g => exact (ty_non g).1
    | bl v g => exact (ty_bl g).1
    | int i g _ => exact (ty_int g).1
    | str s g _ => exact (ty_str g).1
    | lst ys g => exact (ty_lst g).1
    | tup ys g => exact (plL_nil_tup py g).elim
  unfold oth
  rw [nt, bsome, if_pos (show (!false) = true from rfl), bsome]
  show Wp (if true = true then _ else _) _
  rw [if_pos rfl]
  exact odd_wp (r := []) ht (by omega) hm hc fun a t' pa ht' => wp_some ⟨pa, ht'.mono (by show b + 1 ≤ b + 10 * (((0 : Nat) : Int) + 1); omega)⟩
theorem oth_row {g : Tp → Dat → Int → Int → Option (Dat × Tp)} (hm : 0 ≤ many ∧ many ≤ 60) (hc : 0 ≤ count ∧ count ≤ 1000) (hn : n ≤ 1000) (hr : r.length ≤ 50) (hg : OthOk g many count r) : OthOk (oth g) many count (n :: r) := fun b t y ht hb py => by
  simp only [List.length_cons] at hb
  have odd : ∀ {t' : Tp}, TpOk (b + 1) t' → Wp (if true = true then (lrg 0 count).bind fun r2 =>
  (catO [(inD D.int fzI 0), (inD D.int fzI 1), (inD D.int fzI (-1)), (inD D.int fzI count), (inD D.int fzI (count - 1)), (inD D.int fzI (0 - many)), (inD D.bl fzB true), (inD D.bl fzB false), (inD eN fzN ()), (inD D.str fzS ("0" : Str)), (inD (eT eN) (fzT fzN) []), (inD (eL false eN) (fzL fzN) []), (inD (eT D.int) (fzT fzI) [0]), (inD D.int fzI 1000000000000000000000000000000)] (List.map (inD D.int fzI) (cutL r2 none (some 9)))).bind fun zs =>
  (m__law_pick t' zs).bind fun (r3, tape4) => some (r3, tape4) else none) fun p => PlL (incL (n :: r)) p.1 ∧ TpOk (b + 10 * ((n :: r).length + 1)) p.2 := fun ht' => by
    rw [if_pos rfl]
    exact odd_wp (r := n :: r) ht' (by omega) hm hc fun a t' pa ht' => wp_some ⟨pa, ht'.mono (by simp only [List.length_cons]; omega)⟩
  unfold oth
  by_cases tp : ∃ ys, eD y = eT eD ys
  rotate_left
  · have nt : tyA y "tuple" = some false := by
      cases py.kd with
      | non g => exact (ty_non g).1
      | bl v g => exact (ty_bl g).1
      | int i g _ => exact (ty_int g).1
      | str s g _ => exact (ty_str g).1
      | lst ys g => exact (ty_lst g).1
      | tup ys g => exact absurd ⟨ys, g⟩ tp
    rw [nt, bsome, if_pos (show (!false) = true from rfl), bsome]
    have := odd (ht.mono (by omega))
    rw [if_pos rfl] at this
    show Wp (if true = true then _ else _) _
    rw [if_pos rfl]
    exact this
  obtain ⟨ys, g⟩ := tp
  have cy : cmpD (eD y) = true := plL_cmp py (by simp only [List.length_cons]; omega)
  obtain ⟨hl, hy⟩ := plL_tup py g
  have aT := asT_is g
  rw [(ty_tup g).1, bsome, if_neg (by decide), guard_pos ⟨cy, cmp_nil⟩, bsome, eq_nil g]
  refine wp_bind (Wp.mono (K := fun p : Bool × Tp => (p.1 = false → ys ≠ []) ∧ TpOk (b + 1) p.2) ?_ ?_)
  · refine wp_bind (Wp.mono (K := fun p : Bool × Tp => (p.1 = false → ys ≠ []) ∧ TpOk (b + 1) p.2) ?_ ?_)
    · refine wp_ite (fun _ => wp_some ⟨fun h => (by cases h), ht.mono (by omega)⟩) fun h => ?_
      exact draw_wp ht (by omega) (by omega) (by omega) fun a t' _ _ ht' => wp_some ⟨fun _ e => h (by rw [e]; rfl), ht'⟩
    · rintro ⟨d, t'⟩ h
      exact wp_some h
  rintro ⟨d, t1⟩ ⟨h1, ht1⟩
  simp only at h1 ht1
  cases d with
  | true =>
    have := odd ht1
    rw [if_pos rfl] at this
    show Wp (if true = true then _ else _) _
    rw [if_pos rfl]
    exact this
  | false =>
    have ne := h1 rfl
    have l0 : 0 < ys.length := by
      cases ys with
      | nil => exact absurd rfl ne
      | cons => simp
    show Wp (if false = true then _ else _) _
    rw [if_neg (by decide), lenA_tup g, bsome]
    refine draw_wp ht1 (by omega) (by omega) (by omega) fun i t2 i0 i1 ht2 => ?_
    obtain ⟨j, rfl⟩ := Int.eq_ofNat_of_zero_le i0
    have hj : j < ys.length := by omega
    rw [aT]
    show Wp ((some ys).bind _) _
    rw [bsome, bsome]
    refine wp_step (at_nat (List.getElem?_eq_getElem hj)) ?_
    refine wp_bind ((hg (b + 2) t2 ys[j] (ht2.mono (by omega)) (by omega) (hy _ (List.getElem_mem hj))).mono ?_)
    rintro ⟨a, t3⟩ ⟨pa, ht3⟩
    simp only at pa ht3
    have e1 : cutL ys none (some (j : Int)) = ys.take j := cut_take ys (by omega)
    have e2 : cutL ys (some ((j : Int) + 1)) none = ys.drop (j + 1) := by rw [show (j : Int) + 1 = ((j + 1 : Nat) : Int) by omega]; exact cut_from _ _
    have e3 : (cutL ys (some (j : Int)) (some ((j : Int) + 1))).length ≤ 1 := by
      unfold cutL
      rw [show ((j : Int) + 1) = ((j + 1 : Nat) : Int) by omega, HT.sIx_nat, HT.sIx_nat]
      simp only [List.length_drop, List.length_take]
      omega
    have up : ∀ y, y ∈ ys → PlL (incL r) y := fun y hy' => inc_leaf1 (hy y hy')
    show Wp ((catO _ _).bind _) _
    rw [e1]
    refine wp_cat (by simp; omega) ?_
    rw [bsome, e2]
    refine wp_cat (by simp; omega) ?_
    rw [bsome, bsome]
    refine wp_cat (by omega) ?_
    rw [bsome, bsome, e1, e2]
    refine wp_cat (by simp; omega) ?_
    rw [bsome]
    have p1 : ∀ z, z ∈ ys.take j ++ [a] ++ ys.drop (j + 1) → PlL (incL r) z := fun z hz => by
      rcases List.mem_append.mp hz with hz | hz
      · rcases List.mem_append.mp hz with hz | hz
        · exact up z (List.mem_of_mem_take hz)
        · rw [List.mem_singleton.mp hz]; exact pa
      · exact up z (List.mem_of_mem_drop hz)
    have n1 : (ys.take j ++ [a] ++ ys.drop (j + 1)).length ≤ n + 1 := by simp; omega
    have p2 : ∀ z, z ∈ ys ++ cutL ys (some (j : Int)) (some ((j : Int) + 1)) → PlL (incL r) z := fun z hz => (List.mem_append.mp hz).elim (up z) fun hz => up z (cut_sub hz)
    have p3 : ∀ z, z ∈ ys.take j ++ ys.drop (j + 1) → PlL (incL r) z := fun z hz => (List.mem_append.mp hz).elim (fun hz => up z (List.mem_of_mem_take hz)) fun hz => up z (List.mem_of_mem_drop hz)
    generalize ys.take j ++ [a] ++ ys.drop (j + 1) = zs at p1 n1
    refine pick_wp ht3 (by omega) (by simp) (by simp) fun v t4 hv ht4 => wp_some ⟨?_, ht4.mono (by simp only [List.length_cons]; omega)⟩
    show PlL ((n + 1) :: incL r) v
    simp only [List.mem_cons, List.not_mem_nil, or_false] at hv
    rcases hv with rfl | rfl | rfl | rfl | rfl | rfl | rfl
    · exact row1 n1 p1
    · exact row1 n1 p1
    · exact row1 n1 p1
    · exact row1 (by rw [List.length_append]; omega) p2
    · exact row1 (by simp; omega) p3
    · exact .inr ⟨zs, .inr rfl, n1, p1⟩
    · exact row1 (by simp; omega) fun z hz => up z (List.mem_reverse.mp hz)
/-- one step of a road -/
def stp (bans : List (Int × Int)) (y : Dat) (s : Int) : Option Int := match asI y with
  | none => none
  | some j => if 0 ≤ j ∧ j < (bans.length : Int) then match bans[j.toNat]? with
      | none => none
      | some p => if s = p.1 then some (-p.2) else if s = p.2 then some (-p.1) else none
    else none
def endE (bans : List (Int × Int)) : Int → List Dat → Option Int
  | s, [] => some s
  | s, y :: r => (stp bans y s).bind fun e => endE bans e r
variable {bans : List (Int × Int)}
theorem asI_no {y : Dat} (h : ∀ i, eD y ≠ .int i) : asI y = none := by
  cases q : asI y with
  | none => rfl
  | some i => exact absurd (asI_e q) (h i)
theorem stp_no {y : Dat} {s : Int} (h : asI y = none) : stp bans y s = none := by unfold stp; rw [h]
theorem stp_out {y : Dat} {s j : Int} (h : asI y = some j) (hj : ¬ (0 ≤ j ∧ j < (bans.length : Int))) : stp bans y s = none := by
  unfold stp; rw [h]; exact if_neg hj
theorem stp_in {y : Dat} {s : Int} {i : Nat} (h : asI y = some (i : Int)) (hi : i < bans.length) : stp bans y s = if s = bans[i].1 then some (-bans[i].2) else if s = bans[i].2 then some (-bans[i].1) else none := by
  have e0 : ((i : Int)).toNat = i := by omega
  have e1 : bans[((i : Int)).toNat]? = some bans[i] := by rw [e0]; exact List.getElem?_eq_getElem hi
  unfold stp
  rw [h]
  show (if 0 ≤ (i : Int) ∧ (i : Int) < (bans.length : Int) then _ else _) = _
  rw [if_pos ⟨by omega, by omega⟩, e1]
theorem whole_eq {y : Dat} (h : Kd y) : m_is_whole y = some (asI y).isSome := by
  unfold m_is_whole
  cases h with
  | int i g _ => rw [(ty_int g).2.2.1, bsome, if_pos rfl, (ty_int g).2.2.2, bsome, bsome, asI_is g]; rfl
  | bl v g => rw [(ty_bl g).2.2.1, bsome, if_pos rfl, (ty_bl g).2.2.2, bsome, bsome, asI_no fun i e => by rw [g] at e; cases e]; rfl
  | non g => rw [(ty_non g).2.2.1, bsome, if_neg (by decide), bsome, asI_no fun i e => by rw [g] at e; cases e]; rfl
  | str s g _ => rw [(ty_str g).2.2.1, bsome, if_neg (by decide), bsome, asI_no fun i e => by rw [g] at e; cases e]; rfl
  | tup ys g => rw [(ty_tup g).2.2.1, bsome, if_neg (by decide), bsome, asI_no fun i e => by rw [g] at e; cases e]; rfl
  | lst ys g => rw [(ty_lst g).2.2.1, bsome, if_neg (by decide), bsome, asI_no fun i e => by rw [g] at e; cases e]; rfl
theorem loop_end {ρ : Type} {f : Dat → Int → Option (Flow ρ Int)} {z : ρ} : ∀ {ys : List Dat} {s : Int}, (∀ y, y ∈ ys → ∀ s, f y s = some (match stp bans y s with
    | some e => .go e
    | none => .ret z)) → loopF f ys s = some (match endE bans s ys with
    | some e => .go e
    | none => .ret z)
  | [], s, _ => rfl
  | y :: r, s, h => by
    show (f y s).bind _ = some (match (stp bans y s).bind fun e => endE bans e r with | some e => _ | none => _)
    rw [h y List.mem_cons_self s]
    cases stp bans y s with
    | none => rfl
    | some e => exact loop_end fun y hy => h y (List.mem_cons_of_mem _ hy)
def stepE (bans : List (Int × Int)) (number : Dat) (side1 : Int) : Option (Flow (Option Int) Int) := (m_is_whole number).bind fun r =>
  (if (!r) = true then some true else (asI number).bind fun x1 =>
  (if (!((decide (0 ≤ x1)) && (decide (x1 < (bans.length : Int))))) = true then some true else (asI number).bind fun x2 =>
  (atI bans x2).bind fun x3 =>
  some (!decide (side1 ∈ [x3.1, x3.2]))).bind fun t =>
  some t).bind fun t1 =>
  if t1 = true then
  some (.ret none)
  else
  (asI number).bind fun x4 =>
  (atI bans x4).bind fun x5 =>
  some (.go (if (decide (side1 = x5.1)) = true then (-x5.2) else (-x5.1)))
def stepL (bans : List (Int × Int)) (number : Dat) (here : Int) : Option (Flow Int Int) := (tyA number "int").bind fun b =>
  (if (!b) = true then some true else (tyA number "bool").bind fun b1 =>
  (if b1 = true then some true else (asI number).bind fun x1 =>
  some (!((decide (0 ≤ x1)) && (decide (x1 < (bans.length : Int)))))).bind fun t =>
  some t).bind fun t1 =>
  if t1 = true then
  some (.ret 0)
  else
  (asI number).bind fun x2 =>
  (atI bans x2).bind fun x3 =>
  if (!decide (here ∈ [x3.1, x3.2])) = true then
  some (.ret 0)
  else
  (asI number).bind fun x4 =>
  (atI bans x4).bind fun x5 =>
  some (.go (if (decide (here = x5.1)) = true then (0 - x5.2) else (0 - x5.1)))
theorem stepE_eq {y : Dat} {s : Int} (h : Kd y) : stepE bans y s = some (match stp bans y s with
    | some e => .go e
    | none => .ret none) := by
  unfold stepE
  rw [whole_eq h, bsome]
  cases q : asI y with
  | none => rw [stp_no q]; rfl
  | some j =>
    rw [if_neg (show ¬ (!(some j).isSome) = true by simp), bsome]
    by_cases hj : 0 ≤ j ∧ j < (bans.length : Int)
    · rw [if_neg (by simp [hj]), bsome]
      obtain ⟨i, rfl⟩ := Int.eq_ofNat_of_zero_le hj.1
      have hi : i < bans.length := by omega
      rw [stp_in q hi, at_nat (List.getElem?_eq_getElem hi), bsome, bsome]
      by_cases h1 : s = bans[i].1
      · rw [if_pos h1, bsome, if_neg (by simp [h1]), bsome, at_nat (List.getElem?_eq_getElem hi), bsome, if_pos (decide_eq_true h1)]
      · by_cases h2 : s = bans[i].2
        · rw [if_neg h1, if_pos h2, bsome, if_neg (by simp [h2]), bsome, at_nat (List.getElem?_eq_getElem hi), bsome, if_neg (by simpa using h1)]
        · rw [if_neg h1, if_neg h2, bsome, if_pos (by simp [h1, h2])]
    · rw [stp_out q hj, if_pos (by simp only [Bool.not_eq_true', Bool.and_eq_false_iff, decide_eq_false_iff_not]; omega)]; rfl
theorem stepL_eq {y : Dat} {s : Int} (h : Kd y) : stepL bans y s = some (match stp bans y s with
    | some e => .go e
    | none => .ret 0) := by
  unfold stepL
  cases h with
  | non g => rw [stp_no (asI_no fun i e => by rw [g] at e; cases e), (ty_non g).2.2.1]; rfl
  | bl v g => rw [stp_no (asI_no fun i e => by rw [g] at e; cases e), (ty_bl g).2.2.1, bsome, if_neg (by decide), (ty_bl g).2.2.2]; rfl
  | str t g _ => rw [stp_no (asI_no fun i e => by rw [g] at e; cases e), (ty_str g).2.2.1]; rfl
  | tup zs g => rw [stp_no (asI_no fun i e => by rw [g] at e; cases e), (ty_tup g).2.2.1]; rfl
  | lst zs g => rw [stp_no (asI_no fun i e => by rw [g] at e; cases e), (ty_lst g).2.2.1]; rfl
  | int j g _ =>
    rw [(ty_int g).2.2.1, bsome, if_neg (by decide), (ty_int g).2.2.2, bsome, if_neg (by decide), asI_is g, bsome, bsome, bsome]
    by_cases hj : 0 ≤ j ∧ j < (bans.length : Int)
    · rw [if_neg (by simp [hj]), bsome]
      obtain ⟨i, rfl⟩ := Int.eq_ofNat_of_zero_le hj.1
      have hi : i < bans.length := by omega
      rw [stp_in (asI_is g) hi, at_nat (List.getElem?_eq_getElem hi), bsome]
      by_cases h1 : s = bans[i].1
      · rw [if_pos h1, if_neg (by simp [h1]), bsome, at_nat (List.getElem?_eq_getElem hi), bsome, if_pos (decide_eq_true h1), Int.zero_sub]
      · by_cases h2 : s = bans[i].2
        · rw [if_neg h1, if_pos h2, if_neg (by simp [h2]), bsome, at_nat (List.getElem?_eq_getElem hi), bsome, if_neg (by simpa using h1), Int.zero_sub]
        · rw [if_neg h1, if_neg h2, if_pos (by simp [h1, h2])]
    · rw [stp_out (asI_is g) hj, if_pos (by simp only [Bool.not_eq_true', Bool.and_eq_false_iff, decide_eq_false_iff_not]; omega)]
theorem end_eq {ys : List Dat} {s : Int} (e : eD x = eT eD ys) (h : ∀ y, y ∈ ys → Kd y) : m_end_of bans s x = some (endE bans s ys) := by
  unfold m_end_of
  rw [(ty_tup e).1, bsome, if_neg (by decide), asT_is e, bsome]
  refine Eq.trans (congrArg (fun z => Option.bind z _) (loop_end (f := stepE bans) fun y hy s => stepE_eq (h y hy))) ?_
  rw [bsome]
  cases endE bans s ys <;> rfl
theorem lend_eq {ys : List Dat} {s : Int} (e : eD x = eT eD ys) (h : ∀ y, y ∈ ys → Kd y) : m__law_road_end bans s x = some ((endE bans s ys).getD 0) := by
  unfold m__law_road_end
  rw [asT_is e, bsome]
  refine Eq.trans (congrArg (fun z => Option.bind z _) (loop_end (f := stepL bans) fun y hy s => stepL_eq (h y hy))) ?_
  rw [bsome]
  cases endE bans s ys <;> rfl
/-- whether it is a side -/
def sdB (m : Int) (y : Dat) : Bool := match asI y with
  | some i => decide (1 ≤ absI i) && decide (absI i ≤ m)
  | none => false
theorem sdB_no {y : Dat} {q : Int} (h : asI y = none) : sdB q y = false := by unfold sdB; rw [h]
theorem sdB_is {y : Dat} {q i : Int} (h : asI y = some i) : sdB q y = (decide (1 ≤ absI i) && decide (absI i ≤ q)) := by unfold sdB; rw [h]
theorem side_eq {y : Dat} {q : Int} (h : Kd y) : m_is_side q y = some (sdB q y) := by
  unfold m_is_side sdB
  rw [whole_eq h, bsome]
  cases e : asI y with
  | none => rfl
  | some i => rfl
/-- where a road's end lies -/
def endX (bans : List (Int × Int)) (s : Int) (y : Dat) : Option Int := match asT y with
  | some ys => endE bans s ys
  | none => none
theorem asT_no {y : Dat} (h : ∀ ys : List Dat, eD y ≠ eT eD ys) : asT y = none := by
  cases q : asT y with
  | none => rfl
  | some i => exact absurd (asT_e q) (h i)
theorem plL_ys {ys : List Dat} (h : PlL r x) (e : eD x = eT eD ys) : ∀ y, y ∈ ys → Kd y := by
  cases r with
  | nil => exact (plL_nil_tup h e).elim
  | cons n r => exact fun y hy => ((plL_tup h e).2 y hy).kd
theorem tupOr (h : PlL r x) : (∃ ys : List Dat, eD x = eT eD ys ∧ ∀ y, y ∈ ys → Kd y) ∨ (tyA x "tuple" = some false ∧ asT x = none) := by
  cases h.kd with
  | non g => exact .inr ⟨(ty_non g).1, asT_no fun ys e => by rw [g] at e; cases e⟩
  | bl v g => exact .inr ⟨(ty_bl g).1, asT_no fun ys e => by rw [g] at e; cases e⟩
  | int i g _ => exact .inr ⟨(ty_int g).1, asT_no fun ys e => by rw [g] at e; cases e⟩
  | str s g _ => exact .inr ⟨(ty_str g).1, asT_no fun ys e => by rw [g] at e; cases e⟩
  | lst ys g => exact .inr ⟨(ty_lst g).1, asT_no fun zs e => by rw [g] at e; cases e⟩
  | tup ys g => exact .inl ⟨ys, g, plL_ys h g⟩
theorem endX_eq {s : Int} (h : PlL r x) : m_end_of bans s x = some (endX bans s x) := by
  unfold endX
  rcases tupOr h with ⟨ys, e, hy⟩ | ⟨e1, e2⟩
  · rw [end_eq e hy, asT_is e]
  · unfold m_end_of
    rw [e1, e2, bsome, if_pos (show (!false) = true from rfl)]
theorem eq_int {y : Dat} {i j : Int} (e : eD y = .int i) {h : Fz D.int D.int} : eqA (inD D.int h j) y = decide (j = i) := by
  unfold eqA
  rw [e]
  rfl
theorem eq_oint {y : Dat} {i : Int} {o : Option Int} (e : eD y = .int i) {h : Fz (eO D.int) (eO D.int)} : eqA (inD (eO D.int) h o) y = decide (o = some i) := by
  unfold eqA
  rw [e]
  cases o with
  | none => rfl
  | some j =>
    show decide (j = i) = _
    by_cases q : j = i
    · rw [q]; simp
    · rw [decide_eq_false q, decide_eq_false fun z => q (Option.some.inj z)]
theorem cmp_oint {o : Option Int} {h : Fz (eO D.int) (eO D.int)} : cmpD (eD (inD (eO D.int) h o)) = true := by
  cases o with
  | none => show cmpD D.non = true; decide +kernel
  | some i => exact (show cmpD (D.int i) = true from rfl)
theorem cmp_int {i : Int} {h : Fz D.int D.int} : cmpD (eD (inD D.int h i)) = true := (show cmpD (D.int i) = true from rfl)
/-- the two looks are one -/
theorem due_eq {q : Int} (h : PlL r x) (hr : r.length ≤ 50) : ∃ b, m_is_nothing q bans x = some b ∧ m__law_due q bans x = some b := by
  rcases tupOr h with ⟨ys, g, hk⟩ | ⟨e1, e2⟩
  rotate_left
  · refine ⟨false, ?_, ?_⟩
    · unfold m_is_nothing
      rw [e1, bsome, if_pos (show (!false) = true from rfl), bsome, if_pos rfl]
    · unfold m__law_due
      rw [e1, bsome, if_pos (show (!false) = true from rfl), bsome, if_pos rfl]
  obtain ⟨n', r', er⟩ : ∃ n' r', r = n' :: r' := by
    cases r with
    | nil => exact (plL_nil_tup h g).elim
    | cons n' r' => exact ⟨n', r', rfl⟩
  subst er
  have hp := (plL_tup h g).2
  have lr : r'.length ≤ 50 := by simp only [List.length_cons] at hr; omega
  by_cases hl : ys.length = 3
  rotate_left
  · have ne : (!decide ((ys.length : Int) = 3)) = true := by simp; omega
    refine ⟨false, ?_, ?_⟩
    · unfold m_is_nothing
      rw [(ty_tup g).1, bsome, if_neg (by decide), lenA_tup g, bsome, if_pos ne, bsome, bsome, if_pos rfl]
    · unfold m__law_due
      rw [(ty_tup g).1, bsome, if_neg (by decide), lenA_tup g, bsome, if_pos ne, bsome, bsome, if_pos rfl]
  match ys, hl, g, hk, hp with
  | [y0, y1, y2], _, g, hk, hp =>
    have a0 : atI [y0, y1, y2] 0 = some y0 := at_nat (j := 0) rfl
    have a1 : atI [y0, y1, y2] 1 = some y1 := at_nat (j := 1) rfl
    have a2 : atI [y0, y1, y2] 2 = some y2 := at_nat (j := 2) rfl
    have k0 : Kd y0 := hk y0 (by simp)
    have p1 : PlL r' y1 := hp y1 (by simp)
    have p2 : PlL r' y2 := hp y2 (by simp)
    have s3 : as3 x = some (y0, y1, y2) := by unfold as3; rw [asT_is g]; rfl
    refine ⟨sdB q y0 && (decide (endX bans ((asI y0).getD 0) y1 = some (-((asI y0).getD 0))) && decide (endX bans (-((asI y0).getD 0)) y2 = some ((asI y0).getD 0))), ?_, ?_⟩
    · unfold m_is_nothing
      rw [(ty_tup g).1, bsome, if_neg (by decide), lenA_tup g, bsome, if_neg (by simp), asT_is g, bsome, a0, bsome, side_eq k0, bsome, bsome, bsome]
      cases q0 : asI y0 with
      | none => rw [sdB_no q0, if_pos (show (!false) = true from rfl), Bool.false_and]
      | some i =>
        cases qs : sdB q y0 with
        | false => rfl
        | true =>
          have ei : eD y0 = .int i := asI_e q0
          rw [if_neg (by decide), s3, bsome]
          show (asI y0).bind _ = _
          rw [q0, bsome]
          show (m_end_of bans i y1).bind _ = _
          rw [endX_eq p1, bsome, bsome, Bool.true_and]
          show (Option.bind (if decide (endX bans i y1 = some (-i)) = true then _ else _) _ : Option Bool) = some (decide (endX bans i y1 = some (-i)) && decide (endX bans (-i) y2 = some i))
          by_cases c1 : endX bans i y1 = some (-i)
          · rw [if_pos (decide_eq_true c1)]
            rw [bsome]
            show (Option.bind (Option.bind (m_end_of bans (-i) y2) _) _) = _
            rw [endX_eq p2, bsome, guard_pos ⟨cmp_oint, by rw [ei]; rfl⟩, bsome, bsome, eq_oint ei, decide_eq_true c1, Bool.true_and]
          · rw [if_neg (by simpa using c1), decide_eq_false c1]; rfl
    · unfold m__law_due
      rw [(ty_tup g).1, bsome, if_neg (by decide), lenA_tup g, bsome, if_neg (by simp), asT_is g, bsome, a1, bsome]
      rcases tupOr p1 with ⟨ys1, g1, hk1⟩ | ⟨e1, e2⟩
      rotate_left
      · have z : endX bans ((asI y0).getD 0) y1 = none := by unfold endX; rw [e2]
        rw [e1, bsome, bsome, bsome, if_pos (show (!false) = true from rfl), z]
        show some false = some (sdB q y0 && (decide (none = some (-((asI y0).getD 0))) && _))
        rw [decide_eq_false (by intro z; cases z), Bool.false_and, Bool.and_false]
      rw [(ty_tup g1).1, bsome, bsome, bsome, if_neg (by decide), bsome, a0, bsome]
      have nos : asI y0 = none → (∃ b, tyA y0 "int" = some b ∧ (b = false ∨ (b = true ∧ tyA y0 "bool" = some true))) → (tyA y0 "int").bind (fun b2 =>
  (if (!b2) = true then some true else (tyA y0 "bool").bind fun b3 =>
  (if b3 = true then some true else (asI y0).bind fun x4 =>
  some (!((decide (1 ≤ (absI x4))) && (decide ((absI x4) ≤ q))))).bind fun t2 =>
  some t2)) = some true := fun _ ⟨b, e1, e2⟩ => by
        rw [e1, bsome]
        rcases e2 with rfl | ⟨rfl, e2⟩
        · rfl
        · rw [if_neg (by decide), e2]; rfl
      cases q0 : asI y0 with
      | none =>
        rw [sdB_no q0, Bool.false_and]
        cases k0 with
        | int i e _ => rw [asI_is e] at q0; cases q0
        | non e => rw [(ty_non e).2.2.1]; rfl
        | str t e _ => rw [(ty_str e).2.2.1]; rfl
        | tup zs e => rw [(ty_tup e).2.2.1]; rfl
        | lst zs e => rw [(ty_lst e).2.2.1]; rfl
        | bl v e => rw [(ty_bl e).2.2.1, bsome, if_neg (by decide), (ty_bl e).2.2.2]; rfl
      | some i =>
        have ei : eD y0 = .int i := asI_e q0
        rw [(ty_int ei).2.2.1, bsome, if_neg (by decide), (ty_int ei).2.2.2, bsome, if_neg (by decide), bsome, bsome, bsome, sdB_is q0]
        by_cases hs : 1 ≤ absI i ∧ absI i ≤ q
        rotate_left
        · have c0 : (decide (1 ≤ absI i) && decide (absI i ≤ q)) = false := by
            rw [Bool.and_eq_false_iff, decide_eq_false_iff_not, decide_eq_false_iff_not]; omega
          rw [c0, if_pos (show (!false) = true from rfl), Bool.false_and]
        have c0 : (decide (1 ≤ absI i) && decide (absI i ≤ q)) = true := by
          rw [Bool.and_eq_true, decide_eq_true_iff, decide_eq_true_iff]; exact hs
        have i0 : i ≠ 0 := fun z => by rw [z] at hs; exact absurd hs.1 (by decide)
        rw [c0, if_neg (by decide), bsome, a2, bsome]
        have gd : ∀ {o : Option Int} {j : Int}, j ≠ 0 → decide (o.getD 0 = j) = decide (o = some j) := fun {o j} hj => by
          cases o with
          | none =>
            show decide (0 = j) = _
            rw [decide_eq_false fun z => hj z.symm, decide_eq_false (by intro z; cases z)]
          | some k =>
            show decide (k = j) = _
            by_cases z : k = j
            · rw [z]; simp
            · rw [decide_eq_false z, decide_eq_false fun w => z (Option.some.inj w)]
        have x1e : endX bans i y1 = endE bans i ys1 := by unfold endX; rw [asT_is g1]
        rcases tupOr p2 with ⟨ys2, g2, hk2⟩ | ⟨e1, e2⟩
        rotate_left
        · have z : endX bans (-i) y2 = none := by unfold endX; rw [e2]
          rw [e1, bsome, if_pos (show (!false) = true from rfl)]
          show some false = some (true && (_ && decide (endX bans (-i) y2 = some i)))
          rw [z]; simp
        have x2e : endX bans (-i) y2 = endE bans (-i) ys2 := by unfold endX; rw [asT_is g2]
        have nA : numA y0 = some i := by unfold numA; rw [ei]; rfl
        rw [(ty_tup g2).1, bsome, if_neg (by decide), bsome, bsome, a1, bsome, lend_eq g1 hk1, bsome, nA, bsome]
        show (Option.bind (if decide ((endE bans i ys1).getD 0 = 0 - i) = true then _ else _) _ : Option Bool) = some (true && (decide (endX bans i y1 = some (-i)) && decide (endX bans (-i) y2 = some i)))
        rw [Int.zero_sub, gd (by omega), x1e, x2e, Bool.true_and]
        by_cases c1 : endE bans i ys1 = some (-i)
        · rw [if_pos (decide_eq_true c1), bsome, bsome, a2, bsome, lend_eq g2 hk2, bsome, guard_pos ⟨cmp_int, by rw [ei]; rfl⟩, bsome, bsome, eq_int ei, gd i0, decide_eq_true c1, Bool.true_and, Int.zero_sub]
        · rw [if_neg (by simpa using c1), decide_eq_false c1]; rfl
/-- the roads the law finds -/
structure RdOk (n c : Nat) (found : List (Int × List Int)) (row : List Int) : Prop where
  keys : dkeys found = row
  nd : row.Nodup
  sd : ∀ u, u ∈ row → IsSide n u
  val : ∀ k v, dGet found k = some v → v.length + 1 ≤ row.length ∧ ∀ i, i ∈ v → 0 ≤ i ∧ i < (c : Int)
theorem RdOk.few {c : Nat} {found : List (Int × List Int)} {row : List Int} (h : RdOk n c found row) : row.length ≤ 2 * n := by
  have := len_le_of_sub h.nd fun t ht => mem_sides.mpr (h.sd t ht)
  rwa [sides_length] at this
theorem roads_wp {f : List (Int × List Int) → Option β} {s : Int} (hn : n ≤ 60) (hs : IsSide n s) (hb : GoodB n bans) (hl : bans.length ≤ 1000)
    (q : ∀ found row, RdOk n bans.length found row → Wp (f found) K) : Wp ((m__law_roads (n : Int) bans s).bind f) K := by
  unfold m__law_roads
  refine wp_bind (wp_bind (Wp.mono (while_wp (I := fun p : List (Int × List Int) × List Int × Int => RdOk n bans.length p.1 p.2.1 ∧ 0 ≤ p.2.2) (Z := fun p => RdOk n bans.length p.1 p.2.1) (fun p => 2 * n + 1 - p.2.2.toNat) ?_ _ ([(s, [])], [s], 0) (Nat.le_refl _) ⟨⟨rfl, by simp, fun u hu => ?_, fun k v h => ?_⟩, Int.le_refl _⟩) ?_))
  · rintro ⟨found, row, at_⟩ ⟨I0, a0⟩
    simp only at I0 a0
    refine wp_ite (fun h => ?_) fun h => wp_some I0
    have h := of_decide_eq_true h
    refine wp_rng1 rfl (by omega) ?_
    refine wp_loopR (fun _ (p : List (Int × List Int) × List Int) => RdOk n bans.length p.1 p.2 ∧ row.length ≤ p.2.length) ⟨I0, Nat.le_refl _⟩ (fun j p hj ⟨i1, i2⟩ => ?_) fun p ⟨i1, i2⟩ => wp_some ⟨⟨i1, by show 0 ≤ at_ + 1; omega⟩, ?_⟩
    · obtain ⟨found1, row1⟩ := p
      simp only at i1 i2
      have hat : atI bans (j : Int) = some bans[j] := at_nat (List.getElem?_eq_getElem hj)
      have gb := hb bans[j] (List.getElem_mem hj)
      refine wp_step hat (wp_step hat ?_)
      refine wp_loopS (fun L (p : List (Int × List Int) × List Int) => (∀ z, z ∈ L → IsSide n z.2) ∧ RdOk n bans.length p.1 p.2 ∧ row.length ≤ p.2.length) ⟨fun z hz => ?_, i1, i2⟩ (fun z L p ⟨j0, j1, j2⟩ => ?_) fun p ⟨_, j1, j2⟩ => wp_some ⟨j1, j2⟩
      · simp only [List.mem_cons, List.not_mem_nil, or_false] at hz
        rcases hz with rfl | rfl
        · exact gb.2.1
        · exact gb.1
      · obtain ⟨found2, row2⟩ := p
        obtain ⟨one, other⟩ := z
        have hz := j0 _ List.mem_cons_self
        have jL : ∀ z, z ∈ L → IsSide n z.2 := fun z hz => j0 z (List.mem_cons_of_mem _ hz)
        simp only at j1 j2 hz
        obtain ⟨k, rfl⟩ := Int.eq_ofNat_of_zero_le a0
        have hk : k < row2.length := by omega
        have hak : atI row2 (k : Int) = some row2[k] := at_nat (List.getElem?_eq_getElem hk)
        refine wp_step hak (wp_ite (fun hc => ?_) fun _ => wp_some ⟨jL, j1, j2⟩)
        rw [Bool.and_eq_true] at hc
        have nk : (0 - other) ∉ dkeys found2 := dHas_false.mp (by simpa using hc.2)
        have few := j1.few
        obtain ⟨v, hv⟩ := dGet_ex (m := found2) (k := row2[k]) (by rw [j1.keys]; exact List.getElem_mem hk)
        obtain ⟨v1, v2⟩ := j1.val _ _ hv
        refine wp_step hak (wp_step hv ?_)
        refine wp_cat (by simp; omega) ?_
        have fl : found2.length = row2.length := by rw [← j1.keys]; unfold dkeys; simp
        refine wp_dPutO (by rw [j1.keys]; exact j1.nd) (by omega) ?_
        refine wp_push (by omega) (wp_some ⟨jL, ⟨?_, ?_, ?_, ?_⟩, ?_⟩)
        · show dkeys (dPut found2 (0 - other) (v ++ [(j : Int)])) = row2 ++ [0 - other]
          rw [keys_put_new _ nk, ← j1.keys]
          unfold dkeys; simp
        · show (row2 ++ [0 - other]).Nodup
          rw [j1.keys] at nk
          exact List.nodup_append.mpr ⟨j1.nd, by simp, fun a ha b hb e => nk (by rw [List.mem_singleton.mp hb] at e; rw [← e]; exact ha)⟩
        · intro u hu
          have hu : u ∈ row2 ++ [0 - other] := hu
          rcases List.mem_append.mp hu with hu | hu
          · exact j1.sd u hu
          · rw [List.mem_singleton.mp hu, Int.zero_sub]; exact hz.neg
        · intro k' v' h'
          have h' : dGet (dPut found2 (0 - other) (v ++ [(j : Int)])) k' = some v' := h'
          rw [dGet_put] at h'
          show v'.length + 1 ≤ (row2 ++ [0 - other]).length ∧ _
          rw [List.length_append]
          split at h'
          · cases h'
            refine ⟨by simp; omega, fun i hi => ?_⟩
            rcases List.mem_append.mp hi with hi | hi
            · exact v2 i hi
            · rw [List.mem_singleton.mp hi]; omega
          · obtain ⟨w1, w2⟩ := j1.val _ _ h'
            exact ⟨by omega, w2⟩
        · show row.length ≤ (row2 ++ [0 - other]).length
          rw [List.length_append]; omega
    · have := i1.few
      show 2 * n + 1 - (at_ + 1).toNat < 2 * n + 1 - at_.toNat
      have := I0.few
      omega
  · rw [List.mem_singleton.mp hu]; exact hs
  · rw [dGet_cons] at h
    split at h
    · cases h; exact ⟨by simp, fun i hi => by cases hi⟩
    · cases h
  · rintro fl ⟨⟨found, row, at_⟩, rfl, Z⟩
    exact wp_some (q found row Z)
theorem rd_get {c : Nat} {found : List (Int × List Int)} {row : List Int} (h : RdOk n c found row) (h60 : n ≤ 60) (hc : 0 < c) (k : Int) : ((dGet found k).getD [0]).length ≤ 119 ∧ ∀ i, i ∈ (dGet found k).getD [0] → 0 ≤ i ∧ i < (c : Int) := by
  cases e : dGet found k with
  | none => exact ⟨by simp, fun i hi => by
      have hi : i ∈ [(0 : Int)] := hi
      rw [List.mem_singleton.mp hi]; omega⟩
  | some v =>
    obtain ⟨w1, w2⟩ := h.val _ _ e
    have := h.few
    exact ⟨by show v.length ≤ 119; omega, w2⟩
theorem int_row {v : List Int} {c : Nat} (h : v.length ≤ m ∧ ∀ i, i ∈ v → 0 ≤ i ∧ i < (c : Int)) (hc : c ≤ 1000) : PlL (m :: r) (inD (eT D.int) (fzT fzI) v) ∧ PlL (m :: r) (inD (eL false D.int) (fzL fzI) v) := by
  have k : ∀ y, y ∈ v.map (inD D.int fzI) → PlL r y := fun y hy => by
    obtain ⟨i, hi, rfl⟩ := List.mem_map.mp hy
    have := h.2 i hi
    exact PlL.leaf (show i.natAbs < 10 ^ 32 by omega)
  exact ⟨.inr ⟨v.map (inD D.int fzI), .inl (by show D.tup _ = D.tup _; rw [List.map_map]; rfl), by rw [List.length_map]; exact h.1, k⟩,
    .inr ⟨v.map (inD D.int fzI), .inr (by show D.lst false _ = D.lst false _; rw [List.map_map]; rfl), by rw [List.length_map]; exact h.1, k⟩⟩
theorem rd_thing {s : Int} {v w : List Int} {c : Nat} (hs : s.natAbs ≤ 60) (hc : c ≤ 1000) (h1 : v.length ≤ m ∧ ∀ i, i ∈ v → 0 ≤ i ∧ i < (c : Int)) (h2 : w.length ≤ m ∧ ∀ i, i ∈ w → 0 ≤ i ∧ i < (c : Int)) (h3 : 3 ≤ n) : PlL (n :: m :: r) (inD (e3 D.int (eT D.int) (eT D.int)) (fz3 fzI (fzT fzI) (fzT fzI)) (s, v, w)) ∧ PlL (n :: m :: r) (inD (e3 D.int (eL false D.int) (eT D.int)) (fz3 fzI (fzL fzI) (fzT fzI)) (s, v, w)) := by
  have a := int_row (r := r) h1 hc
  have b := int_row (r := r) h2 hc
  have z : PlL (m :: r) (inD D.int fzI s) := PlL.leaf (show s.natAbs < 10 ^ 32 by omega)
  refine ⟨.inr ⟨[inD D.int fzI s, inD (eT D.int) (fzT fzI) v, inD (eT D.int) (fzT fzI) w], .inl rfl, h3, fun y hy => ?_⟩, .inr ⟨[inD D.int fzI s, inD (eL false D.int) (fzL fzI) v, inD (eT D.int) (fzT fzI) w], .inl rfl, h3, fun y hy => ?_⟩⟩
  all_goals
    simp only [List.mem_cons, List.not_mem_nil, or_false] at hy
    rcases hy with rfl | rfl | rfl
  · exact z
  · exact a.1
  · exact b.1
  · exact z
  · exact a.2
  · exact b.1
def four : List (Int × Int) := [(1, 2), (1, (-2)), ((-1), 2), ((-1), (-2))]
theorem law_true (ns : List Int) : Wp (m_law ns) fun b => b = true := by
  unfold m_law
  refine begun_wp fun t0 ht0 => ?_
  obtain ⟨m, em, hm⟩ : ∃ m : Nat, 4 + min 5 (ns.length : Int) = (m : Int) ∧ m ≤ 10 := ⟨(4 + min 5 (ns.length : Int)).toNat, by omega, by omega⟩
  rw [em]
  refine wp_rng1 rfl (by omega) ?_
  refine wp_loopJ (fun L t => L.length ≤ 10 ∧ TpOk (100000 * (10 - L.length)) t) ⟨by simp [natI]; omega, ht0.mono (by simp [natI]; omega)⟩ (fun turn L t ⟨hL, ht⟩ => ?_) fun t _ => wp_some rfl
  simp only [List.length_cons] at ht hL
  have hb : (100000 * (10 - ((L.length + 1 : Nat) : Int))) ≤ 1000000 := by omega
  have hB : (100000 * (10 - ((L.length + 1 : Nat) : Int))) + 100000 = 100000 * (10 - (L.length : Int)) := by omega
  generalize (100000 * (10 - ((L.length + 1 : Nat) : Int))) = b0 at ht hb hB
  rw [← hB]
  have hL4 : L.length ≤ 10 := by omega
  clear hB hL
  obtain ⟨x, ex, hx⟩ : ∃ x : Int, atI [9, 60] (TT.b2i (decide (turn = 0))) = some x ∧ (x = 9 ∨ x = 60) := by
    by_cases h : turn = 0
    · rw [decide_eq_true h]; exact ⟨60, rfl, .inr rfl⟩
    · rw [decide_eq_false h]; exact ⟨9, rfl, .inl rfl⟩
  refine wp_step ex ?_
  refine pick_wp ht (by omega) (by simp) (by simp) fun many t1 hn ht1 => ?_
  have hn : 2 ≤ many ∧ many ≤ 60 := by
    simp only [List.mem_cons, List.not_mem_nil, or_false] at hn
    omega
  obtain ⟨n, rfl⟩ := Int.eq_ofNat_of_zero_le (show 0 ≤ many by omega)
  have hn2 : 2 ≤ n := by omega
  have hn60 : n ≤ 60 := by omega
  refine bans3_wp ht1 (by omega) (by omega) hn60 fun l t2 gl ll ht2 => ?_
  refine draw_wp ht2 (by omega) (by omega) (by omega) fun r5 t3 _ hr5 ht3 => ?_
  have s12 : ∀ a : Int, (a = 1 ∨ a = 2 ∨ a = -1 ∨ a = -2) → IsSide n a := fun a h => by unfold IsSide; omega
  have g4 : GoodB n four := fun p hp => by
    unfold four at hp
    simp only [List.mem_cons, List.not_mem_nil, or_false] at hp
    rcases hp with rfl | rfl | rfl | rfl <;> exact ⟨s12 _ (by simp), s12 _ (by simp), by decide⟩
  have ec : 1 ≤ (cutL four none (some (1 + r5))).length ∧ (cutL four none (some (1 + r5))).length ≤ 4 := by
    have e : 1 + r5 = (((1 + r5).toNat : Nat) : Int) := by omega
    have f4 : four.length = 4 := rfl
    rw [e, cut_take _ (by omega), List.length_take]
    omega
  have gc : GoodB n (cutL four none (some (1 + r5))) := fun p hp => g4 p (cut_sub hp)
  show Wp ((catO l (cutL four none (some (1 + r5)))).bind _) _
  generalize cutL four none (some (1 + r5)) = four at ec gc
  refine wp_cat (by omega) ?_
  refine shuffled_wp ht3 (by omega) (by rw [List.length_append]; omega) fun bans t4 pm ht4 => ?_
  have bl : 1 ≤ bans.length ∧ bans.length ≤ 304 := by rw [pm.length_eq, List.length_append]; omega
  have gb : GoodB n bans := fun p hp => (gl.app gc) p (pm.subset hp)
  refine pick_wp ht4 (by omega) (by simp) (by simp) fun few t5 hf ht5 => ?_
  obtain ⟨k, rfl, hk⟩ : ∃ k : Nat, few = (k : Int) ∧ 0 < k ∧ k ≤ n := by
    simp only [List.mem_cons, List.not_mem_nil, or_false] at hf
    exact ⟨few.toNat, by omega, by omega⟩
  refine side_wp ht5 (by omega) hk.1 (by omega) fun s t6 hs ht6 => ?_
  have hs : IsSide n s := ⟨hs.1, Nat.le_trans hs.2 hk.2⟩
  have hs60 : s.natAbs ≤ 60 := Nat.le_trans hs.2 hn60
  refine roads_wp hn60 hs gb (by omega) fun f1 w1 R1 => ?_
  refine roads_wp hn60 (by rw [Int.zero_sub]; exact hs.neg) gb (by omega) fun f2 w2 R2 => ?_
  have P1 := rd_get R1 hn60 (by omega) (0 - s)
  have P2 := rd_get R2 hn60 (by omega) s
  generalize (dGet f1 (0 - s)).getD [0] = v1 at P1
  generalize (dGet f2 s).getD [0] = v2 at P2
  refine wp_cat (by show v1.length + v2.length ≤ 100000; omega) ?_
  show Wp ((catO (v1 ++ v2) v1).bind _) _
  refine wp_cat (by rw [List.length_append]; omega) ?_
  have P3 : (v1 ++ v2 ++ v1).length ≤ 360 ∧ ∀ i, i ∈ v1 ++ v2 ++ v1 → 0 ≤ i ∧ i < (bans.length : Int) := ⟨by simp; omega, fun i hi => by
    simp only [List.mem_append] at hi
    rcases hi with (hi | hi) | hi
    · exact P1.2 i hi
    · exact P2.2 i hi
    · exact P1.2 i hi⟩
  have P1 : v1.length ≤ 360 ∧ ∀ i, i ∈ v1 → 0 ≤ i ∧ i < (bans.length : Int) := ⟨by omega, P1.2⟩
  have P2 : v2.length ≤ 360 ∧ ∀ i, i ∈ v2 → 0 ≤ i ∧ i < (bans.length : Int) := ⟨by omega, P2.2⟩
  generalize v1 ++ v2 ++ v1 = v3 at P3
  have T : ∀ {r : List Nat} {s : Int} (v w : List Int), (v.length ≤ 360 ∧ ∀ i, i ∈ v → 0 ≤ i ∧ i < (bans.length : Int)) → (w.length ≤ 360 ∧ ∀ i, i ∈ w → 0 ≤ i ∧ i < (bans.length : Int)) → s.natAbs ≤ 60 → PlL (3 :: 360 :: r) (inD (e3 D.int (eT D.int) (eT D.int)) (fz3 fzI (fzT fzI) (fzT fzI)) (s, v, w)) ∧ PlL (3 :: 360 :: r) (inD (e3 D.int (eL false D.int) (eT D.int)) (fz3 fzI (fzL fzI) (fzT fzI)) (s, v, w)) := fun v w h1 h2 hs => rd_thing hs (by omega) h1 h2 (by omega)
  have mn : (0 : Int) ≤ (n : Int) ∧ (n : Int) ≤ 60 := by omega
  have mc : (0 : Int) ≤ (bans.length : Int) ∧ (bans.length : Int) ≤ 1000 := by omega
  have o2 : OthOk m__law_other_2 (n : Int) (bans.length : Int) [] := oth_leaf (g := m__law_other_3) mn mc
  have o1 : OthOk m__law_other_1 (n : Int) (bans.length : Int) [360] := oth_row (g := m__law_other_2) mn mc (by decide) (by decide) o2
  have o0 : OthOk m__law_other (n : Int) (bans.length : Int) [3, 360] := oth_row (g := m__law_other_1) mn mc (by decide) (by decide) o1
  have u3 : OthOk m__law_other_3 (n : Int) (bans.length : Int) [] := oth_leaf (g := m__law_other_z) mn mc
  have u2 : OthOk m__law_other_2 (n : Int) (bans.length : Int) [1] := oth_row (g := m__law_other_3) mn mc (by decide) (by decide) u3
  have u1 : OthOk m__law_other_1 (n : Int) (bans.length : Int) [361, 1] := oth_row (g := m__law_other_2) mn mc (by decide) (by decide) u2
  have u0 : OthOk m__law_other (n : Int) (bans.length : Int) [4, 361, 1] := oth_row (g := m__law_other_1) mn mc (by decide) (by decide) u1
  refine pick_wp ht6 (by omega) (by simp) (by simp) fun one t7 ho ht7 => ?_
  have ho : PlL [3, 360] (inD (e3 D.int (eT D.int) (eT D.int)) (fz3 fzI (fzT fzI) (fzT fzI)) one) := by
    simp only [List.mem_cons, List.not_mem_nil, or_false] at ho
    rcases ho with rfl | rfl
    · exact (T v1 v2 P1 P2 hs60).1
    · exact (T v3 v2 P3 P2 hs60).1
  refine wp_bind ((o0 _ t7 _ ht7 (by simp; omega) ho).mono ?_)
  rintro ⟨a, t8⟩ ⟨pa, ht8⟩
  simp only [List.length_cons, List.length_nil] at pa ht8
  refine wp_bind ((u0 _ t8 _ ht8 (by simp; omega) pa).mono ?_)
  rintro ⟨c, t9⟩ ⟨pc, ht9⟩
  simp only [List.length_cons, List.length_nil] at pc ht9
  refine wp_bind ((o0 _ t9 _ ht9 (by simp; omega) (T v1 v2 P1 P2 hs60).1).mono ?_)
  rintro ⟨d, t10⟩ ⟨pd, ht10⟩
  simp only [List.length_cons, List.length_nil] at pd ht10
  refine wp_cat (by simp) ?_
  have hs60' : (0 - s).natAbs ≤ 60 := by omega
  have up : ∀ {y : Dat}, PlL [3, 360] y → PlL [5, 362, 2, 1] y := fun h => inc_leaf1 (inc_leaf1 h)
  have all : ∀ x, x ∈ [(inD (e3 D.int (eT D.int) (eT D.int)) (fz3 fzI (fzT fzI) (fzT fzI)) (s, v1, v2)), (inD (e3 D.int (eT D.int) (eT D.int)) (fz3 fzI (fzT fzI) (fzT fzI)) (s, v3, v2)), a, c, (inD (e3 D.int (eT D.int) (eT D.int)) (fz3 fzI (fzT fzI) (fzT fzI)) ((0 - s), v2, v1))] ++ [d, (inD (e3 D.int (eL false D.int) (eT D.int)) (fz3 fzI (fzL fzI) (fzT fzI)) (s, v1, v2)), (inD eN fzN ()), (inD (eT eN) (fzT fzN) [])] → PlL [5, 362, 2, 1] x := fun x hx => by
    simp only [List.cons_append, List.nil_append, List.mem_cons, List.not_mem_nil, or_false] at hx
    rcases hx with rfl | rfl | rfl | rfl | rfl | rfl | rfl | rfl | rfl
    · exact up (T v1 v2 P1 P2 hs60).1
    · exact up (T v3 v2 P3 P2 hs60).1
    · exact inc_leaf1 pa
    · exact pc
    · exact up (T v2 v1 P2 P1 hs60').1
    · exact inc_leaf1 pd
    · exact up (T v1 v2 P1 P2 hs60).2
    · exact PlL.leaf trivial
    · exact small_in (r := [4, 361, 1]) (ys := []) (.inl rfl) (by simp) fun y hy => by cases hy
  refine wp_loopJ (fun r (_ : Unit) => ∀ x, x ∈ r → PlL [5, 362, 2, 1] x) all (fun x r _ h => ?_) fun _ _ => wp_some ⟨hL4, ht10.mono (by omega)⟩
  have tx := h x List.mem_cons_self
  have cx := plL_cmp tx (by decide)
  have sx := plL_shown tx (by decide)
  obtain ⟨bb, e1, e2⟩ := due_eq (q := (n : Int)) (bans := bans) tx (by decide)
  rw [guard_pos cx, bsome]
  refine wp_step sx (wp_step e2 (wp_rng1 (n := 2) rfl (by omega) ?_))
  refine wp_loopF (fun _ => True) trivial (fun a _ _ => ?_) fun _ _ => wp_some fun y hy => h y (List.mem_cons_of_mem _ hy)
  refine wp_step e1 (wp_shown sbB trivial (by decide) (wp_shown sbB trivial (by decide) ?_))
  refine wp_bind (Wp.mono (K := fun t => t = false) ?_ fun tt et => ?_)
  · rw [if_neg (by simp), bsome]
    exact wp_step sx (wp_some (by simp))
  · subst et
    rw [if_neg (by decide)]
    exact wp_some trivial
end
end K05
namespace K05
open PySem PySem.Spec PyProof.Rows L2 TT
variable [Cls]
abbrev N_is_whole : List Str := ["thing"]
abbrev P_is_whole : List Str := ["thing"]
def tb_is_whole : TXS := (sRet (oAnd2 (oCall gIsi (aCons (vImm 0) (aCons (cD (.ty "int")) aNil))) (oNot (oCall gIsi (aCons (vImm 0) (aCons (cD (.ty "bool")) aNil))))))
abbrev VC_is_whole : Prop := VC [] N_is_whole P_is_whole sp_is_whole tb_is_whole
abbrev N_is_side : List Str := ["many", "thing"]
abbrev P_is_side : List Str := ["many", "thing"]
def tb_is_side : TXS := (sRet (oAnd2 (oFn sp_is_whole 1 false (cVal (vImm 1) cNil)) (oEq (oChain2 rLeI rLeI (cD (.int 1)) (oEq (oCall gAbs (aCons (oEqI (vImm 1)) aNil))) (vImm 0)))))
abbrev VC_is_side : Prop := VC [] N_is_side P_is_side sp_is_side tb_is_side
abbrev N_end_of : List Str := ["bans", "side", "thing", "number", "one", "other"]
abbrev P_end_of : List Str := ["bans", "side", "thing"]
def tb_end_of : TXS := (sSeq (sIf (tNotT (tBl (oCall gIsi (aCons (vImm 2) (aCons (cD (.ty "tuple")) aNil))))) (sRet (cD .non)) sNext)
    (sSeq (sFor (iEq (iT (oEqT (vImm 2)))) (gNm 3) (sSeq (sIf (tOr2 (tNotT (tBl (oFn sp_is_whole 1 false (cVal (vImm 3) cNil)))) (tOr2 (tNotT (tBl (oChain2 rLeI rLtI (cD (.int 0)) (oEqI (vImm 3)) (oCall gLen (aCons (vImm 0) aNil))))) (tBl (oOp (rInT true) (vImm 1) (oIx (vImm 0) (oEqI (vImm 3))))))) (sRet (cD .non)) sNext)
    (sSeq (sAsgT (oIx (vImm 0) (oEqI (vImm 3))) (gTpl 2 (gsCons (gNm 4) (gsCons (gNm 5) gsNil))))
    (sSet 1 (oIf2 (tBl (oOp rEqI (vImm 1) (vImm 4))) (oUn rNegI (vImm 5)) (oUn rNegI (vImm 4)))))))
    (sRet (vImm 1))))
abbrev VC_end_of : Prop := VC [] N_end_of P_end_of sp_end_of tb_end_of
abbrev N_is_nothing : List Str := ["many", "bans", "thing", "side", "there", "back"]
abbrev P_is_nothing : List Str := ["many", "bans", "thing"]
def tb_is_nothing : TXS := (sSeq (sIf (tOr2 (tNotT (tBl (oCall gIsi (aCons (vImm 2) (aCons (cD (.ty "tuple")) aNil))))) (tOr2 (tBl (oOp rNeI (oCall gLen (aCons (vImm 2) aNil)) (cD (.int 3)))) (tNotT (tBl (oFn sp_is_side 2 false (cVal (vImm 0) (cVal (oIx (oEqT (vImm 2)) (cD (.int 0))) cNil))))))) (sRet (cD (.bl false))) sNext)
    (sSeq (sAsgT (oEq3 (vImm 2)) (gTpl 3 (gsCons (gNm 3) (gsCons (gNm 4) (gsCons (gNm 5) gsNil)))))
    (sRet (oAnd2 (oEq (oOp (rEqT false) (oFn sp_end_of 3 false (cVal (vImm 1) (cVal (oEqI (vImm 3)) (cVal (vImm 4) cNil)))) (oUn rNegI (oEqI (vImm 3))))) (oEq (oOp (rEqT false) (oFn sp_end_of 3 false (cVal (vImm 1) (cVal (oUn rNegI (oEqI (vImm 3))) (cVal (vImm 5) cNil)))) (vImm 3)))))))
abbrev VC_is_nothing : Prop := VC [] N_is_nothing P_is_nothing sp_is_nothing tb_is_nothing
abbrev N__law_begun : List Str := ["_law_script"]
abbrev P__law_begun : List Str := ["_law_script"]
def tb__law_begun : TXS := (sRet (oEq (oDisp (dCons (cD (.str "cells")) (oOrT2 (oEq (oSl (vImm 0) pNone (pSome (cD (.int 63))))) (oEq (oLst (aCons (cD (.int 0)) aNil)))) (dCons (cD (.str "spot")) (cD (.int 0)) (dCons (cD (.str "left")) (cD (.int 0)) dNil))))))
abbrev VC__law_begun : Prop := VC [] N__law_begun P__law_begun sp__law_begun tb__law_begun
abbrev N__law_draw : List Str := ["_law_tape", "_law_many", "_law_spot", "_law_last", "_law_cell", "_law_found"]
abbrev P__law_draw : List Str := ["_law_tape", "_law_many"]
def tb__law_draw : TXS := (sSeq (sIf (tBl (oOp rLtI (oImm (oDGet (vView 0) (cD (.str "left")))) (vImm 1))) (sSeq (sPar 2 3 (aCons (oImm (oDGet (vView 0) (cD (.str "spot")))) (aCons (oCall gLen (aCons (oDGet (vView 0) (cD (.str "cells"))) aNil)) aNil)))
    (sSeq (sAsgT (oEq (oTup (aCons (oImm (oIx (oDGet (vView 0) (cD (.str "cells"))) (oOp rModI (oCall gInt (aCons (vImm 2) aNil)) (vImm 3)))) (aCons (oOp rAddI (vImm 2) (cD (.int 1))) aNil)))) (gTpl 2 (gsCons (gNm 4) (gsCons (gPutD 0 (cD (.str "spot"))) gsNil))))
    (sSeq (sPutD 0 (oOp rModI (oCall gInt (aCons (oEq (oOp rPowI (oOp rAddI (oOp rAddI (oOp rModI (oCall gInt (aCons (vImm 4) aNil)) (cD (.int 2147483647))) (oOp rMulI (cD (.int 69621)) (vImm 2))) (cD (.int 48271))) (cD (.int 17)))) aNil)) (oOp rAddI (oEq (oOp rPowI (cD (.int 10)) (cD (.int 50)))) (cD (.int 151)))) (cD (.str "left")))
    (sIf (tAnd2 (tBl (oOp rGeI (vImm 4) (oEq (oOp rPowI (cD (.int 10)) (cD (.int 18)))))) (tBl (oOp rLtI (vImm 2) (vImm 3)))) (sPutD 0 (oOp rSubI (vImm 4) (oEq (oOp rPowI (cD (.int 10)) (cD (.int 18))))) (cD (.str "left"))) sNext)))) sNext)
    (sSeq (sAsgT (oEq (oTup (aCons (oOp rModI (oCall gInt (aCons (oImm (oDGet (vView 0) (cD (.str "left")))) aNil)) (vImm 1)) (aCons (oOp rFdivW (oImm (oDGet (vView 0) (cD (.str "left")))) (vImm 1)) aNil)))) (gTpl 2 (gsCons (gNm 5) (gsCons (gPutD 0 (cD (.str "left"))) gsNil))))
    (sRet (vImm 5))))
abbrev VC__law_draw : Prop := VC [0] N__law_draw P__law_draw sp__law_draw tb__law_draw
abbrev N__law_pick : List Str := ["_law_tape", "_law_some"]
abbrev P__law_pick : List Str := ["_law_tape", "_law_some"]
def tb__law_pick : TXS := (sRet (oIx (vImm 1) (oFn sp__law_draw 2 false (cIo 0 (cVal (oCall gLen (aCons (vImm 1) aNil)) cNil)))))
abbrev VC__law_pick : Prop := VC [0] N__law_pick P__law_pick sp__law_pick tb__law_pick
abbrev N__law_shuffled : List Str := ["_law_tape", "_law_some", "_law_left", "_law_found"]
abbrev P__law_shuffled : List Str := ["_law_tape", "_law_some"]
def tb__law_shuffled : TXS := (sSeq (sPar 2 3 (aCons (oEq (oCall gList (aCons (vImm 1) aNil))) (aCons (oEq (oLst aNil)) aNil)))
    (sSeq (sWhile (tBl (oOp (rEqT true) (vView 2) (oEq (oLst aNil)))) (sExpr (oEnv (oApp 3 (oEnv (hPop 2 (hName 2) (oFn sp__law_draw 2 false (cIo 0 (cVal (oCall gLen (aCons (vView 2) aNil)) cNil)))))))))
    (sRet (vMove 3))))
abbrev VC__law_shuffled : Prop := VC [0] N__law_shuffled P__law_shuffled sp__law_shuffled tb__law_shuffled
abbrev N__law_side : List Str := ["_law_tape", "_law_many"]
abbrev P__law_side : List Str := ["_law_tape", "_law_many"]
def tb__law_side : TXS := (sRet (oOp rMulI (oOp rAddI (cD (.int 1)) (oFn sp__law_draw 2 false (cIo 0 (cVal (vImm 1) cNil)))) (oFn sp__law_pick 2 false (cIo 0 (cVal (oEq (oLst (aCons (cD (.int 1)) (aCons (oUn rNegI (cD (.int 1))) aNil)))) cNil)))))
abbrev VC__law_side : Prop := VC [0] N__law_side P__law_side sp__law_side tb__law_side
abbrev N__law_bans : List Str := ["_law_tape", "_law_many", "_law_found", "_law_k", "_law_one", "_law_other_here", "_law_cuts", "_law_row", "_law_cut"]
abbrev P__law_bans : List Str := ["_law_tape", "_law_many"]
def tb__law_bans : TXS := (sSeq (sSet 2 (oEq (oLst aNil)))
    (sSeq (sFor (iEq (iR1 (aCons (oOp rMulI (oFn sp__law_pick 2 false (cIo 0 (cVal (oEq (oLst (aCons (cD (.int 0)) (aCons (oOp rFdivW (vImm 1) (cD (.int 2))) (aCons (vImm 1) (aCons (oOp rAddI (vImm 1) (oOp rFdivW (vImm 1) (cD (.int 2)))) (aCons (oOp rMulI (cD (.int 2)) (vImm 1)) (aCons (oOp rMulI (cD (.int 3)) (vImm 1)) aNil)))))))) cNil))) (oCall gInt (aCons (oEq (oOp rGtI (vImm 1) (cD (.int 1)))) aNil))) aNil))) (gNm 3) (sSeq (sPar 4 5 (aCons (oFn sp__law_side 2 false (cIo 0 (cVal (vImm 1) cNil))) (aCons (oFn sp__law_side 2 false (cIo 0 (cVal (vImm 1) cNil))) aNil)))
    (sIf (tBl (oOp rNeI (oEq (oCall gAbs (aCons (vImm 4) aNil))) (oEq (oCall gAbs (aCons (vImm 5) aNil))))) (sExpr (oEnv (oApp 2 (oEq (oTup (aCons (vImm 4) (aCons (vImm 5) aNil))))))) sNext)))
    (sSeq (sIf (tAnd2 (tBl (oOp rGtI (vImm 1) (cD (.int 1)))) (tBl (oOp rEqI (oFn sp__law_draw 2 false (cIo 0 (cVal (cD (.int 3)) cNil))) (cD (.int 0))))) (sSeq (sFz 6 (sSet 6 (oEq (oSl (oFn sp__law_shuffled 2 false (cIo 0 (cVal (oEq (oLR (gR2 (cD (.int 1)) (oOp rAddI (vImm 1) (cD (.int 1)))))) cNil))) pNone (pSome (oOp rAddI (cD (.int 2)) (oFn sp__law_draw 2 false (cIo 0 (cVal (oOp rSubI (vImm 1) (cD (.int 1))) cNil)))))))))
    (sSeq (sFz 7 (sSet 7 (oEq (oComp (iEq (iL (vImm 6))) (gNm 8) tYesT (oOp rMulI (vImm 8) (oFn sp__law_pick 2 false (cIo 0 (cVal (oEq (oLst (aCons (cD (.int 1)) (aCons (oUn rNegI (cD (.int 1))) aNil)))) cNil)))) [8]))))
    (sExpr (oEnv (oExt 2 (oEq (oComp (iEq (iR1 (aCons (oCall gLen (aCons (vImm 7) aNil)) aNil))) (gNm 3) tYesT (oEq (oTup (aCons (oIx (vImm 7) (vImm 3)) (aCons (oOp rSubI (cD (.int 0)) (oIx (vImm 7) (oOp rSubI (vImm 3) (cD (.int 1))))) aNil)))) [3]))))))) sNext)
    (sRet (oFn sp__law_shuffled 2 true (cIo 0 (cVal (vView 2) cNil)))))))
abbrev VC__law_bans : Prop := VC [0] N__law_bans P__law_bans sp__law_bans tb__law_bans
abbrev N__law_road_end : List Str := ["_law_bans_here", "_law_side_here", "_law_numbers", "_law_here", "_law_number", "_law_one", "_law_other_here"]
abbrev P__law_road_end : List Str := ["_law_bans_here", "_law_side_here", "_law_numbers"]
def tb__law_road_end : TXS := (sSeq (sSet 3 (vImm 1))
    (sSeq (sFor (iEq (iT (oEqT (vImm 2)))) (gNm 4) (sSeq (sIf (tOr2 (tNotT (tBl (oCall gIsi (aCons (vImm 4) (aCons (cD (.ty "int")) aNil))))) (tOr2 (tBl (oCall gIsi (aCons (vImm 4) (aCons (cD (.ty "bool")) aNil)))) (tNotT (tBl (oChain2 rLeI rLtI (cD (.int 0)) (oEqI (vImm 4)) (oCall gLen (aCons (vImm 0) aNil))))))) (sRet (cD (.int 0))) sNext)
    (sSeq (sIf (tBl (oOp (rInT true) (vImm 3) (oIx (vImm 0) (oEqI (vImm 4))))) (sRet (cD (.int 0))) sNext)
    (sSeq (sAsgT (oIx (vImm 0) (oEqI (vImm 4))) (gTpl 2 (gsCons (gNm 5) (gsCons (gNm 6) gsNil))))
    (sSet 3 (oIf2 (tBl (oOp rEqI (vImm 3) (vImm 5))) (oOp rSubI (cD (.int 0)) (vImm 6)) (oOp rSubI (cD (.int 0)) (vImm 5))))))))
    (sRet (vImm 3))))
abbrev VC__law_road_end : Prop := VC [] N__law_road_end P__law_road_end sp__law_road_end tb__law_road_end
abbrev N__law_roads : List Str := ["_law_many", "_law_bans_here", "_law_side_here", "_law_found", "_law_row", "_law_at", "_law_number", "_law_one", "_law_other_here"]
abbrev P__law_roads : List Str := ["_law_many", "_law_bans_here", "_law_side_here"]
def tb__law_roads : TXS := (sSeq (sPar3 3 4 5 (aCons (oEq (oDisp (dCons (vImm 2) (oEq (oLst aNil)) dNil))) (aCons (oEq (oLst (aCons (vImm 2) aNil))) (aCons (cD (.int 0)) aNil))))
    (sSeq (sWhile (tBl (oOp rLtI (vImm 5) (oCall gLen (aCons (vView 4) aNil)))) (sSeq (sFor (iEq (iR1 (aCons (oCall gLen (aCons (vImm 1) aNil)) aNil))) (gNm 6) (sFor (iEq (iL (oEq (oLst (aCons (oIx (vImm 1) (vImm 6)) (aCons (oEq (oRev2 (oIx (vImm 1) (vImm 6)))) aNil)))))) (gTp 2 (gsCons (gNm 7) (gsCons (gNm 8) gsNil))) (sIf (tAnd2 (tBl (oOp rEqI (vImm 7) (oImm (oIx (vView 4) (vImm 5))))) (tBl (oDIn true (oOp rSubI (cD (.int 0)) (vImm 8)) (vView 3)))) (sSeq (sPutD 3 (oEq (oOp rCatT (oDGet (vView 3) (oImm (oIx (vView 4) (vImm 5)))) (oEq (oLst (aCons (vImm 6) aNil))))) (oOp rSubI (cD (.int 0)) (vImm 8)))
    (sExpr (oEnv (oApp 4 (oOp rSubI (cD (.int 0)) (vImm 8)))))) sNext)))
    (sSet 5 (oOp rAddI (vImm 5) (cD (.int 1))))))
    (sRet (vMove 3))))
abbrev VC__law_roads : Prop := VC [] N__law_roads P__law_roads sp__law_roads tb__law_roads
abbrev N__law_due : List Str := ["_law_many", "_law_bans_here", "_law_thing", "_law_side_here"]
abbrev P__law_due : List Str := ["_law_many", "_law_bans_here", "_law_thing"]
def tb__law_due : TXS := (sSeq (sIf (tOr2 (tNotT (tBl (oCall gIsi (aCons (vImm 2) (aCons (cD (.ty "tuple")) aNil))))) (tOr2 (tBl (oOp rNeI (oCall gLen (aCons (vImm 2) aNil)) (cD (.int 3)))) (tNotT (tBl (oCall gIsi (aCons (oIx (oEqT (vImm 2)) (cD (.int 1))) (aCons (cD (.ty "tuple")) aNil))))))) (sRet (cD (.bl false))) sNext)
    (sSeq (sSet 3 (oIx (oEqT (vImm 2)) (cD (.int 0))))
    (sSeq (sIf (tOr2 (tNotT (tBl (oCall gIsi (aCons (vImm 3) (aCons (cD (.ty "int")) aNil))))) (tOr2 (tBl (oCall gIsi (aCons (vImm 3) (aCons (cD (.ty "bool")) aNil)))) (tNotT (tBl (oChain2 rLeI rLeI (cD (.int 1)) (oEq (oCall gAbs (aCons (oEqI (vImm 3)) aNil))) (vImm 0)))))) (sRet (cD (.bl false))) sNext)
    (sSeq (sIf (tNotT (tBl (oCall gIsi (aCons (oIx (oEqT (vImm 2)) (cD (.int 2))) (aCons (cD (.ty "tuple")) aNil))))) (sRet (cD (.bl false))) sNext)
    (sRet (oAnd2 (oEq (oOp rEqI (oFn sp__law_road_end 3 false (cVal (vImm 1) (cVal (oEqI (vImm 3)) (cVal (oIx (oEqT (vImm 2)) (cD (.int 1))) cNil)))) (oOp rSubA (cD (.int 0)) (vImm 3)))) (oEq (oOp (rEqT false) (oFn sp__law_road_end 3 false (cVal (vImm 1) (cVal (oOp rSubA (cD (.int 0)) (vImm 3)) (cVal (oIx (oEqT (vImm 2)) (cD (.int 2))) cNil)))) (vImm 3)))))))))
abbrev VC__law_due : Prop := VC [] N__law_due P__law_due sp__law_due tb__law_due
abbrev N__law_other : List Str := ["_law_tape", "_law_thing", "_law_many", "_law_count", "_law_odd", "_law_at", "_law_cut", "_law_some"]
abbrev P__law_other : List Str := ["_law_tape", "_law_thing", "_law_many", "_law_count"]
def tb__law_other : TXS := (sSeq (sIf (tOr2 (tNotT (tBl (oCall gIsi (aCons (vImm 1) (aCons (cD (.ty "tuple")) aNil))))) (tOr2 (tBl (oOp (rEqT false) (vImm 1) (oEq (oTup aNil)))) (tBl (oOp rEqI (oFn sp__law_draw 2 false (cIo 0 (cVal (cD (.int 4)) cNil))) (cD (.int 0)))))) (sSeq (sFz 4 (sSet 4 (oEq (oLst (aCons (cD (.int 0)) (aCons (cD (.int 1)) (aCons (oUn rNegI (cD (.int 1))) (aCons (vImm 3) (aCons (oOp rSubI (vImm 3) (cD (.int 1))) (aCons (oOp rSubI (cD (.int 0)) (vImm 2)) (aCons (cD (.bl true)) (aCons (cD (.bl false)) (aCons (cD .non) (aCons (cD (.str "0")) (aCons (oEq (oTup aNil)) (aCons (oEq (oFrz (oEq (oLst aNil)))) (aCons (oEq (oTup (aCons (cD (.int 0)) aNil))) (aCons (oEq (oOp rPowI (cD (.int 10)) (cD (.int 30)))) aNil))))))))))))))))))
    (sRet (oFn sp__law_pick 2 false (cIo 0 (cVal (oEq (oOp rCatT (vImm 4) (oEq (oSl (oEq (oLR (gR1 (vImm 3)))) pNone (pSome (cD (.int 9))))))) cNil))))) sNext)
    (sSeq (sSet 5 (oFn sp__law_draw 2 false (cIo 0 (cVal (oCall gLen (aCons (vImm 1) aNil)) cNil))))
    (sSeq (sSet 6 (oEq (oOp rCatTT (oEq (oOp rCatTT (oEq (oSlT (oEqT (vImm 1)) pNone (pSome (vImm 5)))) (oEq (oTup (aCons (oFn sp__law_other_1 4 false (cIo 0 (cVal (oIx (oEqT (vImm 1)) (vImm 5)) (cVal (vImm 2) (cVal (vImm 3) cNil))))) aNil))))) (oEq (oSlT (oEqT (vImm 1)) (pSome (oOp rAddI (vImm 5) (cD (.int 1)))) pNone)))))
    (sSeq (sFz 7 (sSet 7 (oEq (oLst (aCons (vImm 6) (aCons (vImm 6) (aCons (vImm 6) (aCons (oEq (oOp rCatTT (oEqT (vImm 1)) (oEq (oSlT (oEqT (vImm 1)) (pSome (vImm 5)) (pSome (oOp rAddI (vImm 5) (cD (.int 1)))))))) (aCons (oEq (oOp rCatTT (oEq (oSlT (oEqT (vImm 1)) pNone (pSome (vImm 5)))) (oEq (oSlT (oEqT (vImm 1)) (pSome (oOp rAddI (vImm 5) (cD (.int 1)))) pNone)))) (aCons (oEq (oFrz (oEq (oCall gList (aCons (vImm 6) aNil))))) (aCons (oEq (oRevT (oEqT (vImm 1)))) aNil)))))))))))
    (sRet (oFn sp__law_pick 2 false (cIo 0 (cVal (vImm 7) cNil))))))))
abbrev VC__law_other : Prop := VC [0] N__law_other P__law_other sp__law_other tb__law_other
abbrev N_law : List Str := ["_law_script", "_law_tape", "_law_turn", "_law_many", "_law_bans_here", "_law_side_here", "_law_there", "_law_back", "_law_sheet", "_law_longer", "_law_bent", "_law_things", "_law_thing", "_law_kept", "_law_due_here", "_law_again"]
abbrev P_law : List Str := ["_law_script"]
def tb_law : TXS := (sSeq (sSet 1 (oFn sp__law_begun 1 false (cVal (vImm 0) cNil)))
    (sSeq (sFor (iEq (iR1 (aCons (oOp rAddI (cD (.int 4)) (oEq (oCall gMin2 (aCons (cD (.int 5)) (aCons (oCall gLen (aCons (vImm 0) aNil)) aNil))))) aNil))) (gNm 2) (sSeq (sSet 3 (oFn sp__law_pick 2 false (cIo 1 (cVal (oEq (oLst (aCons (cD (.int 2)) (aCons (cD (.int 3)) (aCons (cD (.int 4)) (aCons (cD (.int 9)) (aCons (oIx (oEq (oLst (aCons (cD (.int 9)) (aCons (cD (.int 60)) aNil)))) (oCall gInt (aCons (oEq (oOp rEqI (vImm 2) (cD (.int 0)))) aNil))) aNil))))))) cNil))))
    (sSeq (sFz 4 (sSet 4 (oEq (oOp rCatT (oFn sp__law_bans 2 false (cIo 1 (cVal (vImm 3) cNil))) (oEq (oSl (oEq (oLst (aCons (oEq (oTup (aCons (cD (.int 1)) (aCons (cD (.int 2)) aNil)))) (aCons (oEq (oTup (aCons (cD (.int 1)) (aCons (oUn rNegI (cD (.int 2))) aNil)))) (aCons (oEq (oTup (aCons (oUn rNegI (cD (.int 1))) (aCons (cD (.int 2)) aNil)))) (aCons (oEq (oTup (aCons (oUn rNegI (cD (.int 1))) (aCons (oUn rNegI (cD (.int 2))) aNil)))) aNil)))))) pNone (pSome (oOp rAddI (cD (.int 1)) (oFn sp__law_draw 2 false (cIo 1 (cVal (cD (.int 4)) cNil)))))))))))
    (sSeq (sFz 4 (sSet 4 (oFn sp__law_shuffled 2 false (cIo 1 (cVal (vImm 4) cNil)))))
    (sSeq (sSet 5 (oFn sp__law_side 2 false (cIo 1 (cVal (oFn sp__law_pick 2 false (cIo 1 (cVal (oEq (oLst (aCons (vImm 3) (aCons (vImm 3) (aCons (cD (.int 2)) aNil))))) cNil))) cNil))))
    (sSeq (sFz 7 (sFz 6 (sPar 6 7 (aCons (oFn sp__law_roads 3 false (cVal (vImm 3) (cVal (vImm 4) (cVal (vImm 5) cNil)))) (aCons (oFn sp__law_roads 3 false (cVal (vImm 3) (cVal (vImm 4) (cVal (oOp rSubI (cD (.int 0)) (vImm 5)) cNil)))) aNil)))))
    (sSeq (sSet 8 (oEq (oTup (aCons (vImm 5) (aCons (oEq (oCall gTuple (aCons (oEq (oGet2 (vImm 6) (oOp rSubI (cD (.int 0)) (vImm 5)) (oEq (oFrz (oEq (oLst (aCons (cD (.int 0)) aNil))))))) aNil))) (aCons (oEq (oCall gTuple (aCons (oEq (oGet2 (vImm 7) (vImm 5) (oEq (oFrz (oEq (oLst (aCons (cD (.int 0)) aNil))))))) aNil))) aNil))))))
    (sSeq (sSet 9 (oEq (oTup (aCons (vImm 5) (aCons (oEq (oOp rCatTT (oEq (oOp rCatTT (oIx (vImm 8) (cD (.int 1))) (oIx (vImm 8) (cD (.int 2))))) (oIx (vImm 8) (cD (.int 1))))) (aCons (oIx (vImm 8) (cD (.int 2))) aNil))))))
    (sSeq (sSet 10 (oFn sp__law_other 4 false (cIo 1 (cVal (oFn sp__law_pick 2 false (cIo 1 (cVal (oEq (oLst (aCons (vImm 8) (aCons (vImm 9) aNil)))) cNil))) (cVal (vImm 3) (cVal (oCall gLen (aCons (vImm 4) aNil)) cNil))))))
    (sSeq (sFz 11 (sSet 11 (oEq (oLst (aCons (vImm 8) (aCons (vImm 9) (aCons (vImm 10) (aCons (oFn sp__law_other 4 false (cIo 1 (cVal (vImm 10) (cVal (vImm 3) (cVal (oCall gLen (aCons (vImm 4) aNil)) cNil))))) (aCons (oEq (oTup (aCons (oOp rSubI (cD (.int 0)) (vImm 5)) (aCons (oIx (vImm 8) (cD (.int 2))) (aCons (oIx (vImm 8) (cD (.int 1))) aNil))))) aNil)))))))))
    (sSeq (sFz 11 (sSet 11 (oEq (oOp rCatT (vImm 11) (oEq (oLst (aCons (oFn sp__law_other 4 false (cIo 1 (cVal (vImm 8) (cVal (vImm 3) (cVal (oCall gLen (aCons (vImm 4) aNil)) cNil))))) (aCons (oEq (oFrz (oEq (oTup (aCons (vImm 5) (aCons (oEq (oCall gList (aCons (oIx (vImm 8) (cD (.int 1))) aNil))) (aCons (oIx (vImm 8) (cD (.int 2))) aNil))))))) (aCons (cD .non) (aCons (oEq (oTup aNil)) aNil))))))))))
    (sFor (iEq (iL (vImm 11))) (gNm 12) (sSeq (sPar 13 14 (aCons (oCall gReprX (aCons (vImm 12) aNil)) (aCons (oFn sp__law_due 3 false (cVal (vImm 3) (cVal (vImm 4) (cVal (vImm 12) cNil)))) aNil)))
    (sFor (iEq (iR1 (aCons (cD (.int 2)) aNil))) (gNm 15) (sIf (tOr2 (tBl (oOp rNeS (oCall gReprX (aCons (oFn sp_is_nothing 3 false (cVal (vImm 3) (cVal (vImm 4) (cVal (vImm 12) cNil)))) aNil)) (oCall gReprX (aCons (vImm 14) aNil)))) (tBl (oOp rNeS (oCall gReprX (aCons (vImm 12) aNil)) (vImm 13)))) (sRet (cD (.bl false))) sNext)))))))))))))))
    (sRet (cD (.bl true)))))
abbrev VC_law : Prop := VC [] N_law P_law sp_law tb_law
abbrev N__law_other_1 : List Str := ["_law_tape", "_law_thing", "_law_many", "_law_count", "_law_odd", "_law_at", "_law_cut", "_law_some"]
abbrev P__law_other_1 : List Str := ["_law_tape", "_law_thing", "_law_many", "_law_count"]
def tb__law_other_1 : TXS := (sSeq (sIf (tOr2 (tNotT (tBl (oCall gIsi (aCons (vImm 1) (aCons (cD (.ty "tuple")) aNil))))) (tOr2 (tBl (oOp (rEqT false) (vImm 1) (oEq (oTup aNil)))) (tBl (oOp rEqI (oFn sp__law_draw 2 false (cIo 0 (cVal (cD (.int 4)) cNil))) (cD (.int 0)))))) (sSeq (sFz 4 (sSet 4 (oEq (oLst (aCons (cD (.int 0)) (aCons (cD (.int 1)) (aCons (oUn rNegI (cD (.int 1))) (aCons (vImm 3) (aCons (oOp rSubI (vImm 3) (cD (.int 1))) (aCons (oOp rSubI (cD (.int 0)) (vImm 2)) (aCons (cD (.bl true)) (aCons (cD (.bl false)) (aCons (cD .non) (aCons (cD (.str "0")) (aCons (oEq (oTup aNil)) (aCons (oEq (oFrz (oEq (oLst aNil)))) (aCons (oEq (oTup (aCons (cD (.int 0)) aNil))) (aCons (oEq (oOp rPowI (cD (.int 10)) (cD (.int 30)))) aNil))))))))))))))))))
    (sRet (oFn sp__law_pick 2 false (cIo 0 (cVal (oEq (oOp rCatT (vImm 4) (oEq (oSl (oEq (oLR (gR1 (vImm 3)))) pNone (pSome (cD (.int 9))))))) cNil))))) sNext)
    (sSeq (sSet 5 (oFn sp__law_draw 2 false (cIo 0 (cVal (oCall gLen (aCons (vImm 1) aNil)) cNil))))
    (sSeq (sSet 6 (oEq (oOp rCatTT (oEq (oOp rCatTT (oEq (oSlT (oEqT (vImm 1)) pNone (pSome (vImm 5)))) (oEq (oTup (aCons (oFn sp__law_other_2 4 false (cIo 0 (cVal (oIx (oEqT (vImm 1)) (vImm 5)) (cVal (vImm 2) (cVal (vImm 3) cNil))))) aNil))))) (oEq (oSlT (oEqT (vImm 1)) (pSome (oOp rAddI (vImm 5) (cD (.int 1)))) pNone)))))
    (sSeq (sFz 7 (sSet 7 (oEq (oLst (aCons (vImm 6) (aCons (vImm 6) (aCons (vImm 6) (aCons (oEq (oOp rCatTT (oEqT (vImm 1)) (oEq (oSlT (oEqT (vImm 1)) (pSome (vImm 5)) (pSome (oOp rAddI (vImm 5) (cD (.int 1)))))))) (aCons (oEq (oOp rCatTT (oEq (oSlT (oEqT (vImm 1)) pNone (pSome (vImm 5)))) (oEq (oSlT (oEqT (vImm 1)) (pSome (oOp rAddI (vImm 5) (cD (.int 1)))) pNone)))) (aCons (oEq (oFrz (oEq (oCall gList (aCons (vImm 6) aNil))))) (aCons (oEq (oRevT (oEqT (vImm 1)))) aNil)))))))))))
    (sRet (oFn sp__law_pick 2 false (cIo 0 (cVal (vImm 7) cNil))))))))
abbrev VC__law_other_1 : Prop := VC [0] N__law_other_1 P__law_other_1 sp__law_other_1 tb__law_other_1
abbrev N__law_other_2 : List Str := ["_law_tape", "_law_thing", "_law_many", "_law_count", "_law_odd", "_law_at", "_law_cut", "_law_some"]
abbrev P__law_other_2 : List Str := ["_law_tape", "_law_thing", "_law_many", "_law_count"]
def tb__law_other_2 : TXS := (sSeq (sIf (tOr2 (tNotT (tBl (oCall gIsi (aCons (vImm 1) (aCons (cD (.ty "tuple")) aNil))))) (tOr2 (tBl (oOp (rEqT false) (vImm 1) (oEq (oTup aNil)))) (tBl (oOp rEqI (oFn sp__law_draw 2 false (cIo 0 (cVal (cD (.int 4)) cNil))) (cD (.int 0)))))) (sSeq (sFz 4 (sSet 4 (oEq (oLst (aCons (cD (.int 0)) (aCons (cD (.int 1)) (aCons (oUn rNegI (cD (.int 1))) (aCons (vImm 3) (aCons (oOp rSubI (vImm 3) (cD (.int 1))) (aCons (oOp rSubI (cD (.int 0)) (vImm 2)) (aCons (cD (.bl true)) (aCons (cD (.bl false)) (aCons (cD .non) (aCons (cD (.str "0")) (aCons (oEq (oTup aNil)) (aCons (oEq (oFrz (oEq (oLst aNil)))) (aCons (oEq (oTup (aCons (cD (.int 0)) aNil))) (aCons (oEq (oOp rPowI (cD (.int 10)) (cD (.int 30)))) aNil))))))))))))))))))
    (sRet (oFn sp__law_pick 2 false (cIo 0 (cVal (oEq (oOp rCatT (vImm 4) (oEq (oSl (oEq (oLR (gR1 (vImm 3)))) pNone (pSome (cD (.int 9))))))) cNil))))) sNext)
    (sSeq (sSet 5 (oFn sp__law_draw 2 false (cIo 0 (cVal (oCall gLen (aCons (vImm 1) aNil)) cNil))))
    (sSeq (sSet 6 (oEq (oOp rCatTT (oEq (oOp rCatTT (oEq (oSlT (oEqT (vImm 1)) pNone (pSome (vImm 5)))) (oEq (oTup (aCons (oFn sp__law_other_3 4 false (cIo 0 (cVal (oIx (oEqT (vImm 1)) (vImm 5)) (cVal (vImm 2) (cVal (vImm 3) cNil))))) aNil))))) (oEq (oSlT (oEqT (vImm 1)) (pSome (oOp rAddI (vImm 5) (cD (.int 1)))) pNone)))))
    (sSeq (sFz 7 (sSet 7 (oEq (oLst (aCons (vImm 6) (aCons (vImm 6) (aCons (vImm 6) (aCons (oEq (oOp rCatTT (oEqT (vImm 1)) (oEq (oSlT (oEqT (vImm 1)) (pSome (vImm 5)) (pSome (oOp rAddI (vImm 5) (cD (.int 1)))))))) (aCons (oEq (oOp rCatTT (oEq (oSlT (oEqT (vImm 1)) pNone (pSome (vImm 5)))) (oEq (oSlT (oEqT (vImm 1)) (pSome (oOp rAddI (vImm 5) (cD (.int 1)))) pNone)))) (aCons (oEq (oFrz (oEq (oCall gList (aCons (vImm 6) aNil))))) (aCons (oEq (oRevT (oEqT (vImm 1)))) aNil)))))))))))
    (sRet (oFn sp__law_pick 2 false (cIo 0 (cVal (vImm 7) cNil))))))))
abbrev VC__law_other_2 : Prop := VC [0] N__law_other_2 P__law_other_2 sp__law_other_2 tb__law_other_2
abbrev N__law_other_3 : List Str := ["_law_tape", "_law_thing", "_law_many", "_law_count", "_law_odd", "_law_at", "_law_cut", "_law_some"]
abbrev P__law_other_3 : List Str := ["_law_tape", "_law_thing", "_law_many", "_law_count"]
def tb__law_other_3 : TXS := (sSeq (sIf (tOr2 (tNotT (tBl (oCall gIsi (aCons (vImm 1) (aCons (cD (.ty "tuple")) aNil))))) (tOr2 (tBl (oOp (rEqT false) (vImm 1) (oEq (oTup aNil)))) (tBl (oOp rEqI (oFn sp__law_draw 2 false (cIo 0 (cVal (cD (.int 4)) cNil))) (cD (.int 0)))))) (sSeq (sFz 4 (sSet 4 (oEq (oLst (aCons (cD (.int 0)) (aCons (cD (.int 1)) (aCons (oUn rNegI (cD (.int 1))) (aCons (vImm 3) (aCons (oOp rSubI (vImm 3) (cD (.int 1))) (aCons (oOp rSubI (cD (.int 0)) (vImm 2)) (aCons (cD (.bl true)) (aCons (cD (.bl false)) (aCons (cD .non) (aCons (cD (.str "0")) (aCons (oEq (oTup aNil)) (aCons (oEq (oFrz (oEq (oLst aNil)))) (aCons (oEq (oTup (aCons (cD (.int 0)) aNil))) (aCons (oEq (oOp rPowI (cD (.int 10)) (cD (.int 30)))) aNil))))))))))))))))))
    (sRet (oFn sp__law_pick 2 false (cIo 0 (cVal (oEq (oOp rCatT (vImm 4) (oEq (oSl (oEq (oLR (gR1 (vImm 3)))) pNone (pSome (cD (.int 9))))))) cNil))))) sNext)
    (sSeq (sSet 5 (oFn sp__law_draw 2 false (cIo 0 (cVal (oCall gLen (aCons (vImm 1) aNil)) cNil))))
    (sSeq (sSet 6 (oEq (oOp rCatTT (oEq (oOp rCatTT (oEq (oSlT (oEqT (vImm 1)) pNone (pSome (vImm 5)))) (oEq (oTup (aCons (oFn sp__law_other_z 4 false (cIo 0 (cVal (oIx (oEqT (vImm 1)) (vImm 5)) (cVal (vImm 2) (cVal (vImm 3) cNil))))) aNil))))) (oEq (oSlT (oEqT (vImm 1)) (pSome (oOp rAddI (vImm 5) (cD (.int 1)))) pNone)))))
    (sSeq (sFz 7 (sSet 7 (oEq (oLst (aCons (vImm 6) (aCons (vImm 6) (aCons (vImm 6) (aCons (oEq (oOp rCatTT (oEqT (vImm 1)) (oEq (oSlT (oEqT (vImm 1)) (pSome (vImm 5)) (pSome (oOp rAddI (vImm 5) (cD (.int 1)))))))) (aCons (oEq (oOp rCatTT (oEq (oSlT (oEqT (vImm 1)) pNone (pSome (vImm 5)))) (oEq (oSlT (oEqT (vImm 1)) (pSome (oOp rAddI (vImm 5) (cD (.int 1)))) pNone)))) (aCons (oEq (oFrz (oEq (oCall gList (aCons (vImm 6) aNil))))) (aCons (oEq (oRevT (oEqT (vImm 1)))) aNil)))))))))))
    (sRet (oFn sp__law_pick 2 false (cIo 0 (cVal (vImm 7) cNil))))))))
abbrev VC__law_other_3 : Prop := VC [0] N__law_other_3 P__law_other_3 sp__law_other_3 tb__law_other_3
abbrev N__law_other_z : List Str := ["_law_tape", "_law_thing", "_law_many", "_law_count", "_law_odd", "_law_at", "_law_cut", "_law_some"]
abbrev P__law_other_z : List Str := ["_law_tape", "_law_thing", "_law_many", "_law_count"]
def tb__law_other_z : TXS := sNever
abbrev VC__law_other_z : Prop := VC [0] N__law_other_z P__law_other_z sp__law_other_z tb__law_other_z
end K05
namespace K05
open PySem PySem.Spec PyProof.Rows L2 TT
variable [Cls]
theorem vc_is_whole : VC_is_whole := by
  rintro env Qt hl ⟨thing, rfl, H⟩
  show tb_is_whole _ [some (eD thing)]
  refine ⟨_, rfl, (fzD _), bindK H fun b h1_ H => ⟨_, _, (tyT thing), b, rfl, (tyA_t h1_), (tyA_k h1_), _, rfl, bindK H fun t h3_ H => k_andVP h3_ ?_ fun hb Q' J H => ?_⟩⟩
  rotate_left
  · exact ⟨_, rfl, (fzD _), bindK H fun b1 h2_ H => ⟨_, _, (tyT thing), b1, rfl, (tyA_t h2_), (tyA_k h2_), _, rfl, valK H J⟩⟩
  exact (wpSome H :)
theorem vc__law_begun : VC__law_begun := by
  rintro env Qt hl ⟨script, rfl, H⟩
  show tb__law_begun _ [some ((eQ D.int) script)]
  refine ⟨_, rfl, ((fzQ fzI) _), _, rfl, _, rfl, (cut_fz fzI _ _ _), ((eL true D.int) (cutL script none (some 63))), (cutE _ _ _), _, (truL _), k_orT (y := [0]) ((eL true D.int)) rfl ?_ fun hb Q' J => ?_⟩
  rotate_left
  · exact ⟨((eL true D.int) [0]), rfl, J⟩
  exact ⟨_, rfl, _, rfl, _, rfl, (show [(Sum.inr "cells" : Key), (Sum.inr "spot" : Key), (Sum.inr "left" : Key)].Nodup by decide), ((eR3 true "cells" "spot" "left" (eL true D.int) D.int D.int) ((if (!(cutL script none (some 63)).isEmpty) = true then (cutL script none (some 63)) else [0]), 0, 0)), rfl, (wpSome H :)⟩
theorem vc__law_draw : VC__law_draw := by
  rintro env Qt hl ⟨tape, many, rfl, H⟩
  show tb__law_draw _ [some ((eR3 true "cells" "spot" "left" (eL true D.int) D.int D.int) tape), some (D.int many), none, none, none, none]
  refine bindK H fun tape1 h5_ H => ?_
  try refine nxI ?_
  refine g_joinI (fun (tape1 : ((List Int) × Int × Int)) (e_ : TT.Env) => ∃ j j1 j2 : Option D, e_ = [some ((eR3 true "cells" "spot" "left" (eL true D.int) D.int D.int) tape1), some (D.int many), j, j1, j2, none]) h5_ ?_ ?_
  rotate_left
  · intro K H
    refine ⟨_, rfl, _, (gR3_3 _), (fzI _), _, rfl, (fzI _), _, _, rfl, rfl, _, rfl, iteB (fun hb => ?_) (fun hb => ?_)⟩
    · have H := wpT hb H
      refine ⟨_, rfl, _, (gR3_2 _), (fzI _), _, rfl, _, (gR3_1 _), _, rfl, _, (lenL _), _, _, rfl, _, rfl, _, (gR3_1 _), _, rfl, (fzI _), _, rfl, _, rfl, _, rfl, (fzI _), bindK H fun _ h6_ H => ⟨_, _, rfl, rfl, (guard_of h6_), bindK H fun x h7_ H => ⟨_, (atL h7_), (fzI _), _, rfl, (fzI _), _, _, rfl, rfl, ((e2 D.int D.int) (x, (tape.2.1 + 1))), rfl, _, rfl, rfl, _, _, rfl, _, _, rfl, ⟨_, rfl⟩, rfl, _, _, rfl, (pR3_2 _ _), rfl, ?_⟩⟩⟩
      try refine nxI ?_
      refine envI (env' := [some ((eR3 true "cells" "spot" "left" (eL true D.int) D.int D.int) (tape.1, (tape.2.1 + 1), tape.2.2)), some (D.int many), some (D.int tape.2.1), some (D.int (tape.1.length : Int)), some (D.int x), none]) rfl ?_
      refine ⟨_, rfl, (fzI _), _, rfl, _, rfl, _, _, rfl, rfl, (show (0 : Int) < 2147483647 by decide), _, rfl, (fzI _), _, _, rfl, rfl, (.inl ⟨by decide, by decide⟩), _, _, rfl, rfl, _, _, rfl, rfl, bindK H fun _ h8_ H => ⟨_, _, rfl, rfl, (guard_of h8_), (D.int ((((x % 2147483647) + (69621 * tape.2.1)) + 48271) ^ (17 : Int).toNat)), rfl, _, rfl, _, rfl, _, _, rfl, rfl, (by decide), (D.int 100000000000000000000000000000000000000000000000000), (congrArg D.int (show (10 : Int) ^ (50 : Int).toNat = 100000000000000000000000000000000000000000000000000 by decide)), _, _, rfl, rfl, bindK H fun _ h9_ H => ⟨_, _, rfl, rfl, (guard_of h9_), ⟨_, rfl⟩, _, _, rfl, (pR3_3 _ _), _, rfl, (fzI _), _, _, rfl, rfl, (by decide), (D.int 1000000000000000000), (congrArg D.int (show (10 : Int) ^ (18 : Int).toNat = 1000000000000000000 by decide)), _, _, rfl, rfl, _, rfl, k_and (b' := (decide (tape.2.1 < (tape.1.length : Int)))) ?_ fun hb Q' J => ?_⟩⟩⟩
      rotate_left
      · exact ⟨_, rfl, (fzI _), _, rfl, (fzI _), _, _, rfl, rfl, _, rfl, J⟩
      refine iteB (fun hb => ?_) (fun hb => ?_)
      · have H := wpT hb H
        exact ⟨_, rfl, (fzI _), _, _, rfl, rfl, (by decide), (D.int 1000000000000000000), (congrArg D.int (show (10 : Int) ^ (18 : Int).toNat = 1000000000000000000 by decide)), _, _, rfl, rfl, ⟨_, rfl⟩, _, _, rfl, (pR3_3 _ _), nxK H ⟨_, _, _, rfl⟩⟩
      · have H := wpF hb H
        exact nxK H ⟨_, _, _, rfl⟩
    · have H := wpF hb H
      exact nxK H ⟨_, _, _, rfl⟩
  rintro _ ⟨j, j1, j2, rfl⟩
  exact ⟨_, rfl, _, (gR3_3 _), (fzI _), _, rfl, _, rfl, _, rfl, (fzI _), bindK H fun _ h10_ H => ⟨_, _, rfl, rfl, (guard_of h10_), _, rfl, _, (gR3_3 _), (fzI _), _, rfl, (fzI _), bindK H fun _ h11_ H => ⟨_, _, rfl, rfl, (guard_of h11_), ((e2 D.int D.int) ((tape1.2.2 % many), (tape1.2.2 / many))), rfl, _, rfl, rfl, _, _, rfl, _, _, rfl, ⟨_, rfl⟩, rfl, _, _, rfl, (pR3_3 _ _), rfl, _, rfl, (fzI _), (wpSome H :)⟩⟩⟩
theorem vc__law_road_end : VC__law_road_end := by
  rintro env Qt hl ⟨bans, side, numbers, rfl, H⟩
  show tb__law_road_end _ [some ((eL false (e2 D.int D.int)) bans), some (D.int side), some (eD numbers), none, none, none, none]
  refine ⟨_, rfl, (fzI _), _, rfl, (fzD _), bindK H fun x h1_ H => ⟨((eT eD) x), (asT_e h1_), (List.map eD x), rfl, (List.map eD x), (frzL_e fzD _), bindK H fun fl h2_ H => ?_⟩⟩
  have Ho3_ := H
  refine p_forF (fun (here : Int) (e_ : TT.Env) => ∃ j j1 j2 : Option D, e_ = [some ((eL false (e2 D.int D.int)) bans), some (D.int side), some (eD numbers), some (D.int here), j, j1, j2]) rfl h2_ ⟨_, _, _, rfl⟩ ?_ ?_
  rotate_left
  · rintro number here _ K ⟨j, j1, j2, rfl⟩ H
    refine of_gNm ?_
    refine ⟨_, rfl, (fzD _), bindK H fun b h4_ H => ⟨_, _, (tyT number), b, rfl, (tyA_t h4_), (tyA_k h4_), _, rfl, bindK H fun t1 h8_ H => k_orP h8_ ?_ fun hb Q' J H => ?_⟩⟩
    rotate_left
    · refine ⟨_, rfl, (fzD _), bindK H fun b1 h5_ H => ⟨_, _, (tyT number), b1, rfl, (tyA_t h5_), (tyA_k h5_), _, rfl, bindK H fun t h7_ H => k_orP h7_ ?_ fun hb Q' J H => ?_⟩⟩
      rotate_left
      · refine ⟨_, rfl, (fzD _), bindK H fun x1 h6_ H => ⟨(D.int x1), (asI_e h6_), _, _, rfl, rfl, _, rfl, k_andV (b' := (decide (x1 < (bans.length : Int)))) ?_ fun hb Q' J => ?_⟩⟩
        rotate_left
        · exact ⟨_, rfl, ((fzL (fz2 fzI fzI)) _), _, rfl, _, (lenL _), _, _, rfl, rfl, J⟩
        exact ⟨_, rfl, valB H J⟩
      exact valB H J
    refine iteB (fun hb => ?_) (fun hb => ?_)
    · have H := wpT hb H
      have H := retK H
      rw [H] at Ho3_
      have H := Ho3_
      exact (wpSome H :)
    · have H := wpF hb H
      refine ⟨_, rfl, (fzI _), _, rfl, ((fzL (fz2 fzI fzI)) _), _, rfl, (fzD _), bindK H fun x2 h9_ H => ⟨(D.int x2), (asI_e h9_), bindK H fun x3 h10_ H => ⟨_, (atL h10_), _, rfl, (cmpD_py cmpI ((fun _ => rfl) _) ((cmpI.ok) _)), ((cmpT cmpI).cmpD (by decide) [x3.1, x3.2]), (!decide (here ∈ [x3.1, x3.2])), (cmpI.in2N (fun _ => rfl) _ [x3.1, x3.2]), iteB (fun hb => ?_) (fun hb => ?_)⟩⟩⟩
      · have H := wpT hb H
        have H := retK H
        rw [H] at Ho3_
        have H := Ho3_
        exact (wpSome H :)
      · have H := wpF hb H
        refine ⟨_, rfl, ((fzL (fz2 fzI fzI)) _), _, rfl, (fzD _), bindK H fun x4 h11_ H => ⟨(D.int x4), (asI_e h11_), bindK H fun x5 h12_ H => ⟨_, (atL h12_), _, rfl, rfl, _, _, rfl, _, _, rfl, rfl, _, rfl, (fzI _), _, rfl, (fzI _), _, _, rfl, rfl, _, rfl, k_if (e := D.int) (x := (0 - x5.2)) (y := (0 - x5.1)) ?_ (fun hb Q' J => ?_) (fun hb Q' J => ?_)⟩⟩⟩
        rotate_left
        · exact ⟨_, rfl, (fzI _), _, _, rfl, rfl, J⟩
        · exact ⟨_, rfl, (fzI _), _, _, rfl, rfl, J⟩
        exact goK H ⟨_, _, _, rfl⟩
  rintro here hfl_ _ ⟨j, j1, j2, rfl⟩
  rw [hfl_] at Ho3_
  have H := Ho3_
  exact ⟨_, rfl, (fzI _), (wpSome H :)⟩
theorem vc__law_roads : VC__law_roads := by
  rintro env Qt hl ⟨many, bans, side, rfl, H⟩
  show tb__law_roads _ [some (D.int many), some ((eL false (e2 D.int D.int)) bans), some (D.int side), none, none, none, none, none, none]
  refine ⟨_, rfl, (fzI _), ((eL true D.int) []), rfl, _, rfl, (by simp), ((eK true (eL true D.int)) [(side, [])]), rfl, _, rfl, (fzI _), ((eL true D.int) [side]), rfl, _, _, _, rfl, ?_⟩
  try refine nxI ?_
  refine envI (env' := [some (D.int many), some ((eL false (e2 D.int D.int)) bans), some (D.int side), some ((eK true (eL true D.int)) [(side, [])]), some ((eL true D.int) [side]), some (D.int 0), none, none, none]) rfl ?_
  refine bindK H fun fl h1_ H => ?_
  have Ho2_ := H
  try refine nxI ?_
  refine p_whileS (fun (s_ : (List (Int × (List Int))) × (List Int) × Int) (e_ : TT.Env) => match s_ with | (found, row, at_) => ∃ j j1 j2 : Option D, e_ = [some (D.int many), some ((eL false (e2 D.int D.int)) bans), some (D.int side), some ((eK true (eL true D.int)) found), some ((eL true D.int) row), some (D.int at_), j, j1, j2]) h1_ ⟨_, _, _, rfl⟩ ?_ ?_
  rotate_left
  · rintro ⟨found, row, at_⟩ _ K ⟨j, j1, j2, rfl⟩ H
    refine ⟨_, rfl, (fzI _), _, rfl, _, rfl, _, (lenL _), _, _, rfl, rfl, _, rfl, iteB (fun hb => ?_) (fun hb => ?_)⟩
    · have H := wpT hb H
      refine ⟨_, rfl, ((fzL (fz2 fzI fzI)) _), _, rfl, _, (lenL _), bindK H fun r h3_ H => ⟨_, rfl, (rng_ok h3_).1, (rng_ok h3_).2, (List.map D.int r), (rngE h3_), bindK H fun w_ h4_ H => ?_⟩⟩
      obtain ⟨found1, row1⟩ := w_
      refine g_for (fun (s_ : (List (Int × (List Int))) × (List Int)) (e_ : TT.Env) => match s_ with | (found1, row1) => ∃ j3 j4 j5 : Option D, e_ = [some (D.int many), some ((eL false (e2 D.int D.int)) bans), some (D.int side), some ((eK true (eL true D.int)) found1), some ((eL true D.int) row1), some (D.int at_), j3, j4, j5]) rfl h4_ ⟨_, _, _, rfl⟩ ?_ ?_
      rotate_left
      · rintro number ⟨found1, row1⟩ _ K ⟨j3, j4, j5, rfl⟩ H
        refine of_gNm ?_
        refine ⟨_, rfl, ((fzL (fz2 fzI fzI)) _), _, rfl, (fzI _), bindK H fun x h6_ H => ⟨_, (atL h6_), _, rfl, ((fzL (fz2 fzI fzI)) _), _, rfl, (fzI _), bindK H fun x1 h7_ H => ⟨_, (atL h7_), _, _, rfl, (fzI _), (fzI _), ((e2 D.int D.int) (x1.2, x1.1)), rfl, ((eL true (e2 D.int D.int)) [x, (x1.2, x1.1)]), rfl, (List.map (e2 D.int D.int) [x, (x1.2, x1.1)]), rfl, (List.map (e2 D.int D.int) [x, (x1.2, x1.1)]), (frzL_e (fz2 fzI fzI) _), bindK H fun w_ h8_ H => ?_⟩⟩⟩
        obtain ⟨found2, row2⟩ := w_
        refine g_for (fun (s_ : (List (Int × (List Int))) × (List Int)) (e_ : TT.Env) => match s_ with | (found2, row2) => ∃ j6 j7 : Option D, e_ = [some (D.int many), some ((eL false (e2 D.int D.int)) bans), some (D.int side), some ((eK true (eL true D.int)) found2), some ((eL true D.int) row2), some (D.int at_), some (D.int number), j6, j7]) rfl h8_ ⟨_, _, rfl⟩ ?_ ?_
        rotate_left
        · rintro ⟨one, other⟩ ⟨found2, row2⟩ _ K ⟨j6, j7, rfl⟩ H
          refine ⟨_, rfl, rfl, _, _, rfl, _, _, rfl, rfl, _, rfl, (fzI _), _, rfl, _, rfl, (fzI _), bindK H fun x2 h10_ H => ⟨_, (atL h10_), (fzI _), _, _, rfl, rfl, _, rfl, k_and (b' := (!dHas found2 (0 - other))) ?_ fun hb Q' J => ?_⟩⟩
          rotate_left
          · exact ⟨_, rfl, (fzI _), _, _, rfl, rfl, _, rfl, _, (hasK' _ _), (!dHas found2 (0 - other)), (hasN _ _), J⟩
          refine iteB (fun hb => ?_) (fun hb => ?_)
          · have H := wpT hb H
            exact ⟨_, rfl, _, rfl, _, rfl, (fzI _), bindK H fun x3 h11_ H => ⟨_, (atL h11_), (fzI _), bindK H fun v h12_ H => ⟨_, (getK h12_), _, rfl, (fzI _), ((eL true D.int) [number]), rfl, bindK H fun zs h13_ H => ⟨_, _, _, _, rfl, rfl, (frzL_m fzI _), (frzL_m fzI _), (cat_le h13_), ((eL true D.int) zs), (catE h13_), ⟨_, rfl⟩, _, rfl, (fzI _), _, _, rfl, rfl, bindK H fun found3 h14_ H => ⟨_, _, rfl, (putK h14_), ⟨_, _, rfl⟩, _, rfl, (fzI _), _, _, rfl, rfl, bindK H fun row3 h15_ H => ⟨_, rfl, (push_lt h15_), _, (setEq (pushE h15_)), nxK H ⟨_, _, rfl⟩⟩⟩⟩⟩⟩⟩
          · have H := wpF hb H
            exact nxK H ⟨_, _, rfl⟩
        rintro _ ⟨j6, j7, rfl⟩
        exact nxK H ⟨_, _, _, rfl⟩
      rintro _ ⟨j3, j4, j5, rfl⟩
      refine ⟨_, rfl, (fzI _), _, _, rfl, rfl, ?_⟩
      show TEnds.nx _ _
      refine nxI ?_
      exact goK H ⟨_, _, _, rfl⟩
    · have H := wpF hb H
      exact brkK H ⟨_, _, _, rfl⟩
  rintro ⟨found, row, at_⟩ hfl_ _ ⟨j, j1, j2, rfl⟩
  rw [hfl_] at Ho2_
  have H := Ho2_
  exact ⟨_, rfl, (wpSome H :)⟩
theorem vc__law_other_z : VC__law_other_z := by
  rintro env Qt hl ⟨tape, thing, many, count, rfl, H⟩
  show tb__law_other_z _ [some ((eR3 true "cells" "spot" "left" (eL true D.int) D.int D.int) tape), some (eD thing), some (D.int many), some (D.int count), none, none, none, none]
  exact wpNone H
theorem vc_is_side : VC_is_side := by
  rintro env Qt hl ⟨many, thing, rfl, H⟩
  show tb_is_side _ [some (D.int many), some (eD thing)]
  refine ⟨_, rfl, (fzD _), rfl, bindK H fun r h1_ H => ⟨thing, (consE (someE (fzD _)) rfl), _, h1_, (fun z => Bool.noConfusion z), _, rfl, bindK H fun t h3_ H => k_andVP h3_ ?_ fun hb Q' J H => ?_⟩⟩
  rotate_left
  · refine ⟨_, rfl, (fzD _), bindK H fun x h2_ H => ⟨(D.int x), (asI_e h2_), _, rfl, _, rfl, (D.int (absI x)), rfl, _, _, rfl, rfl, _, rfl, k_andV (b' := (decide ((absI x) ≤ many))) ?_ fun hb Q' J => ?_⟩⟩
    rotate_left
    · exact ⟨_, rfl, (fzI _), _, _, rfl, rfl, J⟩
    exact ⟨(D.bl ((decide (1 ≤ (absI x))) && (decide ((absI x) ≤ many)))), rfl, valK H J⟩
  exact (wpSome H :)
theorem vc_end_of : VC_end_of := by
  rintro env Qt hl ⟨bans, side, thing, rfl, H⟩
  show tb_end_of _ [some ((eL false (e2 D.int D.int)) bans), some (D.int side), some (eD thing), none, none, none]
  refine ⟨_, rfl, (fzD _), bindK H fun b h1_ H => ⟨_, _, (tyT thing), b, rfl, (tyA_t h1_), (tyA_k h1_), _, rfl, iteB (fun hb => ?_) (fun hb => ?_)⟩⟩
  · have H := wpT hb H
    exact (wpSome H :)
  · have H := wpF hb H
    refine ⟨_, rfl, (fzD _), bindK H fun x h2_ H => ⟨((eT eD) x), (asT_e h2_), (List.map eD x), rfl, (List.map eD x), (frzL_e fzD _), bindK H fun fl h3_ H => ?_⟩⟩
    have Ho4_ := H
    refine p_forF (fun (side1 : Int) (e_ : TT.Env) => ∃ j j1 j2 : Option D, e_ = [some ((eL false (e2 D.int D.int)) bans), some (D.int side1), some (eD thing), j, j1, j2]) rfl h3_ ⟨_, _, _, rfl⟩ ?_ ?_
    rotate_left
    · rintro number side1 _ K ⟨j, j1, j2, rfl⟩ H
      refine of_gNm ?_
      refine ⟨_, rfl, (fzD _), rfl, bindK H fun r h5_ H => ⟨number, (consE (someE (fzD _)) rfl), _, h5_, (fun z => Bool.noConfusion z), _, rfl, bindK H fun t1 h10_ H => k_orP h10_ ?_ fun hb Q' J H => ?_⟩⟩
      rotate_left
      · refine ⟨_, rfl, (fzD _), bindK H fun x1 h6_ H => ⟨(D.int x1), (asI_e h6_), _, _, rfl, rfl, _, rfl, k_andV (b' := (decide (x1 < (bans.length : Int)))) ?_ fun hb Q' J => ?_⟩⟩
        rotate_left
        · exact ⟨_, rfl, ((fzL (fz2 fzI fzI)) _), _, rfl, _, (lenL _), _, _, rfl, rfl, J⟩
        refine ⟨_, rfl, bindK H fun t h9_ H => k_orP h9_ ?_ fun hb Q' J H => ?_⟩
        rotate_left
        · exact ⟨_, rfl, (fzI _), _, rfl, ((fzL (fz2 fzI fzI)) _), _, rfl, (fzD _), bindK H fun x2 h7_ H => ⟨(D.int x2), (asI_e h7_), bindK H fun x3 h8_ H => ⟨_, (atL h8_), _, rfl, (cmpD_py cmpI ((fun _ => rfl) _) ((cmpI.ok) _)), ((cmpT cmpI).cmpD (by decide) [x3.1, x3.2]), (!decide (side1 ∈ [x3.1, x3.2])), (cmpI.in2N (fun _ => rfl) _ [x3.1, x3.2]), valB H J⟩⟩⟩
        exact valB H J
      refine iteB (fun hb => ?_) (fun hb => ?_)
      · have H := wpT hb H
        have H := retK H
        rw [H] at Ho4_
        have H := Ho4_
        exact (wpSome H :)
      · have H := wpF hb H
        refine ⟨_, rfl, ((fzL (fz2 fzI fzI)) _), _, rfl, (fzD _), bindK H fun x4 h11_ H => ⟨(D.int x4), (asI_e h11_), bindK H fun x5 h12_ H => ⟨_, (atL h12_), _, rfl, rfl, _, _, rfl, _, _, rfl, rfl, _, rfl, (fzI _), _, rfl, (fzI _), _, _, rfl, rfl, _, rfl, k_if (e := D.int) (x := (-x5.2)) (y := (-x5.1)) ?_ (fun hb Q' J => ?_) (fun hb Q' J => ?_)⟩⟩⟩
        rotate_left
        · exact ⟨_, rfl, (fzI _), _, rfl, J⟩
        · exact ⟨_, rfl, (fzI _), _, rfl, J⟩
        exact goK H ⟨_, _, _, rfl⟩
    rintro side1 hfl_ _ ⟨j, j1, j2, rfl⟩
    rw [hfl_] at Ho4_
    have H := Ho4_
    exact ⟨_, rfl, (fzI _), (wpSome H :)⟩
theorem vc__law_pick : VC__law_pick := by
  rintro env Qt hl ⟨α, eα, qα, sqα, zα, tape, some_, rfl, H⟩
  show tb__law_pick _ [some ((eR3 true "cells" "spot" "left" (eL true D.int) D.int D.int) tape), some (qα some_)]
  refine ⟨_, rfl, (sqα.fz _), ⟨_, rfl⟩, _, rfl, (sqα.fz _), _, rfl, _, (sqα.len _), rfl, bindK H fun w_ h1_ H => ?_⟩
  obtain ⟨r, tape1⟩ := w_
  exact ⟨tape, (some_.length : Int), (consE rfl (consE (someE (fzI _)) rfl)), _, h1_, (fun z => Bool.noConfusion z), bindK H fun x h2_ H => ⟨_, (sqα.at_ h2_), (wpSome H :)⟩⟩
theorem vc__law_shuffled : VC__law_shuffled := by
  rintro env Qt hl ⟨α, dα, eα, zα, cα, tape, some_, rfl, H⟩
  show tb__law_shuffled _ [some ((eR3 true "cells" "spot" "left" (eL true D.int) D.int D.int) tape), some ((eL false eα) some_), none, none]
  refine ⟨_, rfl, ((fzL zα) _), _, rfl, _, rfl, (frzL_m zα _), ((eL true eα) some_), rfl, ((eL true eα) []), rfl, _, _, rfl, bindK H fun fl h1_ H => ?_⟩
  have Ho2_ := H
  try refine nxI ?_
  refine p_whileS (fun (s_ : ((List Int) × Int × Int) × (List α) × (List α)) (e_ : TT.Env) => match s_ with | (tape1, left, found) => e_ = [some ((eR3 true "cells" "spot" "left" (eL true D.int) D.int D.int) tape1), some ((eL false eα) some_), some ((eL true eα) left), some ((eL true eα) found)]) h1_ rfl ?_ ?_
  rotate_left
  · rintro ⟨tape1, left, found⟩ _ K rfl H
    refine ⟨_, rfl, ((eL true eα) []), rfl, (cmpD_py (cmpL cα false) ((pyLL (fun _ => rfl)) _) ((okL (cα.ok)) _)), (cmpD_py (cmpL cα false) ((pyLL (fun _ => rfl)) _) ((okL (cα.ok)) _)), (!decide (left = [])), ((cmpL cα false).eqN ((pyLL (fun _ => rfl)) _) ((pyLL (fun _ => rfl)) _)), iteB (fun hb => ?_) (fun hb => ?_)⟩
    · have H := wpT hb H
      refine ⟨⟨_, _, rfl⟩, _, rfl, rfl, ⟨_, rfl⟩, _, rfl, _, rfl, _, (lenL _), rfl, bindK H fun w_ h3_ H => ?_⟩
      obtain ⟨r, tape2⟩ := w_
      refine ⟨tape1, (left.length : Int), (consE rfl (consE (someE (fzI _)) rfl)), _, h3_, (fun z => Bool.noConfusion z), bindK H fun w_ h4_ H => ?_⟩
      obtain ⟨y, xs⟩ := w_
      exact (popE (e := eα) h4_).elim fun j_ hj_ => ⟨_, _, _, _, rfl, rfl, (pop_lo h4_), (pop_hi h4_), hj_.1, hj_.2.1, (zα _), _, (setEq hj_.2.2), bindK H fun found1 h5_ H => ⟨_, rfl, (push_lt h5_), _, (setEq (pushE h5_)), goK H rfl⟩⟩
    · have H := wpF hb H
      exact brkK H rfl
  rintro ⟨tape1, left, found⟩ hfl_ _ rfl
  rw [hfl_] at Ho2_
  have H := Ho2_
  exact ⟨_, rfl, (wpSome H :)⟩
theorem vc__law_due : VC__law_due := by
  rintro env Qt hl ⟨many, bans, thing, rfl, H⟩
  show tb__law_due _ [some (D.int many), some ((eL false (e2 D.int D.int)) bans), some (eD thing), none]
  refine ⟨_, rfl, (fzD _), bindK H fun b h1_ H => ⟨_, _, (tyT thing), b, rfl, (tyA_t h1_), (tyA_k h1_), _, rfl, bindK H fun t1 h7_ H => k_orP h7_ ?_ fun hb Q' J H => ?_⟩⟩
  rotate_left
  · refine ⟨_, rfl, (fzD _), bindK H fun n h2_ H => ⟨_, rfl, _, h2_, _, _, rfl, rfl, _, rfl, bindK H fun t h6_ H => k_orP h6_ ?_ fun hb Q' J H => ?_⟩⟩
    rotate_left
    · exact ⟨_, rfl, (fzD _), bindK H fun x h3_ H => ⟨((eT eD) x), (asT_e h3_), bindK H fun x1 h4_ H => ⟨_, (atT h4_), bindK H fun b1 h5_ H => ⟨_, _, (tyT x1), b1, rfl, (tyA_t h5_), (tyA_k h5_), _, rfl, valB H J⟩⟩⟩⟩
    exact valB H J
  refine iteB (fun hb => ?_) (fun hb => ?_)
  · have H := wpT hb H
    exact (wpSome H :)
  · have H := wpF hb H
    refine ⟨_, rfl, (fzD _), bindK H fun x2 h8_ H => ⟨((eT eD) x2), (asT_e h8_), bindK H fun x3 h9_ H => ⟨_, (atT h9_), _, rfl, (fzD _), bindK H fun b2 h10_ H => ⟨_, _, (tyT x3), b2, rfl, (tyA_t h10_), (tyA_k h10_), _, rfl, bindK H fun t3 h14_ H => k_orP h14_ ?_ fun hb Q' J H => ?_⟩⟩⟩⟩
    rotate_left
    · refine ⟨_, rfl, (fzD _), bindK H fun b3 h11_ H => ⟨_, _, (tyT x3), b3, rfl, (tyA_t h11_), (tyA_k h11_), _, rfl, bindK H fun t2 h13_ H => k_orP h13_ ?_ fun hb Q' J H => ?_⟩⟩
      rotate_left
      · refine ⟨_, rfl, (fzD _), bindK H fun x4 h12_ H => ⟨(D.int x4), (asI_e h12_), _, rfl, _, rfl, (D.int (absI x4)), rfl, _, _, rfl, rfl, _, rfl, k_andV (b' := (decide ((absI x4) ≤ many))) ?_ fun hb Q' J => ?_⟩⟩
        rotate_left
        · exact ⟨_, rfl, (fzI _), _, _, rfl, rfl, J⟩
        exact ⟨_, rfl, valB H J⟩
      exact valB H J
    refine iteB (fun hb => ?_) (fun hb => ?_)
    · have H := wpT hb H
      exact (wpSome H :)
    · have H := wpF hb H
      refine ⟨_, rfl, (fzD _), bindK H fun x5 h15_ H => ⟨((eT eD) x5), (asT_e h15_), bindK H fun x6 h16_ H => ⟨_, (atT h16_), bindK H fun b4 h17_ H => ⟨_, _, (tyT x6), b4, rfl, (tyA_t h17_), (tyA_k h17_), _, rfl, iteB (fun hb => ?_) (fun hb => ?_)⟩⟩⟩⟩
      · have H := wpT hb H
        exact (wpSome H :)
      · have H := wpF hb H
        refine ⟨_, rfl, ((fzL (fz2 fzI fzI)) _), _, rfl, (fzD _), bindK H fun x7 h18_ H => ⟨(D.int x7), (asI_e h18_), _, rfl, (fzD _), bindK H fun x8 h19_ H => ⟨((eT eD) x8), (asT_e h19_), bindK H fun x9 h20_ H => ⟨_, (atT h20_), rfl, bindK H fun r h21_ H => ⟨bans, x7, x9, (consE (someE ((fzL (fz2 fzI fzI)) _)) (consE (someE (fzI _)) (consE (someE (fzD _)) rfl))), _, h21_, (fun z => Bool.noConfusion z), _, rfl, (fzD _), bindK H fun i h22_ H => ⟨_, i, rfl, h22_, _, _, rfl, rfl, (D.bl (decide (r = (0 - i)))), rfl, _, rfl, bindK H fun t4 h28_ H => k_andVP h28_ ?_ fun hb Q' J H => ?_⟩⟩⟩⟩⟩⟩
        rotate_left
        · exact ⟨_, rfl, ((fzL (fz2 fzI fzI)) _), _, rfl, (fzD _), bindK H fun i1 h23_ H => ⟨_, i1, rfl, h23_, _, rfl, (fzD _), bindK H fun x10 h24_ H => ⟨((eT eD) x10), (asT_e h24_), bindK H fun x11 h25_ H => ⟨_, (atT h25_), rfl, bindK H fun r2 h26_ H => ⟨bans, (0 - i1), x11, (consE (someE ((fzL (fz2 fzI fzI)) _)) (consE (someE (fzI _)) (consE (someE (fzD _)) rfl))), _, h26_, (fun z => Bool.noConfusion z), _, rfl, (fzD _), bindK H fun _ h27_ H => ⟨(guard_of h27_).1, (guard_of h27_).2, (D.bl (eqA (inD D.int fzI r2) x3)), rfl, valK H J⟩⟩⟩⟩⟩⟩
        exact (wpSome H :)
theorem vc_is_nothing : VC_is_nothing := by
  rintro env Qt hl ⟨many, bans, thing, rfl, H⟩
  show tb_is_nothing _ [some (D.int many), some ((eL false (e2 D.int D.int)) bans), some (eD thing), none, none, none]
  refine ⟨_, rfl, (fzD _), bindK H fun b h1_ H => ⟨_, _, (tyT thing), b, rfl, (tyA_t h1_), (tyA_k h1_), _, rfl, bindK H fun t1 h7_ H => k_orP h7_ ?_ fun hb Q' J H => ?_⟩⟩
  rotate_left
  · refine ⟨_, rfl, (fzD _), bindK H fun n h2_ H => ⟨_, rfl, _, h2_, _, _, rfl, rfl, _, rfl, bindK H fun t h6_ H => k_orP h6_ ?_ fun hb Q' J H => ?_⟩⟩
    rotate_left
    · exact ⟨_, rfl, (fzI _), _, rfl, (fzD _), bindK H fun x h3_ H => ⟨((eT eD) x), (asT_e h3_), bindK H fun x1 h4_ H => ⟨_, (atT h4_), rfl, bindK H fun r h5_ H => ⟨many, x1, (consE (someE (fzI _)) (consE (someE (fzD _)) rfl)), _, h5_, (fun z => Bool.noConfusion z), _, rfl, valB H J⟩⟩⟩⟩
    exact valB H J
  refine iteB (fun hb => ?_) (fun hb => ?_)
  · have H := wpT hb H
    exact (wpSome H :)
  · have H := wpF hb H
    refine ⟨_, rfl, (fzD _), bindK H fun x2 h8_ H => ⟨((e3 eD eD eD) x2), (as3_e h8_), _, rfl, rfl, _, _, rfl, _, _, rfl, _, _, rfl, rfl, ?_⟩⟩
    try refine nxI ?_
    refine envI (env' := [some (D.int many), some ((eL false (e2 D.int D.int)) bans), some (eD thing), some (eD x2.1), some (eD x2.2.1), some (eD x2.2.2)]) rfl ?_
    refine ⟨_, rfl, ((fzL (fz2 fzI fzI)) _), _, rfl, (fzD _), bindK H fun x3 h9_ H => ⟨(D.int x3), (asI_e h9_), _, rfl, (fzD _), rfl, bindK H fun r1 h10_ H => ⟨bans, x3, x2.2.1, (consE (someE ((fzL (fz2 fzI fzI)) _)) (consE (someE (fzI _)) (consE (someE (fzD _)) rfl))), _, h10_, (fun z => Bool.noConfusion z), _, rfl, (fzD _), bindK H fun x4 h11_ H => ⟨(D.int x4), (asI_e h11_), _, rfl, (cmpD_py (a := r1) (cmpO cmpI nnI) (by rfl) (((cmpO cmpI nnI).ok) r1)), (cmpD_py (a := (some (-x4))) (cmpO cmpI nnI) (by rfl) (((cmpO cmpI nnI).ok) (some (-x4)))), (D.bl (decide (r1 = (some (-x4))))), ((cmpO cmpI nnI).eqF (by rfl) (by rfl)), _, rfl, bindK H fun t2 h15_ H => k_andVP h15_ ?_ fun hb Q' J H => ?_⟩⟩⟩⟩
    rotate_left
    · exact ⟨_, rfl, ((fzL (fz2 fzI fzI)) _), _, rfl, (fzD _), bindK H fun x5 h12_ H => ⟨(D.int x5), (asI_e h12_), _, rfl, _, rfl, (fzD _), rfl, bindK H fun r2 h13_ H => ⟨bans, (-x5), x2.2.2, (consE (someE ((fzL (fz2 fzI fzI)) _)) (consE (someE (fzI _)) (consE (someE (fzD _)) rfl))), _, h13_, (fun z => Bool.noConfusion z), _, rfl, (fzD _), bindK H fun _ h14_ H => ⟨(guard_of h14_).1, (guard_of h14_).2, (D.bl (eqA (inD (eO D.int) (fzO fzI) r2) x2.1)), rfl, valK H J⟩⟩⟩⟩
    exact (wpSome H :)
theorem vc__law_side : VC__law_side := by
  rintro env Qt hl ⟨tape, many, rfl, H⟩
  show tb__law_side _ [some ((eR3 true "cells" "spot" "left" (eL true D.int) D.int D.int) tape), some (D.int many)]
  refine ⟨⟨_, rfl⟩, _, rfl, (fzI _), rfl, bindK H fun w_ h1_ H => ?_⟩
  obtain ⟨r, tape1⟩ := w_
  refine ⟨tape, many, (consE rfl (consE (someE (fzI _)) rfl)), _, h1_, (fun z => Bool.noConfusion z), _, _, rfl, rfl, ⟨_, rfl⟩, _, rfl, ((eL true D.int) [1, (-1)]), rfl, rfl, bindK H fun w_ h2_ H => ?_⟩
  obtain ⟨r2, tape2⟩ := w_
  exact ⟨Int, D.int, (eL false D.int), (seL fzI), fzI, tape1, [1, (-1)], (consE rfl (consE (someE ((fzL fzI) _)) rfl)), _, h2_, (fun z => Bool.noConfusion z), bindK H fun _ h3_ H => ⟨_, _, rfl, rfl, (guard_of h3_), (wpSome H :)⟩⟩
theorem vc__law_other_3 : VC__law_other_3 := by
  rintro env Qt hl ⟨tape, thing, many, count, rfl, H⟩
  show tb__law_other_3 _ [some ((eR3 true "cells" "spot" "left" (eL true D.int) D.int D.int) tape), some (eD thing), some (D.int many), some (D.int count), none, none, none, none]
  refine ⟨_, rfl, (fzD _), bindK H fun b h1_ H => ⟨_, _, (tyT thing), b, rfl, (tyA_t h1_), (tyA_k h1_), _, rfl, bindK H fun w_ h5_ H => ?_⟩⟩
  obtain ⟨t1, tape3⟩ := w_
  refine k_orE (fun (s_ : ((List Int) × Int × Int)) => match s_ with | tape3 => [some ((eR3 true "cells" "spot" "left" (eL true D.int) D.int D.int) tape3), some (eD thing), some (D.int many), some (D.int count), none, none, none, none]) h5_ rfl ?_ fun hb Q' H => ?_
  rotate_left
  · refine ⟨_, rfl, (fzD _), ((eT eN) []), rfl, bindK H fun _ h2_ H => ⟨(guard_of h2_).1, (guard_of h2_).2, (eqA thing (inD (eT eN) (fzT fzN) [])), rfl, bindK H fun w_ h4_ H => ?_⟩⟩
    obtain ⟨t, tape2⟩ := w_
    refine k_orE (fun (s_ : ((List Int) × Int × Int)) => match s_ with | tape2 => [some ((eR3 true "cells" "spot" "left" (eL true D.int) D.int D.int) tape2), some (eD thing), some (D.int many), some (D.int count), none, none, none, none]) h4_ rfl ?_ fun hb Q' H => ?_
    rotate_left
    · refine ⟨⟨_, rfl⟩, rfl, bindK H fun w_ h3_ H => ?_⟩
      obtain ⟨r, tape1⟩ := w_
      exact ⟨tape, 4, (consE rfl (consE (someE (fzI _)) rfl)), _, h3_, (fun z => Bool.noConfusion z), _, _, rfl, rfl, _, rfl, vtT (en := fun (s_ : ((List Int) × Int × Int)) => match s_ with | tape2 => [some ((eR3 true "cells" "spot" "left" (eL true D.int) D.int D.int) tape2), some (eD thing), some (D.int many), some (D.int count), none, none, none, none]) H rfl⟩
    exact vtT (en := fun (s_ : ((List Int) × Int × Int)) => match s_ with | tape3 => [some ((eR3 true "cells" "spot" "left" (eL true D.int) D.int D.int) tape3), some (eD thing), some (D.int many), some (D.int count), none, none, none, none]) H rfl
  refine iteB (fun hb => ?_) (fun hb => ?_)
  · have H := wpT hb H
    refine ⟨_, rfl, _, rfl, (fzI _), _, rfl, (fzI _), _, _, rfl, rfl, _, rfl, (fzI _), _, _, rfl, rfl, ((eT eN) []), rfl, ((eL true eN) []), rfl, ((eL false eN) []), ((fzL fzN) _), ((eT D.int) [0]), rfl, _, _, rfl, rfl, (by decide), (D.int 1000000000000000000000000000000), (congrArg D.int (show (10 : Int) ^ (30 : Int).toNat = 1000000000000000000000000000000 by decide)), ((eL true eD) [(inD D.int fzI 0), (inD D.int fzI 1), (inD D.int fzI (-1)), (inD D.int fzI count), (inD D.int fzI (count - 1)), (inD D.int fzI (0 - many)), (inD D.bl fzB true), (inD D.bl fzB false), (inD eN fzN ()), (inD D.str fzS ("0" : Str)), (inD (eT eN) (fzT fzN) []), (inD (eL false eN) (fzL fzN) []), (inD (eT D.int) (fzT fzI) [0]), (inD D.int fzI 1000000000000000000000000000000)]), rfl, _, _, rfl, ((fzL fzD) _), ⟨_, rfl⟩, _, rfl, ((fzL fzD) _), _, rfl, (fzI _), _, rfl, bindK H fun r2 h6_ H => ⟨(lrg_ok h6_), ((eL true D.int) r2), (lrgE h6_), _, rfl, _, rfl, (cut_fz fzI _ _ _), ((eL true D.int) (cutL r2 none (some 9))), (cutE _ _ _), bindK H fun zs h7_ H => ⟨_, _, _, (List.map eD (List.map (inD D.int fzI) (cutL r2 none (some 9)))), rfl, (anyO fzI _), (frzL_m fzD _), (frzL_m fzD _), (cat_le h7_), ((eL true eD) zs), (catE h7_), rfl, bindK H fun w_ h8_ H => ?_⟩⟩⟩
    obtain ⟨r3, tape4⟩ := w_
    exact ⟨Dat, eD, (eL false eD), (seL fzD), fzD, tape3, zs, (consE rfl (consE (someE ((fzL fzD) _)) rfl)), _, h8_, (fun z => Bool.noConfusion z), (wpSome H :)⟩
  · have H := wpF hb H
    refine ⟨⟨_, rfl⟩, _, rfl, (fzD _), bindK H fun n h9_ H => ⟨_, rfl, _, h9_, rfl, bindK H fun w_ h10_ H => ?_⟩⟩
    obtain ⟨r4, tape5⟩ := w_
    refine ⟨tape3, n, (consE rfl (consE (someE (fzI _)) rfl)), _, h10_, (fun z => Bool.noConfusion z), _, rfl, (fzD _), bindK H fun x h11_ H => ⟨((eT eD) x), (asT_e h11_), _, rfl, (fzI _), _, rfl, (List.map eD x), rfl, (frzL_m fzD _), ((eT eD) (cutL x none (some r4))), (cutT_e _ _ _), ⟨_, rfl⟩, _, rfl, (fzD _), bindK H fun x1 h12_ H => ⟨((eT eD) x1), (asT_e h12_), _, rfl, (fzI _), bindK H fun x2 h13_ H => ⟨_, (atT h13_), _, rfl, (fzI _), _, rfl, (fzI _), rfl, bindK H fun w_ h14_ H => ?_⟩⟩⟩⟩
    obtain ⟨r5, tape6⟩ := w_
    refine ⟨tape5, x2, many, count, (consE rfl (consE (someE (fzD _)) (consE (someE (fzI _)) (consE (someE (fzI _)) rfl)))), _, h14_, (fun z => Bool.noConfusion z), ((eT eD) [r5]), rfl, bindK H fun zs1 h15_ H => ⟨(List.map eD (cutL x none (some r4))), (List.map eD [r5]), rfl, rfl, (frzL_m fzD _), (frzL_m fzD _), (cat_le h15_), ((eT eD) zs1), (catT_e h15_), _, rfl, (fzD _), bindK H fun x3 h16_ H => ⟨((eT eD) x3), (asT_e h16_), _, rfl, (fzI _), _, _, rfl, rfl, _, rfl, (List.map eD x3), rfl, (frzL_m fzD _), ((eT eD) (cutL x3 (some (r4 + 1)) none)), (cutT_e _ _ _), bindK H fun zs2 h17_ H => ⟨(List.map eD zs1), (List.map eD (cutL x3 (some (r4 + 1)) none)), rfl, rfl, (frzL_m fzD _), (frzL_m fzD _), (cat_le h17_), ((eT eD) zs2), (catT_e h17_), ?_⟩⟩⟩⟩
    try refine nxI ?_
    refine envI (env' := [some ((eR3 true "cells" "spot" "left" (eL true D.int) D.int D.int) tape6), some (eD thing), some (D.int many), some (D.int count), none, some (D.int r4), some ((eT eD) zs2), none]) rfl ?_
    refine ⟨_, rfl, ((fzT fzD) _), _, rfl, ((fzT fzD) _), _, rfl, ((fzT fzD) _), _, rfl, (fzD _), bindK H fun x4 h18_ H => ⟨((eT eD) x4), (asT_e h18_), _, rfl, (fzD _), bindK H fun x5 h19_ H => ⟨((eT eD) x5), (asT_e h19_), _, rfl, (fzI _), _, rfl, _, rfl, (fzI _), _, _, rfl, rfl, _, rfl, (List.map eD x5), rfl, (frzL_m fzD _), ((eT eD) (cutL x5 (some r4) (some (r4 + 1)))), (cutT_e _ _ _), bindK H fun zs3 h20_ H => ⟨(List.map eD x4), (List.map eD (cutL x5 (some r4) (some (r4 + 1)))), rfl, rfl, (frzL_m fzD _), (frzL_m fzD _), (cat_le h20_), ((eT eD) zs3), (catT_e h20_), _, rfl, (fzD _), bindK H fun x6 h21_ H => ⟨((eT eD) x6), (asT_e h21_), _, rfl, (fzI _), _, rfl, (List.map eD x6), rfl, (frzL_m fzD _), ((eT eD) (cutL x6 none (some r4))), (cutT_e _ _ _), _, rfl, (fzD _), bindK H fun x7 h22_ H => ⟨((eT eD) x7), (asT_e h22_), _, rfl, (fzI _), _, _, rfl, rfl, _, rfl, (List.map eD x7), rfl, (frzL_m fzD _), ((eT eD) (cutL x7 (some (r4 + 1)) none)), (cutT_e _ _ _), bindK H fun zs4 h23_ H => ⟨(List.map eD (cutL x6 none (some r4))), (List.map eD (cutL x7 (some (r4 + 1)) none)), rfl, rfl, (frzL_m fzD _), (frzL_m fzD _), (cat_le h23_), ((eT eD) zs4), (catT_e h23_), _, rfl, ((fzT fzD) _), _, rfl, _, rfl, (frzL_m fzD _), ((eL true eD) zs2), rfl, ((eL false eD) zs2), ((fzL fzD) _), _, rfl, (fzD _), bindK H fun x8 h24_ H => ⟨((eT eD) x8), (asT_e h24_), (List.map eD x8), rfl, (frzL_m fzD _), ((eT eD) x8.reverse), (revT_e _), ((eL true eD) [(inD (eT eD) (fzT fzD) zs2), (inD (eT eD) (fzT fzD) zs2), (inD (eT eD) (fzT fzD) zs2), (inD (eT eD) (fzT fzD) zs3), (inD (eT eD) (fzT fzD) zs4), (inD (eL false eD) (fzL fzD) zs2), (inD (eT eD) (fzT fzD) x8.reverse)]), rfl, _, _, rfl, ((fzL fzD) _), ⟨_, rfl⟩, _, rfl, ((fzL fzD) _), rfl, bindK H fun w_ h25_ H => ?_⟩⟩⟩⟩⟩⟩⟩⟩
    obtain ⟨r6, tape7⟩ := w_
    exact ⟨Dat, eD, (eL false eD), (seL fzD), fzD, tape6, [(inD (eT eD) (fzT fzD) zs2), (inD (eT eD) (fzT fzD) zs2), (inD (eT eD) (fzT fzD) zs2), (inD (eT eD) (fzT fzD) zs3), (inD (eT eD) (fzT fzD) zs4), (inD (eL false eD) (fzL fzD) zs2), (inD (eT eD) (fzT fzD) x8.reverse)], (consE rfl (consE (someE ((fzL fzD) _)) rfl)), _, h25_, (fun z => Bool.noConfusion z), (wpSome H :)⟩
theorem vc__law_bans : VC__law_bans := by
  rintro env Qt hl ⟨tape, many, rfl, H⟩
  show tb__law_bans _ [some ((eR3 true "cells" "spot" "left" (eL true D.int) D.int D.int) tape), some (D.int many), none, none, none, none, none, none, none]
  refine ⟨((eL true (e2 D.int D.int)) []), rfl, ⟨_, rfl⟩, _, rfl, (fzI _), _, _, rfl, rfl, (cdivS (by decide) (by decide)), _, rfl, (fzI _), _, rfl, (fzI _), _, rfl, (fzI _), _, _, rfl, rfl, (cdivS (by decide) (by decide)), _, _, rfl, rfl, _, rfl, (fzI _), _, _, rfl, rfl, (.inl ⟨by decide, by decide⟩), _, rfl, (fzI _), _, _, rfl, rfl, (.inl ⟨by decide, by decide⟩), ((eL true D.int) [0, (many / 2), many, (many + (many / 2)), (2 * many), (3 * many)]), rfl, rfl, bindK H fun w_ h1_ H => ?_⟩
  obtain ⟨r, tape1⟩ := w_
  refine ⟨Int, D.int, (eL false D.int), (seL fzI), fzI, tape, [0, (many / 2), many, (many + (many / 2)), (2 * many), (3 * many)], (consE rfl (consE (someE ((fzL fzI) _)) rfl)), _, h1_, (fun z => Bool.noConfusion z), _, rfl, (fzI _), _, _, rfl, rfl, (D.bl (decide (1 < many))), rfl, _, rfl, _, rfl, bindK H fun _ h2_ H => ⟨_, _, rfl, rfl, (guard_of h2_), bindK H fun r1 h3_ H => ⟨_, rfl, (rng_ok h3_).1, (rng_ok h3_).2, (List.map D.int r1), (rngE h3_), bindK H fun w_ h4_ H => ?_⟩⟩⟩
  obtain ⟨tape2, found⟩ := w_
  refine g_for (fun (s_ : ((List Int) × Int × Int) × (List (Int × Int))) (e_ : TT.Env) => match s_ with | (tape2, found) => ∃ j j1 j2 : Option D, e_ = [some ((eR3 true "cells" "spot" "left" (eL true D.int) D.int D.int) tape2), some (D.int many), some ((eL true (e2 D.int D.int)) found), j, j1, j2, none, none, none]) rfl h4_ ⟨_, _, _, rfl⟩ ?_ ?_
  rotate_left
  · rintro k ⟨tape2, found⟩ _ K ⟨j, j1, j2, rfl⟩ H
    refine of_gNm ?_
    refine ⟨⟨_, rfl⟩, _, rfl, (fzI _), rfl, bindK H fun w_ h6_ H => ?_⟩
    obtain ⟨r2, tape3⟩ := w_
    refine ⟨tape2, many, (consE rfl (consE (someE (fzI _)) rfl)), _, h6_, (fun z => Bool.noConfusion z), ⟨_, rfl⟩, _, rfl, (fzI _), rfl, bindK H fun w_ h7_ H => ?_⟩
    obtain ⟨r3, tape4⟩ := w_
    refine ⟨tape3, many, (consE rfl (consE (someE (fzI _)) rfl)), _, h7_, (fun z => Bool.noConfusion z), _, _, rfl, ?_⟩
    try refine nxI ?_
    refine envI (env' := [some ((eR3 true "cells" "spot" "left" (eL true D.int) D.int D.int) tape4), some (D.int many), some ((eL true (e2 D.int D.int)) found), some (D.int k), some (D.int r2), some (D.int r3), none, none, none]) rfl ?_
    refine ⟨_, rfl, (fzI _), _, rfl, _, rfl, (D.int (absI r2)), rfl, _, rfl, (fzI _), _, rfl, _, rfl, (D.int (absI r3)), rfl, _, _, rfl, rfl, _, rfl, iteB (fun hb => ?_) (fun hb => ?_)⟩
    · have H := wpT hb H
      exact ⟨⟨_, _, rfl⟩, _, rfl, (fzI _), _, rfl, (fzI _), ((e2 D.int D.int) (r2, r3)), rfl, bindK H fun found1 h8_ H => ⟨_, rfl, (push_lt h8_), _, (setEq (pushE h8_)), nxK H ⟨_, _, _, rfl⟩⟩⟩
    · have H := wpF hb H
      exact nxK H ⟨_, _, _, rfl⟩
  rintro _ ⟨j, j1, j2, rfl⟩
  refine bindK H fun w_ h26_ H => ?_
  obtain ⟨tape5, found2⟩ := w_
  try refine nxI ?_
  refine g_joinI (fun (s_ : ((List Int) × Int × Int) × (List (Int × Int))) (e_ : TT.Env) => match s_ with | (tape5, found2) => ∃ j3 j4 j5 : Option D, e_ = [some ((eR3 true "cells" "spot" "left" (eL true D.int) D.int D.int) tape5), some (D.int many), some ((eL true (e2 D.int D.int)) found2), j3, j1, j2, j4, j5, none]) h26_ ?_ ?_
  rotate_left
  · intro K H
    refine ⟨_, rfl, (fzI _), _, _, rfl, rfl, _, rfl, bindK H fun w_ h28_ H => ?_⟩
    obtain ⟨t, tape7⟩ := w_
    refine k_andE (fun (s_ : ((List Int) × Int × Int)) => match s_ with | tape7 => [some ((eR3 true "cells" "spot" "left" (eL true D.int) D.int D.int) tape7), some (D.int many), some ((eL true (e2 D.int D.int)) found), j, j1, j2, none, none, none]) h28_ rfl ?_ fun hb Q' H => ?_
    rotate_left
    · refine ⟨⟨_, rfl⟩, rfl, bindK H fun w_ h27_ H => ?_⟩
      obtain ⟨r4, tape6⟩ := w_
      exact ⟨tape2, 3, (consE rfl (consE (someE (fzI _)) rfl)), _, h27_, (fun z => Bool.noConfusion z), _, _, rfl, rfl, _, rfl, vtT (en := fun (s_ : ((List Int) × Int × Int)) => match s_ with | tape7 => [some ((eR3 true "cells" "spot" "left" (eL true D.int) D.int D.int) tape7), some (D.int many), some ((eL true (e2 D.int D.int)) found), j, j1, j2, none, none, none]) H rfl⟩
    refine iteB (fun hb => ?_) (fun hb => ?_)
    · have H := wpT hb H
      refine ⟨⟨_, rfl⟩, _, rfl, (fzI _), _, _, rfl, rfl, _, _, rfl, rfl, bindK H fun r5 h29_ H => ⟨(lrg_ok h29_), ((eL true D.int) r5), (lrgE h29_), rfl, bindK H fun w_ h30_ H => ?_⟩⟩
      obtain ⟨r6, tape8⟩ := w_
      refine ⟨Int, inferInstance, D.int, fzI, (Cmp.up cmpI (by decide)), tape7, r5, (consE rfl (consE (someE ((fzL fzI) _)) rfl)), _, h30_, (fun z => Bool.noConfusion z), ⟨_, rfl⟩, _, rfl, (fzI _), _, _, rfl, rfl, rfl, bindK H fun w_ h31_ H => ?_⟩
      obtain ⟨r7, tape9⟩ := w_
      refine ⟨tape8, (many - 1), (consE rfl (consE (someE (fzI _)) rfl)), _, h31_, (fun z => Bool.noConfusion z), _, _, rfl, rfl, _, rfl, _, rfl, (cut_fz fzI _ _ _), ((eL true D.int) (cutL r6 none (some (2 + r7)))), (cutE _ _ _), _, _, rfl, ((fzL fzI) _), _, rfl, ((fzL fzI) _), (List.map D.int (cutL r6 none (some (2 + r7)))), rfl, (List.map D.int (cutL r6 none (some (2 + r7)))), (frzL_e fzI _), bindK H fun w_ h34_ H => ?_⟩
      obtain ⟨ys, tape11⟩ := w_
      refine g_compM (e' := D.int) (fun (s_ : ((List Int) × Int × Int)) (e_ : TT.Env) => match s_ with | tape11 => e_ = [some ((eR3 true "cells" "spot" "left" (eL true D.int) D.int D.int) tape11), some (D.int many), some ((eL true (e2 D.int D.int)) found), j, j1, j2, some ((eL false D.int) (cutL r6 none (some (2 + r7)))), none, none]) rfl h34_ rfl ?_ ?_
      rotate_left
      · rintro cut tape11 _ K1 rfl H
        refine ⟨_, rfl, (fzI _), ⟨_, rfl⟩, _, rfl, ((eL true D.int) [1, (-1)]), rfl, rfl, bindK H fun w_ h35_ H => ?_⟩
        obtain ⟨r9, tape12⟩ := w_
        exact ⟨Int, D.int, (eL false D.int), (seL fzI), fzI, tape11, [1, (-1)], (consE rfl (consE (someE ((fzL fzI) _)) rfl)), _, h35_, (fun z => Bool.noConfusion z), bindK H fun _ h36_ H => ⟨_, _, rfl, rfl, (guard_of h36_), (wpSome H :) _ rfl⟩⟩
      rintro _ rfl
      refine ⟨((eL true D.int) ys), (mapE ys), _, _, rfl, ((fzL fzI) _), ?_⟩
      try refine nxI ?_
      refine envI (env' := [some ((eR3 true "cells" "spot" "left" (eL true D.int) D.int D.int) tape11), some (D.int many), some ((eL true (e2 D.int D.int)) found), j, j1, j2, some ((eL false D.int) (cutL r6 none (some (2 + r7)))), some ((eL false D.int) ys), none]) rfl ?_
      refine ⟨⟨_, rfl⟩, _, rfl, ((fzL fzI) _), _, rfl, _, (lenL _), bindK H fun r10 h37_ H => ⟨_, rfl, (rng_ok h37_).1, (rng_ok h37_).2, (List.map D.int r10), (rngE h37_), bindK H fun ys1 h40_ H => g_compQ (e' := (e2 D.int D.int)) rfl h40_ rfl ?_ ?_⟩⟩
      rotate_left
      · rintro k2 K1 H
        exact ⟨_, rfl, ((fzL fzI) _), _, rfl, (fzI _), bindK H fun x h38_ H => ⟨_, (atL h38_), _, rfl, ((fzL fzI) _), _, rfl, (fzI _), _, _, rfl, rfl, bindK H fun x1 h39_ H => ⟨_, (atL h39_), _, _, rfl, rfl, ((e2 D.int D.int) (x, (0 - x1))), rfl, (wpSome H :) _ rfl⟩⟩⟩
      exact ⟨((eL true (e2 D.int D.int)) ys1), (mapE ys1), bindK H fun found3 h41_ H => ⟨_, _, rfl, rfl, (frzL_m (fz2 fzI fzI) _), (cat_le h41_), _, (setEq (catE h41_)), nxK H ⟨_, _, _, rfl⟩⟩⟩
    · have H := wpF hb H
      exact nxK H ⟨_, _, _, rfl⟩
  rintro _ ⟨j3, j4, j5, rfl⟩
  refine ⟨⟨_, rfl⟩, _, rfl, rfl, bindK H fun w_ h42_ H => ?_⟩
  obtain ⟨r11, tape13⟩ := w_
  exact ⟨(Int × Int), inferInstance, (e2 D.int D.int), (fz2 fzI fzI), (Cmp.up (cmp2 cmpI cmpI) (by decide)), tape5, found2, (consE rfl (consE (someE ((fzL (fz2 fzI fzI)) _)) rfl)), _, h42_, (fun _ => ⟨((nvL (nv2 nvI nvI)) _), (nfEs ((nvR3 (nvL nvI) nvI nvI) _) (nfEn nfE0))⟩), (wpSome H :)⟩
theorem vc__law_other_2 : VC__law_other_2 := by
  rintro env Qt hl ⟨tape, thing, many, count, rfl, H⟩
  show tb__law_other_2 _ [some ((eR3 true "cells" "spot" "left" (eL true D.int) D.int D.int) tape), some (eD thing), some (D.int many), some (D.int count), none, none, none, none]
  refine ⟨_, rfl, (fzD _), bindK H fun b h1_ H => ⟨_, _, (tyT thing), b, rfl, (tyA_t h1_), (tyA_k h1_), _, rfl, bindK H fun w_ h5_ H => ?_⟩⟩
  obtain ⟨t1, tape3⟩ := w_
  refine k_orE (fun (s_ : ((List Int) × Int × Int)) => match s_ with | tape3 => [some ((eR3 true "cells" "spot" "left" (eL true D.int) D.int D.int) tape3), some (eD thing), some (D.int many), some (D.int count), none, none, none, none]) h5_ rfl ?_ fun hb Q' H => ?_
  rotate_left
  · refine ⟨_, rfl, (fzD _), ((eT eN) []), rfl, bindK H fun _ h2_ H => ⟨(guard_of h2_).1, (guard_of h2_).2, (eqA thing (inD (eT eN) (fzT fzN) [])), rfl, bindK H fun w_ h4_ H => ?_⟩⟩
    obtain ⟨t, tape2⟩ := w_
    refine k_orE (fun (s_ : ((List Int) × Int × Int)) => match s_ with | tape2 => [some ((eR3 true "cells" "spot" "left" (eL true D.int) D.int D.int) tape2), some (eD thing), some (D.int many), some (D.int count), none, none, none, none]) h4_ rfl ?_ fun hb Q' H => ?_
    rotate_left
    · refine ⟨⟨_, rfl⟩, rfl, bindK H fun w_ h3_ H => ?_⟩
      obtain ⟨r, tape1⟩ := w_
      exact ⟨tape, 4, (consE rfl (consE (someE (fzI _)) rfl)), _, h3_, (fun z => Bool.noConfusion z), _, _, rfl, rfl, _, rfl, vtT (en := fun (s_ : ((List Int) × Int × Int)) => match s_ with | tape2 => [some ((eR3 true "cells" "spot" "left" (eL true D.int) D.int D.int) tape2), some (eD thing), some (D.int many), some (D.int count), none, none, none, none]) H rfl⟩
    exact vtT (en := fun (s_ : ((List Int) × Int × Int)) => match s_ with | tape3 => [some ((eR3 true "cells" "spot" "left" (eL true D.int) D.int D.int) tape3), some (eD thing), some (D.int many), some (D.int count), none, none, none, none]) H rfl
  refine iteB (fun hb => ?_) (fun hb => ?_)
  · have H := wpT hb H
    refine ⟨_, rfl, _, rfl, (fzI _), _, rfl, (fzI _), _, _, rfl, rfl, _, rfl, (fzI _), _, _, rfl, rfl, ((eT eN) []), rfl, ((eL true eN) []), rfl, ((eL false eN) []), ((fzL fzN) _), ((eT D.int) [0]), rfl, _, _, rfl, rfl, (by decide), (D.int 1000000000000000000000000000000), (congrArg D.int (show (10 : Int) ^ (30 : Int).toNat = 1000000000000000000000000000000 by decide)), ((eL true eD) [(inD D.int fzI 0), (inD D.int fzI 1), (inD D.int fzI (-1)), (inD D.int fzI count), (inD D.int fzI (count - 1)), (inD D.int fzI (0 - many)), (inD D.bl fzB true), (inD D.bl fzB false), (inD eN fzN ()), (inD D.str fzS ("0" : Str)), (inD (eT eN) (fzT fzN) []), (inD (eL false eN) (fzL fzN) []), (inD (eT D.int) (fzT fzI) [0]), (inD D.int fzI 1000000000000000000000000000000)]), rfl, _, _, rfl, ((fzL fzD) _), ⟨_, rfl⟩, _, rfl, ((fzL fzD) _), _, rfl, (fzI _), _, rfl, bindK H fun r2 h6_ H => ⟨(lrg_ok h6_), ((eL true D.int) r2), (lrgE h6_), _, rfl, _, rfl, (cut_fz fzI _ _ _), ((eL true D.int) (cutL r2 none (some 9))), (cutE _ _ _), bindK H fun zs h7_ H => ⟨_, _, _, (List.map eD (List.map (inD D.int fzI) (cutL r2 none (some 9)))), rfl, (anyO fzI _), (frzL_m fzD _), (frzL_m fzD _), (cat_le h7_), ((eL true eD) zs), (catE h7_), rfl, bindK H fun w_ h8_ H => ?_⟩⟩⟩
    obtain ⟨r3, tape4⟩ := w_
    exact ⟨Dat, eD, (eL false eD), (seL fzD), fzD, tape3, zs, (consE rfl (consE (someE ((fzL fzD) _)) rfl)), _, h8_, (fun z => Bool.noConfusion z), (wpSome H :)⟩
  · have H := wpF hb H
    refine ⟨⟨_, rfl⟩, _, rfl, (fzD _), bindK H fun n h9_ H => ⟨_, rfl, _, h9_, rfl, bindK H fun w_ h10_ H => ?_⟩⟩
    obtain ⟨r4, tape5⟩ := w_
    refine ⟨tape3, n, (consE rfl (consE (someE (fzI _)) rfl)), _, h10_, (fun z => Bool.noConfusion z), _, rfl, (fzD _), bindK H fun x h11_ H => ⟨((eT eD) x), (asT_e h11_), _, rfl, (fzI _), _, rfl, (List.map eD x), rfl, (frzL_m fzD _), ((eT eD) (cutL x none (some r4))), (cutT_e _ _ _), ⟨_, rfl⟩, _, rfl, (fzD _), bindK H fun x1 h12_ H => ⟨((eT eD) x1), (asT_e h12_), _, rfl, (fzI _), bindK H fun x2 h13_ H => ⟨_, (atT h13_), _, rfl, (fzI _), _, rfl, (fzI _), rfl, bindK H fun w_ h14_ H => ?_⟩⟩⟩⟩
    obtain ⟨r5, tape6⟩ := w_
    refine ⟨tape5, x2, many, count, (consE rfl (consE (someE (fzD _)) (consE (someE (fzI _)) (consE (someE (fzI _)) rfl)))), _, h14_, (fun z => Bool.noConfusion z), ((eT eD) [r5]), rfl, bindK H fun zs1 h15_ H => ⟨(List.map eD (cutL x none (some r4))), (List.map eD [r5]), rfl, rfl, (frzL_m fzD _), (frzL_m fzD _), (cat_le h15_), ((eT eD) zs1), (catT_e h15_), _, rfl, (fzD _), bindK H fun x3 h16_ H => ⟨((eT eD) x3), (asT_e h16_), _, rfl, (fzI _), _, _, rfl, rfl, _, rfl, (List.map eD x3), rfl, (frzL_m fzD _), ((eT eD) (cutL x3 (some (r4 + 1)) none)), (cutT_e _ _ _), bindK H fun zs2 h17_ H => ⟨(List.map eD zs1), (List.map eD (cutL x3 (some (r4 + 1)) none)), rfl, rfl, (frzL_m fzD _), (frzL_m fzD _), (cat_le h17_), ((eT eD) zs2), (catT_e h17_), ?_⟩⟩⟩⟩
    try refine nxI ?_
    refine envI (env' := [some ((eR3 true "cells" "spot" "left" (eL true D.int) D.int D.int) tape6), some (eD thing), some (D.int many), some (D.int count), none, some (D.int r4), some ((eT eD) zs2), none]) rfl ?_
    refine ⟨_, rfl, ((fzT fzD) _), _, rfl, ((fzT fzD) _), _, rfl, ((fzT fzD) _), _, rfl, (fzD _), bindK H fun x4 h18_ H => ⟨((eT eD) x4), (asT_e h18_), _, rfl, (fzD _), bindK H fun x5 h19_ H => ⟨((eT eD) x5), (asT_e h19_), _, rfl, (fzI _), _, rfl, _, rfl, (fzI _), _, _, rfl, rfl, _, rfl, (List.map eD x5), rfl, (frzL_m fzD _), ((eT eD) (cutL x5 (some r4) (some (r4 + 1)))), (cutT_e _ _ _), bindK H fun zs3 h20_ H => ⟨(List.map eD x4), (List.map eD (cutL x5 (some r4) (some (r4 + 1)))), rfl, rfl, (frzL_m fzD _), (frzL_m fzD _), (cat_le h20_), ((eT eD) zs3), (catT_e h20_), _, rfl, (fzD _), bindK H fun x6 h21_ H => ⟨((eT eD) x6), (asT_e h21_), _, rfl, (fzI _), _, rfl, (List.map eD x6), rfl, (frzL_m fzD _), ((eT eD) (cutL x6 none (some r4))), (cutT_e _ _ _), _, rfl, (fzD _), bindK H fun x7 h22_ H => ⟨((eT eD) x7), (asT_e h22_), _, rfl, (fzI _), _, _, rfl, rfl, _, rfl, (List.map eD x7), rfl, (frzL_m fzD _), ((eT eD) (cutL x7 (some (r4 + 1)) none)), (cutT_e _ _ _), bindK H fun zs4 h23_ H => ⟨(List.map eD (cutL x6 none (some r4))), (List.map eD (cutL x7 (some (r4 + 1)) none)), rfl, rfl, (frzL_m fzD _), (frzL_m fzD _), (cat_le h23_), ((eT eD) zs4), (catT_e h23_), _, rfl, ((fzT fzD) _), _, rfl, _, rfl, (frzL_m fzD _), ((eL true eD) zs2), rfl, ((eL false eD) zs2), ((fzL fzD) _), _, rfl, (fzD _), bindK H fun x8 h24_ H => ⟨((eT eD) x8), (asT_e h24_), (List.map eD x8), rfl, (frzL_m fzD _), ((eT eD) x8.reverse), (revT_e _), ((eL true eD) [(inD (eT eD) (fzT fzD) zs2), (inD (eT eD) (fzT fzD) zs2), (inD (eT eD) (fzT fzD) zs2), (inD (eT eD) (fzT fzD) zs3), (inD (eT eD) (fzT fzD) zs4), (inD (eL false eD) (fzL fzD) zs2), (inD (eT eD) (fzT fzD) x8.reverse)]), rfl, _, _, rfl, ((fzL fzD) _), ⟨_, rfl⟩, _, rfl, ((fzL fzD) _), rfl, bindK H fun w_ h25_ H => ?_⟩⟩⟩⟩⟩⟩⟩⟩
    obtain ⟨r6, tape7⟩ := w_
    exact ⟨Dat, eD, (eL false eD), (seL fzD), fzD, tape6, [(inD (eT eD) (fzT fzD) zs2), (inD (eT eD) (fzT fzD) zs2), (inD (eT eD) (fzT fzD) zs2), (inD (eT eD) (fzT fzD) zs3), (inD (eT eD) (fzT fzD) zs4), (inD (eL false eD) (fzL fzD) zs2), (inD (eT eD) (fzT fzD) x8.reverse)], (consE rfl (consE (someE ((fzL fzD) _)) rfl)), _, h25_, (fun z => Bool.noConfusion z), (wpSome H :)⟩
theorem vc__law_other_1 : VC__law_other_1 := by
  rintro env Qt hl ⟨tape, thing, many, count, rfl, H⟩
  show tb__law_other_1 _ [some ((eR3 true "cells" "spot" "left" (eL true D.int) D.int D.int) tape), some (eD thing), some (D.int many), some (D.int count), none, none, none, none]
  refine ⟨_, rfl, (fzD _), bindK H fun b h1_ H => ⟨_, _, (tyT thing), b, rfl, (tyA_t h1_), (tyA_k h1_), _, rfl, bindK H fun w_ h5_ H => ?_⟩⟩
  obtain ⟨t1, tape3⟩ := w_
  refine k_orE (fun (s_ : ((List Int) × Int × Int)) => match s_ with | tape3 => [some ((eR3 true "cells" "spot" "left" (eL true D.int) D.int D.int) tape3), some (eD thing), some (D.int many), some (D.int count), none, none, none, none]) h5_ rfl ?_ fun hb Q' H => ?_
  rotate_left
  · refine ⟨_, rfl, (fzD _), ((eT eN) []), rfl, bindK H fun _ h2_ H => ⟨(guard_of h2_).1, (guard_of h2_).2, (eqA thing (inD (eT eN) (fzT fzN) [])), rfl, bindK H fun w_ h4_ H => ?_⟩⟩
    obtain ⟨t, tape2⟩ := w_
    refine k_orE (fun (s_ : ((List Int) × Int × Int)) => match s_ with | tape2 => [some ((eR3 true "cells" "spot" "left" (eL true D.int) D.int D.int) tape2), some (eD thing), some (D.int many), some (D.int count), none, none, none, none]) h4_ rfl ?_ fun hb Q' H => ?_
    rotate_left
    · refine ⟨⟨_, rfl⟩, rfl, bindK H fun w_ h3_ H => ?_⟩
      obtain ⟨r, tape1⟩ := w_
      exact ⟨tape, 4, (consE rfl (consE (someE (fzI _)) rfl)), _, h3_, (fun z => Bool.noConfusion z), _, _, rfl, rfl, _, rfl, vtT (en := fun (s_ : ((List Int) × Int × Int)) => match s_ with | tape2 => [some ((eR3 true "cells" "spot" "left" (eL true D.int) D.int D.int) tape2), some (eD thing), some (D.int many), some (D.int count), none, none, none, none]) H rfl⟩
    exact vtT (en := fun (s_ : ((List Int) × Int × Int)) => match s_ with | tape3 => [some ((eR3 true "cells" "spot" "left" (eL true D.int) D.int D.int) tape3), some (eD thing), some (D.int many), some (D.int count), none, none, none, none]) H rfl
  refine iteB (fun hb => ?_) (fun hb => ?_)
  · have H := wpT hb H
    refine ⟨_, rfl, _, rfl, (fzI _), _, rfl, (fzI _), _, _, rfl, rfl, _, rfl, (fzI _), _, _, rfl, rfl, ((eT eN) []), rfl, ((eL true eN) []), rfl, ((eL false eN) []), ((fzL fzN) _), ((eT D.int) [0]), rfl, _, _, rfl, rfl, (by decide), (D.int 1000000000000000000000000000000), (congrArg D.int (show (10 : Int) ^ (30 : Int).toNat = 1000000000000000000000000000000 by decide)), ((eL true eD) [(inD D.int fzI 0), (inD D.int fzI 1), (inD D.int fzI (-1)), (inD D.int fzI count), (inD D.int fzI (count - 1)), (inD D.int fzI (0 - many)), (inD D.bl fzB true), (inD D.bl fzB false), (inD eN fzN ()), (inD D.str fzS ("0" : Str)), (inD (eT eN) (fzT fzN) []), (inD (eL false eN) (fzL fzN) []), (inD (eT D.int) (fzT fzI) [0]), (inD D.int fzI 1000000000000000000000000000000)]), rfl, _, _, rfl, ((fzL fzD) _), ⟨_, rfl⟩, _, rfl, ((fzL fzD) _), _, rfl, (fzI _), _, rfl, bindK H fun r2 h6_ H => ⟨(lrg_ok h6_), ((eL true D.int) r2), (lrgE h6_), _, rfl, _, rfl, (cut_fz fzI _ _ _), ((eL true D.int) (cutL r2 none (some 9))), (cutE _ _ _), bindK H fun zs h7_ H => ⟨_, _, _, (List.map eD (List.map (inD D.int fzI) (cutL r2 none (some 9)))), rfl, (anyO fzI _), (frzL_m fzD _), (frzL_m fzD _), (cat_le h7_), ((eL true eD) zs), (catE h7_), rfl, bindK H fun w_ h8_ H => ?_⟩⟩⟩
    obtain ⟨r3, tape4⟩ := w_
    exact ⟨Dat, eD, (eL false eD), (seL fzD), fzD, tape3, zs, (consE rfl (consE (someE ((fzL fzD) _)) rfl)), _, h8_, (fun z => Bool.noConfusion z), (wpSome H :)⟩
  · have H := wpF hb H
    refine ⟨⟨_, rfl⟩, _, rfl, (fzD _), bindK H fun n h9_ H => ⟨_, rfl, _, h9_, rfl, bindK H fun w_ h10_ H => ?_⟩⟩
    obtain ⟨r4, tape5⟩ := w_
    refine ⟨tape3, n, (consE rfl (consE (someE (fzI _)) rfl)), _, h10_, (fun z => Bool.noConfusion z), _, rfl, (fzD _), bindK H fun x h11_ H => ⟨((eT eD) x), (asT_e h11_), _, rfl, (fzI _), _, rfl, (List.map eD x), rfl, (frzL_m fzD _), ((eT eD) (cutL x none (some r4))), (cutT_e _ _ _), ⟨_, rfl⟩, _, rfl, (fzD _), bindK H fun x1 h12_ H => ⟨((eT eD) x1), (asT_e h12_), _, rfl, (fzI _), bindK H fun x2 h13_ H => ⟨_, (atT h13_), _, rfl, (fzI _), _, rfl, (fzI _), rfl, bindK H fun w_ h14_ H => ?_⟩⟩⟩⟩
    obtain ⟨r5, tape6⟩ := w_
    refine ⟨tape5, x2, many, count, (consE rfl (consE (someE (fzD _)) (consE (someE (fzI _)) (consE (someE (fzI _)) rfl)))), _, h14_, (fun z => Bool.noConfusion z), ((eT eD) [r5]), rfl, bindK H fun zs1 h15_ H => ⟨(List.map eD (cutL x none (some r4))), (List.map eD [r5]), rfl, rfl, (frzL_m fzD _), (frzL_m fzD _), (cat_le h15_), ((eT eD) zs1), (catT_e h15_), _, rfl, (fzD _), bindK H fun x3 h16_ H => ⟨((eT eD) x3), (asT_e h16_), _, rfl, (fzI _), _, _, rfl, rfl, _, rfl, (List.map eD x3), rfl, (frzL_m fzD _), ((eT eD) (cutL x3 (some (r4 + 1)) none)), (cutT_e _ _ _), bindK H fun zs2 h17_ H => ⟨(List.map eD zs1), (List.map eD (cutL x3 (some (r4 + 1)) none)), rfl, rfl, (frzL_m fzD _), (frzL_m fzD _), (cat_le h17_), ((eT eD) zs2), (catT_e h17_), ?_⟩⟩⟩⟩
    try refine nxI ?_
    refine envI (env' := [some ((eR3 true "cells" "spot" "left" (eL true D.int) D.int D.int) tape6), some (eD thing), some (D.int many), some (D.int count), none, some (D.int r4), some ((eT eD) zs2), none]) rfl ?_
    refine ⟨_, rfl, ((fzT fzD) _), _, rfl, ((fzT fzD) _), _, rfl, ((fzT fzD) _), _, rfl, (fzD _), bindK H fun x4 h18_ H => ⟨((eT eD) x4), (asT_e h18_), _, rfl, (fzD _), bindK H fun x5 h19_ H => ⟨((eT eD) x5), (asT_e h19_), _, rfl, (fzI _), _, rfl, _, rfl, (fzI _), _, _, rfl, rfl, _, rfl, (List.map eD x5), rfl, (frzL_m fzD _), ((eT eD) (cutL x5 (some r4) (some (r4 + 1)))), (cutT_e _ _ _), bindK H fun zs3 h20_ H => ⟨(List.map eD x4), (List.map eD (cutL x5 (some r4) (some (r4 + 1)))), rfl, rfl, (frzL_m fzD _), (frzL_m fzD _), (cat_le h20_), ((eT eD) zs3), (catT_e h20_), _, rfl, (fzD _), bindK H fun x6 h21_ H => ⟨((eT eD) x6), (asT_e h21_), _, rfl, (fzI _), _, rfl, (List.map eD x6), rfl, (frzL_m fzD _), ((eT eD) (cutL x6 none (some r4))), (cutT_e _ _ _), _, rfl, (fzD _), bindK H fun x7 h22_ H => ⟨((eT eD) x7), (asT_e h22_), _, rfl, (fzI _), _, _, rfl, rfl, _, rfl, (List.map eD x7), rfl, (frzL_m fzD _), ((eT eD) (cutL x7 (some (r4 + 1)) none)), (cutT_e _ _ _), bindK H fun zs4 h23_ H => ⟨(List.map eD (cutL x6 none (some r4))), (List.map eD (cutL x7 (some (r4 + 1)) none)), rfl, rfl, (frzL_m fzD _), (frzL_m fzD _), (cat_le h23_), ((eT eD) zs4), (catT_e h23_), _, rfl, ((fzT fzD) _), _, rfl, _, rfl, (frzL_m fzD _), ((eL true eD) zs2), rfl, ((eL false eD) zs2), ((fzL fzD) _), _, rfl, (fzD _), bindK H fun x8 h24_ H => ⟨((eT eD) x8), (asT_e h24_), (List.map eD x8), rfl, (frzL_m fzD _), ((eT eD) x8.reverse), (revT_e _), ((eL true eD) [(inD (eT eD) (fzT fzD) zs2), (inD (eT eD) (fzT fzD) zs2), (inD (eT eD) (fzT fzD) zs2), (inD (eT eD) (fzT fzD) zs3), (inD (eT eD) (fzT fzD) zs4), (inD (eL false eD) (fzL fzD) zs2), (inD (eT eD) (fzT fzD) x8.reverse)]), rfl, _, _, rfl, ((fzL fzD) _), ⟨_, rfl⟩, _, rfl, ((fzL fzD) _), rfl, bindK H fun w_ h25_ H => ?_⟩⟩⟩⟩⟩⟩⟩⟩
    obtain ⟨r6, tape7⟩ := w_
    exact ⟨Dat, eD, (eL false eD), (seL fzD), fzD, tape6, [(inD (eT eD) (fzT fzD) zs2), (inD (eT eD) (fzT fzD) zs2), (inD (eT eD) (fzT fzD) zs2), (inD (eT eD) (fzT fzD) zs3), (inD (eT eD) (fzT fzD) zs4), (inD (eL false eD) (fzL fzD) zs2), (inD (eT eD) (fzT fzD) x8.reverse)], (consE rfl (consE (someE ((fzL fzD) _)) rfl)), _, h25_, (fun z => Bool.noConfusion z), (wpSome H :)⟩
theorem vc__law_other : VC__law_other := by
  rintro env Qt hl ⟨tape, thing, many, count, rfl, H⟩
  show tb__law_other _ [some ((eR3 true "cells" "spot" "left" (eL true D.int) D.int D.int) tape), some (eD thing), some (D.int many), some (D.int count), none, none, none, none]
  refine ⟨_, rfl, (fzD _), bindK H fun b h1_ H => ⟨_, _, (tyT thing), b, rfl, (tyA_t h1_), (tyA_k h1_), _, rfl, bindK H fun w_ h5_ H => ?_⟩⟩
  obtain ⟨t1, tape3⟩ := w_
  refine k_orE (fun (s_ : ((List Int) × Int × Int)) => match s_ with | tape3 => [some ((eR3 true "cells" "spot" "left" (eL true D.int) D.int D.int) tape3), some (eD thing), some (D.int many), some (D.int count), none, none, none, none]) h5_ rfl ?_ fun hb Q' H => ?_
  rotate_left
  · refine ⟨_, rfl, (fzD _), ((eT eN) []), rfl, bindK H fun _ h2_ H => ⟨(guard_of h2_).1, (guard_of h2_).2, (eqA thing (inD (eT eN) (fzT fzN) [])), rfl, bindK H fun w_ h4_ H => ?_⟩⟩
    obtain ⟨t, tape2⟩ := w_
    refine k_orE (fun (s_ : ((List Int) × Int × Int)) => match s_ with | tape2 => [some ((eR3 true "cells" "spot" "left" (eL true D.int) D.int D.int) tape2), some (eD thing), some (D.int many), some (D.int count), none, none, none, none]) h4_ rfl ?_ fun hb Q' H => ?_
    rotate_left
    · refine ⟨⟨_, rfl⟩, rfl, bindK H fun w_ h3_ H => ?_⟩
      obtain ⟨r, tape1⟩ := w_
      exact ⟨tape, 4, (consE rfl (consE (someE (fzI _)) rfl)), _, h3_, (fun z => Bool.noConfusion z), _, _, rfl, rfl, _, rfl, vtT (en := fun (s_ : ((List Int) × Int × Int)) => match s_ with | tape2 => [some ((eR3 true "cells" "spot" "left" (eL true D.int) D.int D.int) tape2), some (eD thing), some (D.int many), some (D.int count), none, none, none, none]) H rfl⟩
    exact vtT (en := fun (s_ : ((List Int) × Int × Int)) => match s_ with | tape3 => [some ((eR3 true "cells" "spot" "left" (eL true D.int) D.int D.int) tape3), some (eD thing), some (D.int many), some (D.int count), none, none, none, none]) H rfl
  refine iteB (fun hb => ?_) (fun hb => ?_)
  · have H := wpT hb H
    refine ⟨_, rfl, _, rfl, (fzI _), _, rfl, (fzI _), _, _, rfl, rfl, _, rfl, (fzI _), _, _, rfl, rfl, ((eT eN) []), rfl, ((eL true eN) []), rfl, ((eL false eN) []), ((fzL fzN) _), ((eT D.int) [0]), rfl, _, _, rfl, rfl, (by decide), (D.int 1000000000000000000000000000000), (congrArg D.int (show (10 : Int) ^ (30 : Int).toNat = 1000000000000000000000000000000 by decide)), ((eL true eD) [(inD D.int fzI 0), (inD D.int fzI 1), (inD D.int fzI (-1)), (inD D.int fzI count), (inD D.int fzI (count - 1)), (inD D.int fzI (0 - many)), (inD D.bl fzB true), (inD D.bl fzB false), (inD eN fzN ()), (inD D.str fzS ("0" : Str)), (inD (eT eN) (fzT fzN) []), (inD (eL false eN) (fzL fzN) []), (inD (eT D.int) (fzT fzI) [0]), (inD D.int fzI 1000000000000000000000000000000)]), rfl, _, _, rfl, ((fzL fzD) _), ⟨_, rfl⟩, _, rfl, ((fzL fzD) _), _, rfl, (fzI _), _, rfl, bindK H fun r2 h6_ H => ⟨(lrg_ok h6_), ((eL true D.int) r2), (lrgE h6_), _, rfl, _, rfl, (cut_fz fzI _ _ _), ((eL true D.int) (cutL r2 none (some 9))), (cutE _ _ _), bindK H fun zs h7_ H => ⟨_, _, _, (List.map eD (List.map (inD D.int fzI) (cutL r2 none (some 9)))), rfl, (anyO fzI _), (frzL_m fzD _), (frzL_m fzD _), (cat_le h7_), ((eL true eD) zs), (catE h7_), rfl, bindK H fun w_ h8_ H => ?_⟩⟩⟩
    obtain ⟨r3, tape4⟩ := w_
    exact ⟨Dat, eD, (eL false eD), (seL fzD), fzD, tape3, zs, (consE rfl (consE (someE ((fzL fzD) _)) rfl)), _, h8_, (fun z => Bool.noConfusion z), (wpSome H :)⟩
  · have H := wpF hb H
    refine ⟨⟨_, rfl⟩, _, rfl, (fzD _), bindK H fun n h9_ H => ⟨_, rfl, _, h9_, rfl, bindK H fun w_ h10_ H => ?_⟩⟩
    obtain ⟨r4, tape5⟩ := w_
    refine ⟨tape3, n, (consE rfl (consE (someE (fzI _)) rfl)), _, h10_, (fun z => Bool.noConfusion z), _, rfl, (fzD _), bindK H fun x h11_ H => ⟨((eT eD) x), (asT_e h11_), _, rfl, (fzI _), _, rfl, (List.map eD x), rfl, (frzL_m fzD _), ((eT eD) (cutL x none (some r4))), (cutT_e _ _ _), ⟨_, rfl⟩, _, rfl, (fzD _), bindK H fun x1 h12_ H => ⟨((eT eD) x1), (asT_e h12_), _, rfl, (fzI _), bindK H fun x2 h13_ H => ⟨_, (atT h13_), _, rfl, (fzI _), _, rfl, (fzI _), rfl, bindK H fun w_ h14_ H => ?_⟩⟩⟩⟩
    obtain ⟨r5, tape6⟩ := w_
    refine ⟨tape5, x2, many, count, (consE rfl (consE (someE (fzD _)) (consE (someE (fzI _)) (consE (someE (fzI _)) rfl)))), _, h14_, (fun z => Bool.noConfusion z), ((eT eD) [r5]), rfl, bindK H fun zs1 h15_ H => ⟨(List.map eD (cutL x none (some r4))), (List.map eD [r5]), rfl, rfl, (frzL_m fzD _), (frzL_m fzD _), (cat_le h15_), ((eT eD) zs1), (catT_e h15_), _, rfl, (fzD _), bindK H fun x3 h16_ H => ⟨((eT eD) x3), (asT_e h16_), _, rfl, (fzI _), _, _, rfl, rfl, _, rfl, (List.map eD x3), rfl, (frzL_m fzD _), ((eT eD) (cutL x3 (some (r4 + 1)) none)), (cutT_e _ _ _), bindK H fun zs2 h17_ H => ⟨(List.map eD zs1), (List.map eD (cutL x3 (some (r4 + 1)) none)), rfl, rfl, (frzL_m fzD _), (frzL_m fzD _), (cat_le h17_), ((eT eD) zs2), (catT_e h17_), ?_⟩⟩⟩⟩
    try refine nxI ?_
    refine envI (env' := [some ((eR3 true "cells" "spot" "left" (eL true D.int) D.int D.int) tape6), some (eD thing), some (D.int many), some (D.int count), none, some (D.int r4), some ((eT eD) zs2), none]) rfl ?_
    refine ⟨_, rfl, ((fzT fzD) _), _, rfl, ((fzT fzD) _), _, rfl, ((fzT fzD) _), _, rfl, (fzD _), bindK H fun x4 h18_ H => ⟨((eT eD) x4), (asT_e h18_), _, rfl, (fzD _), bindK H fun x5 h19_ H => ⟨((eT eD) x5), (asT_e h19_), _, rfl, (fzI _), _, rfl, _, rfl, (fzI _), _, _, rfl, rfl, _, rfl, (List.map eD x5), rfl, (frzL_m fzD _), ((eT eD) (cutL x5 (some r4) (some (r4 + 1)))), (cutT_e _ _ _), bindK H fun zs3 h20_ H => ⟨(List.map eD x4), (List.map eD (cutL x5 (some r4) (some (r4 + 1)))), rfl, rfl, (frzL_m fzD _), (frzL_m fzD _), (cat_le h20_), ((eT eD) zs3), (catT_e h20_), _, rfl, (fzD _), bindK H fun x6 h21_ H => ⟨((eT eD) x6), (asT_e h21_), _, rfl, (fzI _), _, rfl, (List.map eD x6), rfl, (frzL_m fzD _), ((eT eD) (cutL x6 none (some r4))), (cutT_e _ _ _), _, rfl, (fzD _), bindK H fun x7 h22_ H => ⟨((eT eD) x7), (asT_e h22_), _, rfl, (fzI _), _, _, rfl, rfl, _, rfl, (List.map eD x7), rfl, (frzL_m fzD _), ((eT eD) (cutL x7 (some (r4 + 1)) none)), (cutT_e _ _ _), bindK H fun zs4 h23_ H => ⟨(List.map eD (cutL x6 none (some r4))), (List.map eD (cutL x7 (some (r4 + 1)) none)), rfl, rfl, (frzL_m fzD _), (frzL_m fzD _), (cat_le h23_), ((eT eD) zs4), (catT_e h23_), _, rfl, ((fzT fzD) _), _, rfl, _, rfl, (frzL_m fzD _), ((eL true eD) zs2), rfl, ((eL false eD) zs2), ((fzL fzD) _), _, rfl, (fzD _), bindK H fun x8 h24_ H => ⟨((eT eD) x8), (asT_e h24_), (List.map eD x8), rfl, (frzL_m fzD _), ((eT eD) x8.reverse), (revT_e _), ((eL true eD) [(inD (eT eD) (fzT fzD) zs2), (inD (eT eD) (fzT fzD) zs2), (inD (eT eD) (fzT fzD) zs2), (inD (eT eD) (fzT fzD) zs3), (inD (eT eD) (fzT fzD) zs4), (inD (eL false eD) (fzL fzD) zs2), (inD (eT eD) (fzT fzD) x8.reverse)]), rfl, _, _, rfl, ((fzL fzD) _), ⟨_, rfl⟩, _, rfl, ((fzL fzD) _), rfl, bindK H fun w_ h25_ H => ?_⟩⟩⟩⟩⟩⟩⟩⟩
    obtain ⟨r6, tape7⟩ := w_
    exact ⟨Dat, eD, (eL false eD), (seL fzD), fzD, tape6, [(inD (eT eD) (fzT fzD) zs2), (inD (eT eD) (fzT fzD) zs2), (inD (eT eD) (fzT fzD) zs2), (inD (eT eD) (fzT fzD) zs3), (inD (eT eD) (fzT fzD) zs4), (inD (eL false eD) (fzL fzD) zs2), (inD (eT eD) (fzT fzD) x8.reverse)], (consE rfl (consE (someE ((fzL fzD) _)) rfl)), _, h25_, (fun z => Bool.noConfusion z), (wpSome H :)⟩
theorem vc_law : VC_law := by
  rintro env Qt hl ⟨script, rfl, H⟩
  show tb_law _ [some ((eQ D.int) script), none, none, none, none, none, none, none, none, none, none, none, none, none, none, none]
  refine ⟨_, rfl, ((fzQ fzI) _), rfl, bindK H fun r h1_ H => ⟨script, (consE (someE ((fzQ fzI) _)) rfl), _, h1_, (fun z => Bool.noConfusion z), _, rfl, ((fzQ fzI) _), _, rfl, _, (lenQ _), _, _, rfl, (D.int (min 5 (script.length : Int))), (min_raw _ _), _, _, rfl, rfl, bindK H fun r2 h2_ H => ⟨_, rfl, (rng_ok h2_).1, (rng_ok h2_).2, (List.map D.int r2), (rngE h2_), bindK H fun fl h3_ H => ?_⟩⟩⟩
  have Ho4_ := H
  refine p_forF (fun (tape : ((List Int) × Int × Int)) (e_ : TT.Env) => ∃ j j1 j2 j3 j4 j5 j6 j7 j8 j9 j10 j11 j12 j13 : Option D, e_ = [some ((eQ D.int) script), some ((eR3 true "cells" "spot" "left" (eL true D.int) D.int D.int) tape), j, j1, j2, j3, j4, j5, j6, j7, j8, j9, j10, j11, j12, j13]) rfl h3_ ⟨_, _, _, _, _, _, _, _, _, _, _, _, _, _, rfl⟩ ?_ ?_
  rotate_left
  · rintro turn tape _ K ⟨j, j1, j2, j3, j4, j5, j6, j7, j8, j9, j10, j11, j12, j13, rfl⟩ H
    refine of_gNm ?_
    refine ⟨⟨_, rfl⟩, ((eL true D.int) [9, 60]), rfl, _, rfl, (fzI _), _, _, rfl, rfl, (D.bl (decide (turn = 0))), rfl, _, rfl, _, rfl, bindK H fun x h5_ H => ⟨_, (atL h5_), ((eL true D.int) [2, 3, 4, 9, x]), rfl, rfl, bindK H fun w_ h6_ H => ?_⟩⟩
    obtain ⟨r3, tape1⟩ := w_
    refine ⟨Int, D.int, (eL false D.int), (seL fzI), fzI, tape, [2, 3, 4, 9, x], (consE rfl (consE (someE ((fzL fzI) _)) rfl)), _, h6_, (fun z => Bool.noConfusion z), ⟨_, rfl⟩, _, rfl, (fzI _), rfl, bindK H fun w_ h7_ H => ?_⟩
    obtain ⟨r4, tape2⟩ := w_
    refine ⟨tape1, r3, (consE rfl (consE (someE (fzI _)) rfl)), _, h7_, (fun z => Bool.noConfusion z), ((e2 D.int D.int) (1, 2)), rfl, _, rfl, ((e2 D.int D.int) (1, (-2))), rfl, _, rfl, ((e2 D.int D.int) ((-1), 2)), rfl, _, rfl, _, rfl, ((e2 D.int D.int) ((-1), (-2))), rfl, ((eL true (e2 D.int D.int)) [(1, 2), (1, (-2)), ((-1), 2), ((-1), (-2))]), rfl, ⟨_, rfl⟩, rfl, bindK H fun w_ h8_ H => ?_⟩
    obtain ⟨r5, tape3⟩ := w_
    refine ⟨tape2, 4, (consE rfl (consE (someE (fzI _)) rfl)), _, h8_, (fun z => Bool.noConfusion z), _, _, rfl, rfl, _, rfl, _, rfl, (cut_fz (fz2 fzI fzI) _ _ _), ((eL true (e2 D.int D.int)) (cutL [(1, 2), (1, (-2)), ((-1), 2), ((-1), (-2))] none (some (1 + r5)))), (cutE _ _ _), bindK H fun zs h9_ H => ⟨_, _, _, _, rfl, rfl, (frzL_m (fz2 fzI fzI) _), (frzL_m (fz2 fzI fzI) _), (cat_le h9_), ((eL true (e2 D.int D.int)) zs), (catE h9_), _, _, rfl, ((fzL (fz2 fzI fzI)) _), ?_⟩⟩
    try refine nxI ?_
    refine envI (env' := [some ((eQ D.int) script), some ((eR3 true "cells" "spot" "left" (eL true D.int) D.int D.int) tape3), some (D.int turn), some (D.int r3), some ((eL false (e2 D.int D.int)) zs), j3, j4, j5, j6, j7, j8, j9, j10, j11, j12, j13]) rfl ?_
    refine ⟨⟨_, rfl⟩, _, rfl, ((fzL (fz2 fzI fzI)) _), rfl, bindK H fun w_ h10_ H => ?_⟩
    obtain ⟨r6, tape4⟩ := w_
    refine ⟨(Int × Int), inferInstance, (e2 D.int D.int), (fz2 fzI fzI), (Cmp.up (cmp2 cmpI cmpI) (by decide)), tape3, zs, (consE rfl (consE (someE ((fzL (fz2 fzI fzI)) _)) rfl)), _, h10_, (fun z => Bool.noConfusion z), _, _, rfl, ((fzL (fz2 fzI fzI)) _), ⟨_, rfl⟩, ⟨_, rfl⟩, _, rfl, (fzI _), _, rfl, (fzI _), ((eL true D.int) [r3, r3, 2]), rfl, rfl, bindK H fun w_ h11_ H => ?_⟩
    obtain ⟨r7, tape5⟩ := w_
    refine ⟨Int, D.int, (eL false D.int), (seL fzI), fzI, tape4, [r3, r3, 2], (consE rfl (consE (someE ((fzL fzI) _)) rfl)), _, h11_, (fun z => Bool.noConfusion z), rfl, bindK H fun w_ h12_ H => ?_⟩
    obtain ⟨r8, tape6⟩ := w_
    refine ⟨tape5, r7, (consE rfl (consE (someE (fzI _)) rfl)), _, h12_, (fun z => Bool.noConfusion z), ?_⟩
    try refine nxI ?_
    refine envI (env' := [some ((eQ D.int) script), some ((eR3 true "cells" "spot" "left" (eL true D.int) D.int D.int) tape6), some (D.int turn), some (D.int r3), some ((eL false (e2 D.int D.int)) r6), some (D.int r8), j4, j5, j6, j7, j8, j9, j10, j11, j12, j13]) rfl ?_
    refine ⟨_, rfl, (fzI _), _, rfl, ((fzL (fz2 fzI fzI)) _), _, rfl, (fzI _), rfl, bindK H fun r9 h13_ H => ⟨r3, r6, r8, (consE (someE (fzI _)) (consE (someE ((fzL (fz2 fzI fzI)) _)) (consE (someE (fzI _)) rfl))), _, h13_, (fun z => Bool.noConfusion z), _, rfl, (fzI _), _, rfl, ((fzL (fz2 fzI fzI)) _), _, rfl, (fzI _), _, _, rfl, rfl, rfl, bindK H fun r10 h14_ H => ⟨r3, r6, (0 - r8), (consE (someE (fzI _)) (consE (someE ((fzL (fz2 fzI fzI)) _)) (consE (someE (fzI _)) rfl))), _, h14_, (fun z => Bool.noConfusion z), _, _, rfl, _, _, rfl, ((fzK (fzL fzI)) _), _, _, rfl, ((fzK (fzL fzI)) _), _, rfl, (fzI _), _, rfl, ((fzK (fzL fzI)) _), rfl, _, rfl, (fzI _), _, _, rfl, rfl, ((eL true D.int) [0]), rfl, ((eL false D.int) [0]), ((fzL fzI) _), ((fzL fzI) _), _, (dgetE _ _), ((eL false D.int) ((dGet r9 (0 - r8)).getD [0])), (getD_e _ _), _, rfl, _, rfl, (frzL_m fzI _), ((eT D.int) ((dGet r9 (0 - r8)).getD [0])), rfl, _, rfl, ((fzK (fzL fzI)) _), rfl, _, rfl, (fzI _), ((eL true D.int) [0]), rfl, ((eL false D.int) [0]), ((fzL fzI) _), ((fzL fzI) _), _, (dgetE _ _), ((eL false D.int) ((dGet r10 r8).getD [0])), (getD_e _ _), _, rfl, _, rfl, (frzL_m fzI _), ((eT D.int) ((dGet r10 r8).getD [0])), rfl, ((e3 D.int (eT D.int) (eT D.int)) (r8, ((dGet r9 (0 - r8)).getD [0]), ((dGet r10 r8).getD [0]))), rfl, ?_⟩⟩⟩
    try refine nxI ?_
    refine envI (env' := [some ((eQ D.int) script), some ((eR3 true "cells" "spot" "left" (eL true D.int) D.int D.int) tape6), some (D.int turn), some (D.int r3), some ((eL false (e2 D.int D.int)) r6), some (D.int r8), some ((eK false (eL false D.int)) r9), some ((eK false (eL false D.int)) r10), some ((e3 D.int (eT D.int) (eT D.int)) (r8, ((dGet r9 (0 - r8)).getD [0]), ((dGet r10 r8).getD [0]))), j7, j8, j9, j10, j11, j12, j13]) rfl ?_
    refine ⟨_, rfl, (fzI _), _, rfl, ((fz3 fzI (fzT fzI) (fzT fzI)) _), _, (ix3_1 _), _, rfl, ((fz3 fzI (fzT fzI) (fzT fzI)) _), _, (ix3_2 _), bindK H fun zs1 h15_ H => ⟨(List.map D.int ((r8, ((dGet r9 (0 - r8)).getD [0]), ((dGet r10 r8).getD [0])).2.1)), (List.map D.int ((r8, ((dGet r9 (0 - r8)).getD [0]), ((dGet r10 r8).getD [0])).2.2)), rfl, rfl, (frzL_m fzI _), (frzL_m fzI _), (cat_le h15_), ((eT D.int) zs1), (catT_e h15_), _, rfl, ((fz3 fzI (fzT fzI) (fzT fzI)) _), _, (ix3_1 _), bindK H fun zs2 h16_ H => ⟨(List.map D.int zs1), (List.map D.int ((r8, ((dGet r9 (0 - r8)).getD [0]), ((dGet r10 r8).getD [0])).2.1)), rfl, rfl, (frzL_m fzI _), (frzL_m fzI _), (cat_le h16_), ((eT D.int) zs2), (catT_e h16_), _, rfl, ((fz3 fzI (fzT fzI) (fzT fzI)) _), _, (ix3_2 _), ((e3 D.int (eT D.int) (eT D.int)) (r8, zs2, (r8, ((dGet r9 (0 - r8)).getD [0]), ((dGet r10 r8).getD [0])).2.2)), rfl, ⟨_, rfl⟩, ⟨_, rfl⟩, _, rfl, ((fz3 fzI (fzT fzI) (fzT fzI)) _), _, rfl, ((fz3 fzI (fzT fzI) (fzT fzI)) _), ((eL true (e3 D.int (eT D.int) (eT D.int))) [(r8, ((dGet r9 (0 - r8)).getD [0]), ((dGet r10 r8).getD [0])), (r8, zs2, (r8, ((dGet r9 (0 - r8)).getD [0]), ((dGet r10 r8).getD [0])).2.2)]), rfl, rfl, bindK H fun w_ h17_ H => ?_⟩⟩⟩
    obtain ⟨r11, tape7⟩ := w_
    refine ⟨(Int × (List Int) × (List Int)), (e3 D.int (eT D.int) (eT D.int)), (eL false (e3 D.int (eT D.int) (eT D.int))), (seL (fz3 fzI (fzT fzI) (fzT fzI))), (fz3 fzI (fzT fzI) (fzT fzI)), tape6, [(r8, ((dGet r9 (0 - r8)).getD [0]), ((dGet r10 r8).getD [0])), (r8, zs2, (r8, ((dGet r9 (0 - r8)).getD [0]), ((dGet r10 r8).getD [0])).2.2)], (consE rfl (consE (someE ((fzL (fz3 fzI (fzT fzI) (fzT fzI))) _)) rfl)), _, h17_, (fun z => Bool.noConfusion z), _, rfl, (fzI _), _, rfl, ((fzL (fz2 fzI fzI)) _), _, rfl, _, (lenL _), rfl, bindK H fun w_ h18_ H => ?_⟩
    obtain ⟨r12, tape8⟩ := w_
    refine ⟨tape7, (inD (e3 D.int (eT D.int) (eT D.int)) (fz3 fzI (fzT fzI) (fzT fzI)) r11), r3, (r6.length : Int), (consE rfl (consE (someE ((fz3 fzI (fzT fzI) (fzT fzI)) _)) (consE (someE (fzI _)) (consE (someE (fzI _)) rfl)))), _, h18_, (fun z => Bool.noConfusion z), ?_⟩
    try refine nxI ?_
    refine envI (env' := [some ((eQ D.int) script), some ((eR3 true "cells" "spot" "left" (eL true D.int) D.int D.int) tape8), some (D.int turn), some (D.int r3), some ((eL false (e2 D.int D.int)) r6), some (D.int r8), some ((eK false (eL false D.int)) r9), some ((eK false (eL false D.int)) r10), some ((e3 D.int (eT D.int) (eT D.int)) (r8, ((dGet r9 (0 - r8)).getD [0]), ((dGet r10 r8).getD [0]))), some ((e3 D.int (eT D.int) (eT D.int)) (r8, zs2, (r8, ((dGet r9 (0 - r8)).getD [0]), ((dGet r10 r8).getD [0])).2.2)), some (eD r12), j9, j10, j11, j12, j13]) rfl ?_
    refine ⟨_, rfl, ((fz3 fzI (fzT fzI) (fzT fzI)) _), _, rfl, ((fz3 fzI (fzT fzI) (fzT fzI)) _), _, rfl, (fzD _), ⟨_, rfl⟩, _, rfl, (fzD _), _, rfl, (fzI _), _, rfl, ((fzL (fz2 fzI fzI)) _), _, rfl, _, (lenL _), rfl, bindK H fun w_ h19_ H => ?_⟩
    obtain ⟨r13, tape9⟩ := w_
    refine ⟨tape8, r12, r3, (r6.length : Int), (consE rfl (consE (someE (fzD _)) (consE (someE (fzI _)) (consE (someE (fzI _)) rfl)))), _, h19_, (fun z => Bool.noConfusion z), _, rfl, (fzI _), _, _, rfl, rfl, _, rfl, ((fz3 fzI (fzT fzI) (fzT fzI)) _), _, (ix3_2 _), _, rfl, ((fz3 fzI (fzT fzI) (fzT fzI)) _), _, (ix3_1 _), ((e3 D.int (eT D.int) (eT D.int)) ((0 - r8), (r8, ((dGet r9 (0 - r8)).getD [0]), ((dGet r10 r8).getD [0])).2.2, (r8, ((dGet r9 (0 - r8)).getD [0]), ((dGet r10 r8).getD [0])).2.1)), rfl, ((eL true eD) [(inD (e3 D.int (eT D.int) (eT D.int)) (fz3 fzI (fzT fzI) (fzT fzI)) (r8, ((dGet r9 (0 - r8)).getD [0]), ((dGet r10 r8).getD [0]))), (inD (e3 D.int (eT D.int) (eT D.int)) (fz3 fzI (fzT fzI) (fzT fzI)) (r8, zs2, (r8, ((dGet r9 (0 - r8)).getD [0]), ((dGet r10 r8).getD [0])).2.2)), r12, r13, (inD (e3 D.int (eT D.int) (eT D.int)) (fz3 fzI (fzT fzI) (fzT fzI)) ((0 - r8), (r8, ((dGet r9 (0 - r8)).getD [0]), ((dGet r10 r8).getD [0])).2.2, (r8, ((dGet r9 (0 - r8)).getD [0]), ((dGet r10 r8).getD [0])).2.1))]), rfl, _, _, rfl, ((fzL fzD) _), _, rfl, ((fzL fzD) _), ⟨_, rfl⟩, _, rfl, ((fz3 fzI (fzT fzI) (fzT fzI)) _), _, rfl, (fzI _), _, rfl, ((fzL (fz2 fzI fzI)) _), _, rfl, _, (lenL _), rfl, bindK H fun w_ h20_ H => ?_⟩
    obtain ⟨r14, tape10⟩ := w_
    refine ⟨tape9, (inD (e3 D.int (eT D.int) (eT D.int)) (fz3 fzI (fzT fzI) (fzT fzI)) (r8, ((dGet r9 (0 - r8)).getD [0]), ((dGet r10 r8).getD [0]))), r3, (r6.length : Int), (consE rfl (consE (someE ((fz3 fzI (fzT fzI) (fzT fzI)) _)) (consE (someE (fzI _)) (consE (someE (fzI _)) rfl)))), _, h20_, (fun z => Bool.noConfusion z), _, rfl, (fzI _), _, rfl, ((fz3 fzI (fzT fzI) (fzT fzI)) _), _, (ix3_1 _), _, rfl, _, rfl, (frzL_m fzI _), ((eL true D.int) ((r8, ((dGet r9 (0 - r8)).getD [0]), ((dGet r10 r8).getD [0])).2.1)), rfl, _, rfl, ((fz3 fzI (fzT fzI) (fzT fzI)) _), _, (ix3_2 _), ((e3 D.int (eL true D.int) (eT D.int)) (r8, (r8, ((dGet r9 (0 - r8)).getD [0]), ((dGet r10 r8).getD [0])).2.1, (r8, ((dGet r9 (0 - r8)).getD [0]), ((dGet r10 r8).getD [0])).2.2)), rfl, ((e3 D.int (eL false D.int) (eT D.int)) (r8, (r8, ((dGet r9 (0 - r8)).getD [0]), ((dGet r10 r8).getD [0])).2.1, (r8, ((dGet r9 (0 - r8)).getD [0]), ((dGet r10 r8).getD [0])).2.2)), ((fz3 fzI (fzL fzI) (fzT fzI)) _), ((eT eN) []), rfl, ((eL true eD) [r14, (inD (e3 D.int (eL false D.int) (eT D.int)) (fz3 fzI (fzL fzI) (fzT fzI)) (r8, (r8, ((dGet r9 (0 - r8)).getD [0]), ((dGet r10 r8).getD [0])).2.1, (r8, ((dGet r9 (0 - r8)).getD [0]), ((dGet r10 r8).getD [0])).2.2)), (inD eN fzN ()), (inD (eT eN) (fzT fzN) [])]), rfl, bindK H fun zs3 h21_ H => ⟨_, _, _, _, rfl, rfl, (frzL_m fzD _), (frzL_m fzD _), (cat_le h21_), ((eL true eD) zs3), (catE h21_), _, _, rfl, ((fzL fzD) _), _, rfl, ((fzL fzD) _), (List.map eD zs3), rfl, (List.map eD zs3), (frzL_e fzD _), bindK H fun fl1 h22_ H => ?_⟩⟩
    have Ho23_ := H
    refine p_forF (fun (s_ : Unit) (e_ : TT.Env) => match s_ with | _ => ∃ j14 j15 j16 j17 : Option D, e_ = [some ((eQ D.int) script), some ((eR3 true "cells" "spot" "left" (eL true D.int) D.int D.int) tape10), some (D.int turn), some (D.int r3), some ((eL false (e2 D.int D.int)) r6), some (D.int r8), some ((eK false (eL false D.int)) r9), some ((eK false (eL false D.int)) r10), some ((e3 D.int (eT D.int) (eT D.int)) (r8, ((dGet r9 (0 - r8)).getD [0]), ((dGet r10 r8).getD [0]))), some ((e3 D.int (eT D.int) (eT D.int)) (r8, zs2, (r8, ((dGet r9 (0 - r8)).getD [0]), ((dGet r10 r8).getD [0])).2.2)), some (eD r12), some ((eL false eD) zs3), j14, j15, j16, j17]) rfl h22_ ⟨_, _, _, _, rfl⟩ ?_ ?_
    rotate_left
    · rintro thing _ _ K ⟨j14, j15, j16, j17, rfl⟩ H
      refine of_gNm ?_
      refine ⟨_, rfl, (fzD _), bindK H fun _ h25_ H => bindK H fun text h24_ H => ⟨_, rfl, (guard_of h25_), _, h24_, _, rfl, (fzI _), _, rfl, ((fzL (fz2 fzI fzI)) _), _, rfl, (fzD _), rfl, bindK H fun r15 h26_ H => ⟨r3, r6, thing, (consE (someE (fzI _)) (consE (someE ((fzL (fz2 fzI fzI)) _)) (consE (someE (fzD _)) rfl))), _, h26_, (fun z => Bool.noConfusion z), _, _, rfl, bindK H fun r16 h27_ H => ⟨_, rfl, (rng_ok h27_).1, (rng_ok h27_).2, (List.map D.int r16), (rngE h27_), bindK H fun fl2 h28_ H => ?_⟩⟩⟩⟩
      have Ho29_ := H
      refine p_forF (fun (s_ : Unit) (e_ : TT.Env) => match s_ with | _ => ∃ j18 : Option D, e_ = [some ((eQ D.int) script), some ((eR3 true "cells" "spot" "left" (eL true D.int) D.int D.int) tape10), some (D.int turn), some (D.int r3), some ((eL false (e2 D.int D.int)) r6), some (D.int r8), some ((eK false (eL false D.int)) r9), some ((eK false (eL false D.int)) r10), some ((e3 D.int (eT D.int) (eT D.int)) (r8, ((dGet r9 (0 - r8)).getD [0]), ((dGet r10 r8).getD [0]))), some ((e3 D.int (eT D.int) (eT D.int)) (r8, zs2, (r8, ((dGet r9 (0 - r8)).getD [0]), ((dGet r10 r8).getD [0])).2.2)), some (eD r12), some ((eL false eD) zs3), some (eD thing), some (D.str text), some (D.bl r15), j18]) rfl h28_ ⟨_, rfl⟩ ?_ ?_
      rotate_left
      · rintro again _ _ K ⟨j18, rfl⟩ H
        refine of_gNm ?_
        refine ⟨_, rfl, (fzI _), _, rfl, ((fzL (fz2 fzI fzI)) _), _, rfl, (fzD _), rfl, bindK H fun r17 h30_ H => ⟨r3, r6, thing, (consE (someE (fzI _)) (consE (someE ((fzL (fz2 fzI fzI)) _)) (consE (someE (fzD _)) rfl))), _, h30_, (fun z => Bool.noConfusion z), bindK H fun text1 h31_ H => ⟨_, rfl, (cmpD_py cmpB ((fun _ => rfl) _) ((cmpB.ok) _)), _, h31_, _, rfl, (fzB _), bindK H fun text2 h32_ H => ⟨_, rfl, (cmpD_py cmpB ((fun _ => rfl) _) ((cmpB.ok) _)), _, h32_, _, _, rfl, rfl, _, rfl, bindK H fun t h35_ H => k_orP h35_ ?_ fun hb Q' J H => ?_⟩⟩⟩⟩
        rotate_left
        · exact ⟨_, rfl, (fzD _), bindK H fun _ h34_ H => bindK H fun text3 h33_ H => ⟨_, rfl, (guard_of h34_), _, h33_, _, rfl, (fzS _), _, _, rfl, rfl, _, rfl, valB H J⟩⟩
        refine iteB (fun hb => ?_) (fun hb => ?_)
        · have H := wpT hb H
          have H := retK H
          rw [H] at Ho29_
          have H := Ho29_
          have H := retK H
          rw [H] at Ho23_
          have H := Ho23_
          have H := retK H
          rw [H] at Ho4_
          have H := Ho4_
          exact (wpSome H :)
        · have H := wpF hb H
          exact goK H ⟨_, rfl⟩
      rintro _ hfl_ _ ⟨j18, rfl⟩
      rw [hfl_] at Ho29_
      have H := Ho29_
      exact goK H ⟨_, _, _, _, rfl⟩
    rintro _ hfl_ _ ⟨j14, j15, j16, j17, rfl⟩
    rw [hfl_] at Ho23_
    have H := Ho23_
    exact goK H ⟨_, _, _, _, _, _, _, _, _, _, _, _, _, _, rfl⟩
  rintro tape hfl_ _ ⟨j, j1, j2, j3, j4, j5, j6, j7, j8, j9, j10, j11, j12, j13, rfl⟩
  rw [hfl_] at Ho4_
  have H := Ho4_
  exact (wpSome H :)
end K05
namespace K05
open PySem PySem.Spec PyProof.Rows L2 TT
def top (i : Nat) : Stmt := PySem.Challenge.pw_meetrow_k05_papers_of_nothing_looked_at.main.body.getD i (.Pass ⟨0, 0, 0, 0⟩)
variable [Cls]
structure Gs (K : PySem.W.Frag) (mg : Str → Option Value) : Prop where
  abs : mg "abs" = none
  bool : mg "bool" = none
  int : mg "int" = none
  isinstance : mg "isinstance" = none
  len : mg "len" = none
  list : mg "list" = none
  min : mg "min" = none
  range : mg "range" = none
  repr : mg "repr" = none
  tuple : mg "tuple" = none
abbrev s_is_whole : Stmt := top 1
theorem sc_is_whole : FnScope N_is_whole P_is_whole (defScope s_is_whole) := ⟨rfl, rfl, rfl, by decide +kernel, rfl, by decide +kernel, by decide +kernel⟩
theorem ok_is_whole {P : Program} {w : World} {K : PySem.W.Frag} {mg : Str → Option Value} {base : Heap} {f : Addr} {fd : FuncData} (F : FunD K "is_whole" "is_whole" (defArgs s_is_whole) (defBody s_is_whole) (defScope s_is_whole) [] [] f fd) (G : Gs K mg)
     (vc : VC_is_whole) : FnOk P w K mg base CX0 1 f fd P_is_whole (liftSp K 1 sp_is_whole) :=
  fn_ok (k := 0) (io := []) F sc_is_whole (fun cdv hc A outer s H E hr =>
    (xs_one (s_ret (x_and2 (x_callB c_isi (by rfl) G.isinstance (by decide +kernel) (xa_cons (x_imm (pv 0)) (xa_cons (x_tyN (by rfl) G.int (by decide +kernel)) xa_nil))) (x_one (x_not (x_callB c_isi (by rfl) G.isinstance (by decide +kernel) (xa_cons (x_imm (pv 0)) (xa_cons (x_tyN (by rfl) G.bool (by decide +kernel)) xa_nil))))))))) rfl vc
abbrev s_is_side : Stmt := top 2
theorem sc_is_side : FnScope N_is_side P_is_side (defScope s_is_side) := ⟨rfl, rfl, rfl, by decide +kernel, rfl, by decide +kernel, by decide +kernel⟩
theorem ok_is_side {P : Program} {w : World} {K : PySem.W.Frag} {mg : Str → Option Value} {base : Heap} {f : Addr} {fd : FuncData} (F : FunD K "is_side" "is_side" (defArgs s_is_side) (defBody s_is_side) (defScope s_is_side) [] [] f fd) (G : Gs K mg)
    (G_is_whole : FnAt P w K mg base "is_whole" 1 P_is_whole sp_is_whole) (vc : VC_is_side) : FnOk P w K mg base CX0 2 f fd P_is_side (liftSp K 2 sp_is_side) :=
  fn_ok (k := 1) (io := []) F sc_is_side (fun cdv hc A outer s H E hr =>
    (xs_one (s_ret (x_and2 (x_fn false G_is_whole (hr.mono (by decide)) (by rfl) (xc_val (x_imm (pv 1)) xc_nil)) (x_one (x_eq (x_chain2 o_le o_le x_int (x_eq (x_callB c_abs (by rfl) G.abs (by decide +kernel) (xa_cons (x_eqI (x_imm (pv 1))) xa_nil))) (x_imm (pv 0))))))))) rfl vc
abbrev s_end_of : Stmt := top 4
theorem sc_end_of : FnScope N_end_of P_end_of (defScope s_end_of) := ⟨rfl, rfl, rfl, by decide +kernel, rfl, by decide +kernel, by decide +kernel⟩
theorem ok_end_of {P : Program} {w : World} {K : PySem.W.Frag} {mg : Str → Option Value} {base : Heap} {f : Addr} {fd : FuncData} (F : FunD K "end_of" "end_of" (defArgs s_end_of) (defBody s_end_of) (defScope s_end_of) [] [] f fd) (G : Gs K mg)
    (G_is_whole : FnAt P w K mg base "is_whole" 1 P_is_whole sp_is_whole) (vc : VC_end_of) : FnOk P w K mg base CX0 2 f fd P_end_of (liftSp K 3 sp_end_of) :=
  fn_ok (k := 1) (io := []) F sc_end_of (fun cdv hc A outer s H E hr =>
    (xs_cons (s_if (xt_not (xt_val (x_callB c_isi (by rfl) G.isinstance (by decide +kernel) (xa_cons (x_imm (pv 2)) (xa_cons (x_tyN (by rfl) G.tuple (by decide +kernel)) xa_nil))))) (xs_one (s_ret x_non)) xs_nil)
    (xs_cons (s_for PassesOwn.never rfl (xi_eq (xi_tup (x_eqT (x_imm (pv 2))))) (pg_name (i := 3) sc_end_of.nd rfl (Or.inl rfl)) (gok_name 3) (xs_cons (s_if (XW.pt (xw_or2 (xt_not (xt_val (x_fn false G_is_whole (hr.mono (by decide)) (by rfl) (xc_val (x_imm (pv 3)) xc_nil)))) (xw_or2 (xt_not (xt_chain2 o_le o_lt x_int (x_eqI (x_imm (pv 3))) (x_callB c_len (by rfl) G.len (by decide +kernel) (xa_cons (x_imm (pv 0)) xa_nil)))) (xw_or1 (xt_cmp (o_nin (hu65 hr)) (x_imm (pv 1)) (x_ix (x_imm (pv 0)) (x_eqI (x_imm (pv 3))))))))) (xs_one (s_ret x_non)) xs_nil)
    (xs_cons (s_asgT (x_ix (x_imm (pv 0)) (x_eqI (x_imm (pv 3)))) (ga_tup (n := 2) rfl (gas_cons (ga_name (i := 4) sc_end_of.nd rfl (Or.inl rfl)) (gas_cons (ga_name (i := 5) sc_end_of.nd rfl (Or.inl rfl)) gas_nil))))
    (xs_one (s_set (i := 1) sc_end_of.nd rfl (Or.inl rfl) (x_if20 (xt_cmp o_eqI (x_imm (pv 1)) (x_imm (pv 4))) (x_un u_neg (x_imm (pv 5))) (x_un u_neg (x_imm (pv 4)))))))))
    (xs_one (s_ret (x_imm (pv 1))))))) rfl vc
abbrev s_is_nothing : Stmt := top 5
theorem sc_is_nothing : FnScope N_is_nothing P_is_nothing (defScope s_is_nothing) := ⟨rfl, rfl, rfl, by decide +kernel, rfl, by decide +kernel, by decide +kernel⟩
theorem ok_is_nothing {P : Program} {w : World} {K : PySem.W.Frag} {mg : Str → Option Value} {base : Heap} {f : Addr} {fd : FuncData} (F : FunD K "is_nothing" "is_nothing" (defArgs s_is_nothing) (defBody s_is_nothing) (defScope s_is_nothing) [] [] f fd) (G : Gs K mg)
    (G_end_of : FnAt P w K mg base "end_of" 2 P_end_of sp_end_of) (G_is_side : FnAt P w K mg base "is_side" 2 P_is_side sp_is_side) (vc : VC_is_nothing) : FnOk P w K mg base CX0 3 f fd P_is_nothing (liftSp K 3 sp_is_nothing) :=
  fn_ok (k := 2) (io := []) F sc_is_nothing (fun cdv hc A outer s H E hr =>
    (xs_cons (s_if (XW.pt (xw_or2 (xt_not (xt_val (x_callB c_isi (by rfl) G.isinstance (by decide +kernel) (xa_cons (x_imm (pv 2)) (xa_cons (x_tyN (by rfl) G.tuple (by decide +kernel)) xa_nil))))) (xw_or2 (xt_cmp o_neI (x_callB c_len (by rfl) G.len (by decide +kernel) (xa_cons (x_imm (pv 2)) xa_nil)) x_int) (xw_or1 (xt_not (xt_val (x_fn false G_is_side (hr.mono (by decide)) (by rfl) (xc_val (x_imm (pv 0)) (xc_val (x_ix (x_eqT (x_imm (pv 2))) x_int) xc_nil))))))))) (xs_one (s_ret x_bl)) xs_nil)
    (xs_cons (s_asgT (x_eq3 (x_imm (pv 2))) (ga_tup (n := 3) rfl (gas_cons (ga_name (i := 3) sc_is_nothing.nd rfl (Or.inl rfl)) (gas_cons (ga_name (i := 4) sc_is_nothing.nd rfl (Or.inl rfl)) (gas_cons (ga_name (i := 5) sc_is_nothing.nd rfl (Or.inl rfl)) gas_nil)))))
    (xs_one (s_ret (x_and2 (x_eq (x_cmp (o_eq hr.units) (x_fn false G_end_of (hr.mono (by decide)) (by rfl) (xc_val (x_imm (pv 1)) (xc_val (x_eqI (x_imm (pv 3))) (xc_val (x_imm (pv 4)) xc_nil)))) (x_un u_neg (x_eqI (x_imm (pv 3)))))) (x_one (x_eq (x_cmp (o_eq hr.units) (x_fn false G_end_of (hr.mono (by decide)) (by rfl) (xc_val (x_imm (pv 1)) (xc_val (x_un u_neg (x_eqI (x_imm (pv 3)))) (xc_val (x_imm (pv 5)) xc_nil)))) (x_imm (pv 3))))))))))) rfl vc
abbrev s__law_begun : Stmt := top 7
theorem sc__law_begun : FnScope N__law_begun P__law_begun (defScope s__law_begun) := ⟨rfl, rfl, rfl, by decide +kernel, rfl, by decide +kernel, by decide +kernel⟩
theorem ok__law_begun {P : Program} {w : World} {K : PySem.W.Frag} {mg : Str → Option Value} {base : Heap} {f : Addr} {fd : FuncData} (F : FunD K "_law_begun" "_law_begun" (defArgs s__law_begun) (defBody s__law_begun) (defScope s__law_begun) [] [] f fd) (G : Gs K mg)
     (vc : VC__law_begun) : FnOk P w K mg base CX0 1 f fd P__law_begun (liftSp K 1 sp__law_begun) :=
  fn_ok (k := 0) (io := []) F sc__law_begun (fun cdv hc A outer s H E hr =>
    (xs_one (s_ret (x_eq (x_disp (xd_cons x_str (x_orT20 (x_eq (x_slice (x_imm (pv 0)) xo_none (xo_some x_int))) (x_one (x_eq (x_lst (xl_cons x_int xl_nil))))) (xd_cons x_str x_int (xd_cons x_str x_int xd_nil)))))))) rfl vc
abbrev s__law_draw : Stmt := top 8
theorem sc__law_draw : FnScope N__law_draw P__law_draw (defScope s__law_draw) := ⟨rfl, rfl, rfl, by decide +kernel, rfl, by decide +kernel, by decide +kernel⟩
theorem ok__law_draw {P : Program} {w : World} {K : PySem.W.Frag} {mg : Str → Option Value} {base : Heap} {f : Addr} {fd : FuncData} (F : FunD K "_law_draw" "_law_draw" (defArgs s__law_draw) (defBody s__law_draw) (defScope s__law_draw) [] [] f fd) (G : Gs K mg)
     (vc : VC__law_draw) : FnOk P w K mg base CX0 1 f fd P__law_draw (liftSp K 2 sp__law_draw) :=
  fn_ok (k := 0) (io := [0]) F sc__law_draw (fun cdv hc A outer s H E hr =>
    (xs_cons (s_if (xt_cmp o_lt (x_toimm (x_dget (hu_of hr) (x_view (pv 0)) x_str)) (x_imm (pv 1))) (xs_cons (s_par (i := 2) (j := 3) rfl sc__law_draw.nd rfl rfl (by decide) rfl rfl (xl_cons (x_toimm (x_dget (hu_of hr) (x_view (pv 0)) x_str)) (xl_cons (x_callB c_len (by rfl) G.len (by decide +kernel) (xa_cons (x_dget (hu_of hr) (x_view (pv 0)) x_str) xa_nil)) xl_nil)))
    (xs_cons (s_asgT (x_eq (x_tup (xl_cons (x_toimm (x_ix (x_dget (hu_of hr) (x_view (pv 0)) x_str) (x_op o_mod (x_callTy c_int (by rfl) G.int (by decide +kernel) (xa_cons (x_imm (pv 2)) xa_nil)) (x_imm (pv 3))))) (xl_cons (x_op o_add (x_imm (pv 2)) x_int) xl_nil)))) (ga_tup (n := 2) rfl (gas_cons (ga_name (i := 4) sc__law_draw.nd rfl (Or.inl rfl)) (gas_cons (ga_dput (hu_of hr) (pv 0) x_str) gas_nil))))
    (xs_cons (s_dput (hu_of hr) (pv 0) (x_op o_mod (x_callTy c_int (by rfl) G.int (by decide +kernel) (xa_cons (x_eq (x_op o_powW (x_op o_add (x_op o_add (x_op o_mod (x_callTy c_int (by rfl) G.int (by decide +kernel) (xa_cons (x_imm (pv 4)) xa_nil)) x_int) (x_op o_mul x_int (x_imm (pv 2)))) x_int) x_int)) xa_nil)) (x_op o_add (x_eq (x_op o_powW x_int x_int)) x_int)) x_str)
    (xs_one (s_if (XW.pt (xw_and2 (xt_cmp o_ge (x_imm (pv 4)) (x_eq (x_op o_powW x_int x_int))) (xw_and1 (xt_cmp o_lt (x_imm (pv 2)) (x_imm (pv 3)))))) (xs_one (s_dput (hu_of hr) (pv 0) (x_op o_sub (x_imm (pv 4)) (x_eq (x_op o_powW x_int x_int))) x_str)) xs_nil))))) xs_nil)
    (xs_cons (s_asgT (x_eq (x_tup (xl_cons (x_op o_mod (x_callTy c_int (by rfl) G.int (by decide +kernel) (xa_cons (x_toimm (x_dget (hu_of hr) (x_view (pv 0)) x_str)) xa_nil)) (x_imm (pv 1))) (xl_cons (x_op o_fdivW (x_toimm (x_dget (hu_of hr) (x_view (pv 0)) x_str)) (x_imm (pv 1))) xl_nil)))) (ga_tup (n := 2) rfl (gas_cons (ga_name (i := 5) sc__law_draw.nd rfl (Or.inl rfl)) (gas_cons (ga_dput (hu_of hr) (pv 0) x_str) gas_nil))))
    (xs_one (s_ret (x_imm (pv 5))))))) rfl vc
abbrev s__law_pick : Stmt := top 9
theorem sc__law_pick : FnScope N__law_pick P__law_pick (defScope s__law_pick) := ⟨rfl, rfl, rfl, by decide +kernel, rfl, by decide +kernel, by decide +kernel⟩
theorem ok__law_pick {P : Program} {w : World} {K : PySem.W.Frag} {mg : Str → Option Value} {base : Heap} {f : Addr} {fd : FuncData} (F : FunD K "_law_pick" "_law_pick" (defArgs s__law_pick) (defBody s__law_pick) (defScope s__law_pick) [] [] f fd) (G : Gs K mg)
    (G__law_draw : FnAt P w K mg base "_law_draw" 1 P__law_draw sp__law_draw) (vc : VC__law_pick) : FnOk P w K mg base CX0 2 f fd P__law_pick (liftSp K 2 sp__law_pick) :=
  fn_ok (k := 1) (io := [0]) F sc__law_pick (fun cdv hc A outer s H E hr =>
    (xs_one (s_ret (x_ix (x_imm (pv 1)) (x_fn false G__law_draw (hr.mono (by decide)) (by rfl) (xc_io (pv 0) (xc_val (x_callB c_len (by rfl) G.len (by decide +kernel) (xa_cons (x_imm (pv 1)) xa_nil)) xc_nil))))))) rfl vc
abbrev s__law_shuffled : Stmt := top 10
theorem sc__law_shuffled : FnScope N__law_shuffled P__law_shuffled (defScope s__law_shuffled) := ⟨rfl, rfl, rfl, by decide +kernel, rfl, by decide +kernel, by decide +kernel⟩
theorem ok__law_shuffled {P : Program} {w : World} {K : PySem.W.Frag} {mg : Str → Option Value} {base : Heap} {f : Addr} {fd : FuncData} (F : FunD K "_law_shuffled" "_law_shuffled" (defArgs s__law_shuffled) (defBody s__law_shuffled) (defScope s__law_shuffled) [] [] f fd) (G : Gs K mg)
    (G__law_draw : FnAt P w K mg base "_law_draw" 1 P__law_draw sp__law_draw) (vc : VC__law_shuffled) : FnOk P w K mg base CX0 2 f fd P__law_shuffled (liftSp K 2 sp__law_shuffled) :=
  fn_ok (k := 1) (io := [0]) F sc__law_shuffled (fun cdv hc A outer s H E hr =>
    (xs_cons (s_par (i := 2) (j := 3) rfl sc__law_shuffled.nd rfl rfl (by decide) rfl rfl (xl_cons (x_eq (x_callTy c_list (by rfl) G.list (by decide +kernel) (xa_cons (x_imm (pv 1)) xa_nil))) (xl_cons (x_eq (x_lst xl_nil)) xl_nil)))
    (xs_cons (s_while PassesOwn.never (xt_cmp (o_ne hr.units) (x_view (pv 2)) (x_eq (x_lst xl_nil))) (xs_one (s_expr (x_env (x_append (pv 3) (x_env (xp_pop (xp_name (pv 2)) (x_fn false G__law_draw (hr.mono (by decide)) (by rfl) (xc_io (pv 0) (xc_val (x_callB c_len (by rfl) G.len (by decide +kernel) (xa_cons (x_view (pv 2)) xa_nil)) xc_nil))))))))))
    (xs_one (s_ret (x_move (pv 3))))))) rfl vc
abbrev s__law_side : Stmt := top 11
theorem sc__law_side : FnScope N__law_side P__law_side (defScope s__law_side) := ⟨rfl, rfl, rfl, by decide +kernel, rfl, by decide +kernel, by decide +kernel⟩
theorem ok__law_side {P : Program} {w : World} {K : PySem.W.Frag} {mg : Str → Option Value} {base : Heap} {f : Addr} {fd : FuncData} (F : FunD K "_law_side" "_law_side" (defArgs s__law_side) (defBody s__law_side) (defScope s__law_side) [] [] f fd) (G : Gs K mg)
    (G__law_draw : FnAt P w K mg base "_law_draw" 1 P__law_draw sp__law_draw) (G__law_pick : FnAt P w K mg base "_law_pick" 2 P__law_pick sp__law_pick) (vc : VC__law_side) : FnOk P w K mg base CX0 3 f fd P__law_side (liftSp K 2 sp__law_side) :=
  fn_ok (k := 2) (io := [0]) F sc__law_side (fun cdv hc A outer s H E hr =>
    (xs_one (s_ret (x_op o_mul (x_op o_add x_int (x_fn false G__law_draw (hr.mono (by decide)) (by rfl) (xc_io (pv 0) (xc_val (x_imm (pv 1)) xc_nil)))) (x_fn false G__law_pick (hr.mono (by decide)) (by rfl) (xc_io (pv 0) (xc_val (x_eq (x_lst (xl_cons x_int (xl_cons (x_un u_neg x_int) xl_nil)))) xc_nil))))))) rfl vc
abbrev s__law_bans : Stmt := top 12
theorem sc__law_bans : FnScope N__law_bans P__law_bans (defScope s__law_bans) := ⟨rfl, rfl, rfl, by decide +kernel, rfl, by decide +kernel, by decide +kernel⟩
abbrev cs__law_bans_1 : Scope := { kind := .function, names := [(PySem.Str.ofString ".0", .local), (PySem.Str.ofString "_law_cut", .local), (PySem.Str.ofString "_law_pick", .globalImplicit), (PySem.Str.ofString "_law_tape", .free)], isGenerator := false, isCoroutine := false, more := [] }
abbrev cs__law_bans_2 : Scope := { kind := .function, names := [(PySem.Str.ofString ".0", .local), (PySem.Str.ofString "_law_k", .local), (PySem.Str.ofString "_law_row", .free)], isGenerator := false, isCoroutine := false, more := [] }
theorem ok__law_bans {P : Program} {w : World} {K : PySem.W.Frag} {mg : Str → Option Value} {base : Heap} {f : Addr} {fd : FuncData} (F : FunD K "_law_bans" "_law_bans" (defArgs s__law_bans) (defBody s__law_bans) (defScope s__law_bans) [] [] f fd) (G : Gs K mg)
    (G__law_draw : FnAt P w K mg base "_law_draw" 1 P__law_draw sp__law_draw) (G__law_pick : FnAt P w K mg base "_law_pick" 2 P__law_pick sp__law_pick) (G__law_shuffled : FnAt P w K mg base "_law_shuffled" 2 P__law_shuffled sp__law_shuffled) (G__law_side : FnAt P w K mg base "_law_side" 3 P__law_side sp__law_side) (vc : VC__law_bans) : FnOk P w K mg base CX0 4 f fd P__law_bans (liftSp K 2 sp__law_bans) :=
  fn_ok (k := 3) (io := [0]) F sc__law_bans (fun cdv hc A outer s H E hr =>
    (xs_cons (s_set (i := 2) sc__law_bans.nd rfl (Or.inl rfl) (x_eq (x_lst xl_nil)))
    (xs_cons (s_for PassesOwn.never rfl (xi_eq (xi_range1 (by rfl) G.range (xa_cons (x_op o_mul (x_fn false G__law_pick (hr.mono (by decide)) (by rfl) (xc_io (pv 0) (xc_val (x_eq (x_lst (xl_cons x_int (xl_cons (x_op o_fdivW (x_imm (pv 1)) x_int) (xl_cons (x_imm (pv 1)) (xl_cons (x_op o_add (x_imm (pv 1)) (x_op o_fdivW (x_imm (pv 1)) x_int)) (xl_cons (x_op o_mul x_int (x_imm (pv 1))) (xl_cons (x_op o_mul x_int (x_imm (pv 1))) xl_nil)))))))) xc_nil))) (x_callTy c_int (by rfl) G.int (by decide +kernel) (xa_cons (x_eq (x_cmp o_gt (x_imm (pv 1)) x_int)) xa_nil))) xa_nil))) (pg_name (i := 3) sc__law_bans.nd rfl (Or.inl rfl)) (gok_name 3) (xs_cons (s_par (i := 4) (j := 5) rfl sc__law_bans.nd rfl rfl (by decide) rfl rfl (xl_cons (x_fn false G__law_side (hr.mono (by decide)) (by rfl) (xc_io (pv 0) (xc_val (x_imm (pv 1)) xc_nil))) (xl_cons (x_fn false G__law_side (hr.mono (by decide)) (by rfl) (xc_io (pv 0) (xc_val (x_imm (pv 1)) xc_nil))) xl_nil)))
    (xs_one (s_if (xt_cmp o_neI (x_eq (x_callB c_abs (by rfl) G.abs (by decide +kernel) (xa_cons (x_imm (pv 4)) xa_nil))) (x_eq (x_callB c_abs (by rfl) G.abs (by decide +kernel) (xa_cons (x_imm (pv 5)) xa_nil)))) (xs_one (s_expr (x_env (x_append (pv 2) (x_eq (x_tup (xl_cons (x_imm (pv 4)) (xl_cons (x_imm (pv 5)) xl_nil)))))))) xs_nil))))
    (xs_cons (s_if (XW.pt (xw_and2 (xt_cmp o_gt (x_imm (pv 1)) x_int) (xw_and1 (xt_cmp o_eqI (x_fn false G__law_draw (hr.mono (by decide)) (by rfl) (xc_io (pv 0) (xc_val x_int xc_nil))) x_int)))) (xs_cons (s_fz (i := 6) (s_set (i := 6) sc__law_bans.nd rfl (Or.inl rfl) (x_eq (x_slice (x_fn false G__law_shuffled (hr.mono (by decide)) (by rfl) (xc_io (pv 0) (xc_val (x_eq (x_listRg rfl (by rfl) G.list (xr_2 (by rfl) G.range x_int (x_op o_add (x_imm (pv 1)) x_int)))) xc_nil))) xo_none (xo_some (x_op o_add x_int (x_fn false G__law_draw (hr.mono (by decide)) (by rfl) (xc_io (pv 0) (xc_val (x_op o_sub (x_imm (pv 1)) x_int) xc_nil)))))))))
    (xs_cons (s_fz (i := 7) (s_set (i := 7) sc__law_bans.nd rfl (Or.inr rfl) (x_eq (x_comp rfl sc__law_bans.nd (xi_eq (xi_list (x_imm (pv 6)))) (blkOk_by (N := N__law_bans) (sc := defScope s__law_bans) (scope := cs__law_bans_1) (own := [("_law_cut", 8)]) (by decide +kernel)) (by decide) (fun _ _ _ _ _ => (pg_name (i := 8) sc__law_bans.nd rfl (Or.inl rfl))) (gok_name 8) (fun _ _ _ _ _ => xts_nil) (fun _ _ _ _ _ => (x_op o_mul (x_imm (pv 8)) (x_fn false G__law_pick (hr.mono (by decide)) (by rfl) (xc_io (pv 0) (xc_val (x_eq (x_lst (xl_cons x_int (xl_cons (x_un u_neg x_int) xl_nil)))) xc_nil)))))))))
    (xs_one (s_expr (x_env (x_extend (pv 2) (x_eq (x_comp rfl sc__law_bans.nd (xi_eq (xi_range1 (by rfl) G.range (xa_cons (x_callB c_len (by rfl) G.len (by decide +kernel) (xa_cons (x_imm (pv 7)) xa_nil)) xa_nil))) (blkOk_by (N := N__law_bans) (sc := defScope s__law_bans) (scope := cs__law_bans_2) (own := [("_law_k", 3)]) (by decide +kernel)) (by decide) (fun _ _ _ _ _ => (pg_name (i := 3) sc__law_bans.nd rfl (Or.inl rfl))) (gok_name 3) (fun _ _ _ _ _ => xts_nil) (fun _ _ _ _ _ => (x_eq (x_tup (xl_cons (x_ix (x_imm (pv 7)) (x_imm (pv 3))) (xl_cons (x_op o_sub x_int (x_ix (x_imm (pv 7)) (x_op o_sub (x_imm (pv 3)) x_int))) xl_nil))))))))))))) xs_nil)
    (xs_one (s_ret (x_fn true G__law_shuffled (hr.mono (by decide)) (by rfl) (xc_io (pv 0) (xc_val (x_view (pv 2)) xc_nil))))))))) rfl vc
abbrev s__law_road_end : Stmt := top 13
theorem sc__law_road_end : FnScope N__law_road_end P__law_road_end (defScope s__law_road_end) := ⟨rfl, rfl, rfl, by decide +kernel, rfl, by decide +kernel, by decide +kernel⟩
theorem ok__law_road_end {P : Program} {w : World} {K : PySem.W.Frag} {mg : Str → Option Value} {base : Heap} {f : Addr} {fd : FuncData} (F : FunD K "_law_road_end" "_law_road_end" (defArgs s__law_road_end) (defBody s__law_road_end) (defScope s__law_road_end) [] [] f fd) (G : Gs K mg)
     (vc : VC__law_road_end) : FnOk P w K mg base CX0 1 f fd P__law_road_end (liftSp K 3 sp__law_road_end) :=
  fn_ok (k := 0) (io := []) F sc__law_road_end (fun cdv hc A outer s H E hr =>
    (xs_cons (s_set (i := 3) sc__law_road_end.nd rfl (Or.inl rfl) (x_imm (pv 1)))
    (xs_cons (s_for PassesOwn.never rfl (xi_eq (xi_tup (x_eqT (x_imm (pv 2))))) (pg_name (i := 4) sc__law_road_end.nd rfl (Or.inl rfl)) (gok_name 4) (xs_cons (s_if (XW.pt (xw_or2 (xt_not (xt_val (x_callB c_isi (by rfl) G.isinstance (by decide +kernel) (xa_cons (x_imm (pv 4)) (xa_cons (x_tyN (by rfl) G.int (by decide +kernel)) xa_nil))))) (xw_or2 (xt_val (x_callB c_isi (by rfl) G.isinstance (by decide +kernel) (xa_cons (x_imm (pv 4)) (xa_cons (x_tyN (by rfl) G.bool (by decide +kernel)) xa_nil)))) (xw_or1 (xt_not (xt_chain2 o_le o_lt x_int (x_eqI (x_imm (pv 4))) (x_callB c_len (by rfl) G.len (by decide +kernel) (xa_cons (x_imm (pv 0)) xa_nil)))))))) (xs_one (s_ret x_int)) xs_nil)
    (xs_cons (s_if (xt_cmp (o_nin (hu65 hr)) (x_imm (pv 3)) (x_ix (x_imm (pv 0)) (x_eqI (x_imm (pv 4))))) (xs_one (s_ret x_int)) xs_nil)
    (xs_cons (s_asgT (x_ix (x_imm (pv 0)) (x_eqI (x_imm (pv 4)))) (ga_tup (n := 2) rfl (gas_cons (ga_name (i := 5) sc__law_road_end.nd rfl (Or.inl rfl)) (gas_cons (ga_name (i := 6) sc__law_road_end.nd rfl (Or.inl rfl)) gas_nil))))
    (xs_one (s_set (i := 3) sc__law_road_end.nd rfl (Or.inl rfl) (x_if20 (xt_cmp o_eqI (x_imm (pv 3)) (x_imm (pv 5))) (x_op o_sub x_int (x_imm (pv 6))) (x_op o_sub x_int (x_imm (pv 5))))))))))
    (xs_one (s_ret (x_imm (pv 3))))))) rfl vc
abbrev s__law_roads : Stmt := top 14
theorem sc__law_roads : FnScope N__law_roads P__law_roads (defScope s__law_roads) := ⟨rfl, rfl, rfl, by decide +kernel, rfl, by decide +kernel, by decide +kernel⟩
theorem ok__law_roads {P : Program} {w : World} {K : PySem.W.Frag} {mg : Str → Option Value} {base : Heap} {f : Addr} {fd : FuncData} (F : FunD K "_law_roads" "_law_roads" (defArgs s__law_roads) (defBody s__law_roads) (defScope s__law_roads) [] [] f fd) (G : Gs K mg)
     (vc : VC__law_roads) : FnOk P w K mg base CX0 1 f fd P__law_roads (liftSp K 3 sp__law_roads) :=
  fn_ok (k := 0) (io := []) F sc__law_roads (fun cdv hc A outer s H E hr =>
    (xs_cons (s_par3 (i := 3) (j := 4) (l := 5) rfl sc__law_roads.nd rfl rfl rfl (by decide) (by decide) (by decide) rfl rfl rfl (xl_cons (x_eq (x_disp (xd_cons (x_imm (pv 2)) (x_eq (x_lst xl_nil)) xd_nil))) (xl_cons (x_eq (x_lst (xl_cons (x_imm (pv 2)) xl_nil))) (xl_cons x_int xl_nil))))
    (xs_cons (s_while PassesOwn.never (xt_cmp o_lt (x_imm (pv 5)) (x_callB c_len (by rfl) G.len (by decide +kernel) (xa_cons (x_view (pv 4)) xa_nil))) (xs_cons (s_for PassesOwn.never rfl (xi_eq (xi_range1 (by rfl) G.range (xa_cons (x_callB c_len (by rfl) G.len (by decide +kernel) (xa_cons (x_imm (pv 1)) xa_nil)) xa_nil))) (pg_name (i := 6) sc__law_roads.nd rfl (Or.inl rfl)) (gok_name 6) (xs_one (s_for PassesOwn.never rfl (xi_eq (xi_list (x_eq (x_lst (xl_cons (x_ix (x_imm (pv 1)) (x_imm (pv 6))) (xl_cons (x_eq (x_rev2 (x_ix (x_imm (pv 1)) (x_imm (pv 6))))) xl_nil)))))) (pg_tup (n := 2) rfl (pgs_cons (pg_name (i := 7) sc__law_roads.nd rfl (Or.inl rfl)) (pgs_cons (pg_name (i := 8) sc__law_roads.nd rfl (Or.inl rfl)) pgs_nil))) (gok_tup (gsok_cons (gok_name 7) (gsok_cons (gok_name 8) gsok_nil))) (xs_one (s_if (XW.pt (xw_and2 (xt_cmp o_eqI (x_imm (pv 7)) (x_toimm (x_ix (x_view (pv 4)) (x_imm (pv 5))))) (xw_and1 (xt_dnin (hu_of hr) (x_op o_sub x_int (x_imm (pv 8))) (x_view (pv 3)))))) (xs_cons (s_dput (hu_of hr) (pv 3) (x_eq (x_op o_cat (x_dget (hu_of hr) (x_view (pv 3)) (x_toimm (x_ix (x_view (pv 4)) (x_imm (pv 5))))) (x_eq (x_lst (xl_cons (x_imm (pv 6)) xl_nil))))) (x_op o_sub x_int (x_imm (pv 8))))
    (xs_one (s_expr (x_env (x_append (pv 4) (x_op o_sub x_int (x_imm (pv 8)))))))) xs_nil)))))
    (xs_one (s_set (i := 5) sc__law_roads.nd rfl (Or.inl rfl) (x_op o_add (x_imm (pv 5)) x_int)))))
    (xs_one (s_ret (x_move (pv 3))))))) rfl vc
abbrev s__law_due : Stmt := top 15
theorem sc__law_due : FnScope N__law_due P__law_due (defScope s__law_due) := ⟨rfl, rfl, rfl, by decide +kernel, rfl, by decide +kernel, by decide +kernel⟩
theorem ok__law_due {P : Program} {w : World} {K : PySem.W.Frag} {mg : Str → Option Value} {base : Heap} {f : Addr} {fd : FuncData} (F : FunD K "_law_due" "_law_due" (defArgs s__law_due) (defBody s__law_due) (defScope s__law_due) [] [] f fd) (G : Gs K mg)
    (G__law_road_end : FnAt P w K mg base "_law_road_end" 1 P__law_road_end sp__law_road_end) (vc : VC__law_due) : FnOk P w K mg base CX0 2 f fd P__law_due (liftSp K 3 sp__law_due) :=
  fn_ok (k := 1) (io := []) F sc__law_due (fun cdv hc A outer s H E hr =>
    (xs_cons (s_if (XW.pt (xw_or2 (xt_not (xt_val (x_callB c_isi (by rfl) G.isinstance (by decide +kernel) (xa_cons (x_imm (pv 2)) (xa_cons (x_tyN (by rfl) G.tuple (by decide +kernel)) xa_nil))))) (xw_or2 (xt_cmp o_neI (x_callB c_len (by rfl) G.len (by decide +kernel) (xa_cons (x_imm (pv 2)) xa_nil)) x_int) (xw_or1 (xt_not (xt_val (x_callB c_isi (by rfl) G.isinstance (by decide +kernel) (xa_cons (x_ix (x_eqT (x_imm (pv 2))) x_int) (xa_cons (x_tyN (by rfl) G.tuple (by decide +kernel)) xa_nil))))))))) (xs_one (s_ret x_bl)) xs_nil)
    (xs_cons (s_set (i := 3) sc__law_due.nd rfl (Or.inl rfl) (x_ix (x_eqT (x_imm (pv 2))) x_int))
    (xs_cons (s_if (XW.pt (xw_or2 (xt_not (xt_val (x_callB c_isi (by rfl) G.isinstance (by decide +kernel) (xa_cons (x_imm (pv 3)) (xa_cons (x_tyN (by rfl) G.int (by decide +kernel)) xa_nil))))) (xw_or2 (xt_val (x_callB c_isi (by rfl) G.isinstance (by decide +kernel) (xa_cons (x_imm (pv 3)) (xa_cons (x_tyN (by rfl) G.bool (by decide +kernel)) xa_nil)))) (xw_or1 (xt_not (xt_chain2 o_le o_le x_int (x_eq (x_callB c_abs (by rfl) G.abs (by decide +kernel) (xa_cons (x_eqI (x_imm (pv 3))) xa_nil))) (x_imm (pv 0)))))))) (xs_one (s_ret x_bl)) xs_nil)
    (xs_cons (s_if (xt_not (xt_val (x_callB c_isi (by rfl) G.isinstance (by decide +kernel) (xa_cons (x_ix (x_eqT (x_imm (pv 2))) x_int) (xa_cons (x_tyN (by rfl) G.tuple (by decide +kernel)) xa_nil))))) (xs_one (s_ret x_bl)) xs_nil)
    (xs_one (s_ret (x_and2 (x_eq (x_cmp o_eqI (x_fn false G__law_road_end (hr.mono (by decide)) (by rfl) (xc_val (x_imm (pv 1)) (xc_val (x_eqI (x_imm (pv 3))) (xc_val (x_ix (x_eqT (x_imm (pv 2))) x_int) xc_nil)))) (x_op o_subA x_int (x_imm (pv 3))))) (x_one (x_eq (x_cmp (o_eq hr.units) (x_fn false G__law_road_end (hr.mono (by decide)) (by rfl) (xc_val (x_imm (pv 1)) (xc_val (x_op o_subA x_int (x_imm (pv 3))) (xc_val (x_ix (x_eqT (x_imm (pv 2))) x_int) xc_nil)))) (x_imm (pv 3))))))))))))) rfl vc
abbrev s__law_other : Stmt := top 16
theorem sc__law_other : FnScope N__law_other P__law_other (defScope s__law_other) := ⟨rfl, rfl, rfl, by decide +kernel, rfl, by decide +kernel, by decide +kernel⟩
theorem ok__law_other {P : Program} {w : World} {K : PySem.W.Frag} {mg : Str → Option Value} {base : Heap} {f : Addr} {fd : FuncData} (F : FunD K "_law_other" "_law_other" (defArgs s__law_other) (defBody s__law_other) (defScope s__law_other) [] [] f fd) (G : Gs K mg)
    (G__law_draw : FnAt P w K mg base "_law_draw" 1 P__law_draw sp__law_draw) (G__law_other_1 : FnAt P w K mg base "_law_other" 5 P__law_other_1 sp__law_other_1) (G__law_pick : FnAt P w K mg base "_law_pick" 2 P__law_pick sp__law_pick) (vc : VC__law_other) : FnOk P w K mg base CX0 6 f fd P__law_other (liftSp K 4 sp__law_other) :=
  fn_ok (k := 5) (io := [0]) F sc__law_other (fun cdv hc A outer s H E hr =>
    (xs_cons (s_if (XW.pt (xw_or2 (xt_not (xt_val (x_callB c_isi (by rfl) G.isinstance (by decide +kernel) (xa_cons (x_imm (pv 1)) (xa_cons (x_tyN (by rfl) G.tuple (by decide +kernel)) xa_nil))))) (xw_or2 (xt_cmp (o_eq hr.units) (x_imm (pv 1)) (x_eq (x_tup xl_nil))) (xw_or1 (xt_cmp o_eqI (x_fn false G__law_draw (hr.mono (by decide)) (by rfl) (xc_io (pv 0) (xc_val x_int xc_nil))) x_int))))) (xs_cons (s_fz (i := 4) (s_set (i := 4) sc__law_other.nd rfl (Or.inl rfl) (x_eq (x_lst (xl_cons x_int (xl_cons x_int (xl_cons (x_un u_neg x_int) (xl_cons (x_imm (pv 3)) (xl_cons (x_op o_sub (x_imm (pv 3)) x_int) (xl_cons (x_op o_sub x_int (x_imm (pv 2))) (xl_cons x_bl (xl_cons x_bl (xl_cons x_non (xl_cons x_str (xl_cons (x_eq (x_tup xl_nil)) (xl_cons (x_eq (x_frzv (x_eq (x_lst xl_nil)))) (xl_cons (x_eq (x_tup (xl_cons x_int xl_nil))) (xl_cons (x_eq (x_op o_powW x_int x_int)) xl_nil))))))))))))))))))
    (xs_one (s_ret (x_fn false G__law_pick (hr.mono (by decide)) (by rfl) (xc_io (pv 0) (xc_val (x_eq (x_op o_cat (x_imm (pv 4)) (x_eq (x_slice (x_eq (x_listRg rfl (by rfl) G.list (xr_1 (by rfl) G.range (x_imm (pv 3))))) xo_none (xo_some x_int))))) xc_nil)))))) xs_nil)
    (xs_cons (s_set (i := 5) sc__law_other.nd rfl (Or.inl rfl) (x_fn false G__law_draw (hr.mono (by decide)) (by rfl) (xc_io (pv 0) (xc_val (x_callB c_len (by rfl) G.len (by decide +kernel) (xa_cons (x_imm (pv 1)) xa_nil)) xc_nil))))
    (xs_cons (s_set (i := 6) sc__law_other.nd rfl (Or.inl rfl) (x_eq (x_op o_catTT (x_eq (x_op o_catTT (x_eq (x_sliceT (x_eqT (x_imm (pv 1))) xo_none (xo_some (x_imm (pv 5))))) (x_eq (x_tup (xl_cons (x_fn false G__law_other_1 (hr.mono (by decide)) (by rfl) (xc_io (pv 0) (xc_val (x_ix (x_eqT (x_imm (pv 1))) (x_imm (pv 5))) (xc_val (x_imm (pv 2)) (xc_val (x_imm (pv 3)) xc_nil))))) xl_nil))))) (x_eq (x_sliceT (x_eqT (x_imm (pv 1))) (xo_some (x_op o_add (x_imm (pv 5)) x_int)) xo_none)))))
    (xs_cons (s_fz (i := 7) (s_set (i := 7) sc__law_other.nd rfl (Or.inl rfl) (x_eq (x_lst (xl_cons (x_imm (pv 6)) (xl_cons (x_imm (pv 6)) (xl_cons (x_imm (pv 6)) (xl_cons (x_eq (x_op o_catTT (x_eqT (x_imm (pv 1))) (x_eq (x_sliceT (x_eqT (x_imm (pv 1))) (xo_some (x_imm (pv 5))) (xo_some (x_op o_add (x_imm (pv 5)) x_int)))))) (xl_cons (x_eq (x_op o_catTT (x_eq (x_sliceT (x_eqT (x_imm (pv 1))) xo_none (xo_some (x_imm (pv 5))))) (x_eq (x_sliceT (x_eqT (x_imm (pv 1))) (xo_some (x_op o_add (x_imm (pv 5)) x_int)) xo_none)))) (xl_cons (x_eq (x_frzv (x_eq (x_callTy c_list (by rfl) G.list (by decide +kernel) (xa_cons (x_imm (pv 6)) xa_nil))))) (xl_cons (x_eq (x_revT (x_eqT (x_imm (pv 1))))) xl_nil)))))))))))
    (xs_one (s_ret (x_fn false G__law_pick (hr.mono (by decide)) (by rfl) (xc_io (pv 0) (xc_val (x_imm (pv 7)) xc_nil)))))))))) rfl vc
abbrev s_law : Stmt := top 17
theorem sc_law : FnScope N_law P_law (defScope s_law) := ⟨rfl, rfl, rfl, by decide +kernel, rfl, by decide +kernel, by decide +kernel⟩
theorem ok_law {P : Program} {w : World} {K : PySem.W.Frag} {mg : Str → Option Value} {base : Heap} {f : Addr} {fd : FuncData} (F : FunD K "law" "law" (defArgs s_law) (defBody s_law) (defScope s_law) [] [] f fd) (G : Gs K mg)
    (G__law_bans : FnAt P w K mg base "_law_bans" 4 P__law_bans sp__law_bans) (G__law_begun : FnAt P w K mg base "_law_begun" 1 P__law_begun sp__law_begun) (G__law_draw : FnAt P w K mg base "_law_draw" 1 P__law_draw sp__law_draw) (G__law_due : FnAt P w K mg base "_law_due" 2 P__law_due sp__law_due) (G__law_other : FnAt P w K mg base "_law_other" 6 P__law_other sp__law_other) (G__law_pick : FnAt P w K mg base "_law_pick" 2 P__law_pick sp__law_pick) (G__law_roads : FnAt P w K mg base "_law_roads" 1 P__law_roads sp__law_roads) (G__law_shuffled : FnAt P w K mg base "_law_shuffled" 2 P__law_shuffled sp__law_shuffled) (G__law_side : FnAt P w K mg base "_law_side" 3 P__law_side sp__law_side) (G_is_nothing : FnAt P w K mg base "is_nothing" 3 P_is_nothing sp_is_nothing) (vc : VC_law) : FnG P w K mg base 7 f fd P_law (liftSp K 1 sp_law) :=
  fn_okG (k := 6) (io := []) F sc_law (fun cdv hc A outer s H E hG hr =>
    (xs_cons (s_set (i := 1) sc_law.nd rfl (Or.inl rfl) (x_fn false G__law_begun (hr.mono (by decide)) (by rfl) (xc_val (x_imm (pv 0)) xc_nil)))
    (xs_cons (s_for PassesOwn.never rfl (xi_eq (xi_range1 (by rfl) G.range (xa_cons (x_op o_add x_int (x_eq (x_callB (c_min2 rfl) (by rfl) G.min (by decide +kernel) (xa_cons x_int (xa_cons (x_callB c_len (by rfl) G.len (by decide +kernel) (xa_cons (x_imm (pv 0)) xa_nil)) xa_nil))))) xa_nil))) (pg_name (i := 2) sc_law.nd rfl (Or.inl rfl)) (gok_name 2) (xs_cons (s_set (i := 3) sc_law.nd rfl (Or.inl rfl) (x_fn false G__law_pick (hr.mono (by decide)) (by rfl) (xc_io (pv 1) (xc_val (x_eq (x_lst (xl_cons x_int (xl_cons x_int (xl_cons x_int (xl_cons x_int (xl_cons (x_ix (x_eq (x_lst (xl_cons x_int (xl_cons x_int xl_nil)))) (x_callTy c_int (by rfl) G.int (by decide +kernel) (xa_cons (x_eq (x_cmp o_eqI (x_imm (pv 2)) x_int)) xa_nil))) xl_nil))))))) xc_nil))))
    (xs_cons (s_fz (i := 4) (s_set (i := 4) sc_law.nd rfl (Or.inl rfl) (x_eq (x_op o_cat (x_fn false G__law_bans (hr.mono (by decide)) (by rfl) (xc_io (pv 1) (xc_val (x_imm (pv 3)) xc_nil))) (x_eq (x_slice (x_eq (x_lst (xl_cons (x_eq (x_tup (xl_cons x_int (xl_cons x_int xl_nil)))) (xl_cons (x_eq (x_tup (xl_cons x_int (xl_cons (x_un u_neg x_int) xl_nil)))) (xl_cons (x_eq (x_tup (xl_cons (x_un u_neg x_int) (xl_cons x_int xl_nil)))) (xl_cons (x_eq (x_tup (xl_cons (x_un u_neg x_int) (xl_cons (x_un u_neg x_int) xl_nil)))) xl_nil)))))) xo_none (xo_some (x_op o_add x_int (x_fn false G__law_draw (hr.mono (by decide)) (by rfl) (xc_io (pv 1) (xc_val x_int xc_nil)))))))))))
    (xs_cons (s_fz (i := 4) (s_set (i := 4) sc_law.nd rfl (Or.inl rfl) (x_fn false G__law_shuffled (hr.mono (by decide)) (by rfl) (xc_io (pv 1) (xc_val (x_imm (pv 4)) xc_nil)))))
    (xs_cons (s_set (i := 5) sc_law.nd rfl (Or.inl rfl) (x_fn false G__law_side (hr.mono (by decide)) (by rfl) (xc_io (pv 1) (xc_val (x_fn false G__law_pick (hr.mono (by decide)) (by rfl) (xc_io (pv 1) (xc_val (x_eq (x_lst (xl_cons (x_imm (pv 3)) (xl_cons (x_imm (pv 3)) (xl_cons x_int xl_nil))))) xc_nil))) xc_nil))))
    (xs_cons (s_fz (i := 7) (s_fz (i := 6) (s_par (i := 6) (j := 7) rfl sc_law.nd rfl rfl (by decide) rfl rfl (xl_cons (x_fn false G__law_roads (hr.mono (by decide)) (by rfl) (xc_val (x_imm (pv 3)) (xc_val (x_imm (pv 4)) (xc_val (x_imm (pv 5)) xc_nil)))) (xl_cons (x_fn false G__law_roads (hr.mono (by decide)) (by rfl) (xc_val (x_imm (pv 3)) (xc_val (x_imm (pv 4)) (xc_val (x_op o_sub x_int (x_imm (pv 5))) xc_nil)))) xl_nil)))))
    (xs_cons (s_set (i := 8) sc_law.nd rfl (Or.inl rfl) (x_eq (x_tup (xl_cons (x_imm (pv 5)) (xl_cons (x_eq (x_callTy c_tuple (by rfl) G.tuple (by decide +kernel) (xa_cons (x_eq (x_get2 (hu_of hr) (x_imm (pv 6)) (x_op o_sub x_int (x_imm (pv 5))) (x_eq (x_frzv (x_eq (x_lst (xl_cons x_int xl_nil))))))) xa_nil))) (xl_cons (x_eq (x_callTy c_tuple (by rfl) G.tuple (by decide +kernel) (xa_cons (x_eq (x_get2 (hu_of hr) (x_imm (pv 7)) (x_imm (pv 5)) (x_eq (x_frzv (x_eq (x_lst (xl_cons x_int xl_nil))))))) xa_nil))) xl_nil))))))
    (xs_cons (s_set (i := 9) sc_law.nd rfl (Or.inl rfl) (x_eq (x_tup (xl_cons (x_imm (pv 5)) (xl_cons (x_eq (x_op o_catTT (x_eq (x_op o_catTT (x_ix (x_imm (pv 8)) x_int) (x_ix (x_imm (pv 8)) x_int))) (x_ix (x_imm (pv 8)) x_int))) (xl_cons (x_ix (x_imm (pv 8)) x_int) xl_nil))))))
    (xs_cons (s_set (i := 10) sc_law.nd rfl (Or.inl rfl) (x_fn false G__law_other (hr.mono (by decide)) (by rfl) (xc_io (pv 1) (xc_val (x_fn false G__law_pick (hr.mono (by decide)) (by rfl) (xc_io (pv 1) (xc_val (x_eq (x_lst (xl_cons (x_imm (pv 8)) (xl_cons (x_imm (pv 9)) xl_nil)))) xc_nil))) (xc_val (x_imm (pv 3)) (xc_val (x_callB c_len (by rfl) G.len (by decide +kernel) (xa_cons (x_imm (pv 4)) xa_nil)) xc_nil))))))
    (xs_cons (s_fz (i := 11) (s_set (i := 11) sc_law.nd rfl (Or.inl rfl) (x_eq (x_lst (xl_cons (x_imm (pv 8)) (xl_cons (x_imm (pv 9)) (xl_cons (x_imm (pv 10)) (xl_cons (x_fn false G__law_other (hr.mono (by decide)) (by rfl) (xc_io (pv 1) (xc_val (x_imm (pv 10)) (xc_val (x_imm (pv 3)) (xc_val (x_callB c_len (by rfl) G.len (by decide +kernel) (xa_cons (x_imm (pv 4)) xa_nil)) xc_nil))))) (xl_cons (x_eq (x_tup (xl_cons (x_op o_sub x_int (x_imm (pv 5))) (xl_cons (x_ix (x_imm (pv 8)) x_int) (xl_cons (x_ix (x_imm (pv 8)) x_int) xl_nil))))) xl_nil)))))))))
    (xs_cons (s_fz (i := 11) (s_set (i := 11) sc_law.nd rfl (Or.inl rfl) (x_eq (x_op o_cat (x_imm (pv 11)) (x_eq (x_lst (xl_cons (x_fn false G__law_other (hr.mono (by decide)) (by rfl) (xc_io (pv 1) (xc_val (x_imm (pv 8)) (xc_val (x_imm (pv 3)) (xc_val (x_callB c_len (by rfl) G.len (by decide +kernel) (xa_cons (x_imm (pv 4)) xa_nil)) xc_nil))))) (xl_cons (x_eq (x_frzv (x_eq (x_tup (xl_cons (x_imm (pv 5)) (xl_cons (x_eq (x_callTy c_list (by rfl) G.list (by decide +kernel) (xa_cons (x_ix (x_imm (pv 8)) x_int) xa_nil))) (xl_cons (x_ix (x_imm (pv 8)) x_int) xl_nil))))))) (xl_cons x_non (xl_cons (x_eq (x_tup xl_nil)) xl_nil))))))))))
    (xs_one (s_for PassesOwn.never rfl (xi_eq (xi_list (x_imm (pv 11)))) (pg_name (i := 12) sc_law.nd rfl (Or.inl rfl)) (gok_name 12) (xs_cons (s_par (i := 13) (j := 14) rfl sc_law.nd rfl rfl (by decide) rfl rfl (xl_cons (x_callB (c_reprX hG (hu65 hr)) (by rfl) G.repr (by decide +kernel) (xa_cons (x_imm (pv 12)) xa_nil)) (xl_cons (x_fn false G__law_due (hr.mono (by decide)) (by rfl) (xc_val (x_imm (pv 3)) (xc_val (x_imm (pv 4)) (xc_val (x_imm (pv 12)) xc_nil)))) xl_nil)))
    (xs_one (s_for PassesOwn.never rfl (xi_eq (xi_range1 (by rfl) G.range (xa_cons x_int xa_nil))) (pg_name (i := 15) sc_law.nd rfl (Or.inl rfl)) (gok_name 15) (xs_one (s_if (XW.pt (xw_or2 (xt_cmp o_neS (x_callB (c_reprX hG (hu65 hr)) (by rfl) G.repr (by decide +kernel) (xa_cons (x_fn false G_is_nothing (hr.mono (by decide)) (by rfl) (xc_val (x_imm (pv 3)) (xc_val (x_imm (pv 4)) (xc_val (x_imm (pv 12)) xc_nil)))) xa_nil)) (x_callB (c_reprX hG (hu65 hr)) (by rfl) G.repr (by decide +kernel) (xa_cons (x_imm (pv 14)) xa_nil))) (xw_or1 (xt_cmp o_neS (x_callB (c_reprX hG (hu65 hr)) (by rfl) G.repr (by decide +kernel) (xa_cons (x_imm (pv 12)) xa_nil)) (x_imm (pv 13)))))) (xs_one (s_ret x_bl)) xs_nil))))))))))))))))))
    (xs_one (s_ret x_bl))))) rfl vc
abbrev s__law_other_1 : Stmt := top 16
theorem sc__law_other_1 : FnScope N__law_other_1 P__law_other_1 (defScope s__law_other_1) := ⟨rfl, rfl, rfl, by decide +kernel, rfl, by decide +kernel, by decide +kernel⟩
theorem ok__law_other_1 {P : Program} {w : World} {K : PySem.W.Frag} {mg : Str → Option Value} {base : Heap} {f : Addr} {fd : FuncData} (F : FunD K "_law_other" "_law_other" (defArgs s__law_other_1) (defBody s__law_other_1) (defScope s__law_other_1) [] [] f fd) (G : Gs K mg)
    (G__law_draw : FnAt P w K mg base "_law_draw" 1 P__law_draw sp__law_draw) (G__law_other_2 : FnAt P w K mg base "_law_other" 4 P__law_other_2 sp__law_other_2) (G__law_pick : FnAt P w K mg base "_law_pick" 2 P__law_pick sp__law_pick) (vc : VC__law_other_1) : FnOk P w K mg base CX0 5 f fd P__law_other_1 (liftSp K 4 sp__law_other_1) :=
  fn_ok (k := 4) (io := [0]) F sc__law_other_1 (fun cdv hc A outer s H E hr =>
    (xs_cons (s_if (XW.pt (xw_or2 (xt_not (xt_val (x_callB c_isi (by rfl) G.isinstance (by decide +kernel) (xa_cons (x_imm (pv 1)) (xa_cons (x_tyN (by rfl) G.tuple (by decide +kernel)) xa_nil))))) (xw_or2 (xt_cmp (o_eq hr.units) (x_imm (pv 1)) (x_eq (x_tup xl_nil))) (xw_or1 (xt_cmp o_eqI (x_fn false G__law_draw (hr.mono (by decide)) (by rfl) (xc_io (pv 0) (xc_val x_int xc_nil))) x_int))))) (xs_cons (s_fz (i := 4) (s_set (i := 4) sc__law_other_1.nd rfl (Or.inl rfl) (x_eq (x_lst (xl_cons x_int (xl_cons x_int (xl_cons (x_un u_neg x_int) (xl_cons (x_imm (pv 3)) (xl_cons (x_op o_sub (x_imm (pv 3)) x_int) (xl_cons (x_op o_sub x_int (x_imm (pv 2))) (xl_cons x_bl (xl_cons x_bl (xl_cons x_non (xl_cons x_str (xl_cons (x_eq (x_tup xl_nil)) (xl_cons (x_eq (x_frzv (x_eq (x_lst xl_nil)))) (xl_cons (x_eq (x_tup (xl_cons x_int xl_nil))) (xl_cons (x_eq (x_op o_powW x_int x_int)) xl_nil))))))))))))))))))
    (xs_one (s_ret (x_fn false G__law_pick (hr.mono (by decide)) (by rfl) (xc_io (pv 0) (xc_val (x_eq (x_op o_cat (x_imm (pv 4)) (x_eq (x_slice (x_eq (x_listRg rfl (by rfl) G.list (xr_1 (by rfl) G.range (x_imm (pv 3))))) xo_none (xo_some x_int))))) xc_nil)))))) xs_nil)
    (xs_cons (s_set (i := 5) sc__law_other_1.nd rfl (Or.inl rfl) (x_fn false G__law_draw (hr.mono (by decide)) (by rfl) (xc_io (pv 0) (xc_val (x_callB c_len (by rfl) G.len (by decide +kernel) (xa_cons (x_imm (pv 1)) xa_nil)) xc_nil))))
    (xs_cons (s_set (i := 6) sc__law_other_1.nd rfl (Or.inl rfl) (x_eq (x_op o_catTT (x_eq (x_op o_catTT (x_eq (x_sliceT (x_eqT (x_imm (pv 1))) xo_none (xo_some (x_imm (pv 5))))) (x_eq (x_tup (xl_cons (x_fn false G__law_other_2 (hr.mono (by decide)) (by rfl) (xc_io (pv 0) (xc_val (x_ix (x_eqT (x_imm (pv 1))) (x_imm (pv 5))) (xc_val (x_imm (pv 2)) (xc_val (x_imm (pv 3)) xc_nil))))) xl_nil))))) (x_eq (x_sliceT (x_eqT (x_imm (pv 1))) (xo_some (x_op o_add (x_imm (pv 5)) x_int)) xo_none)))))
    (xs_cons (s_fz (i := 7) (s_set (i := 7) sc__law_other_1.nd rfl (Or.inl rfl) (x_eq (x_lst (xl_cons (x_imm (pv 6)) (xl_cons (x_imm (pv 6)) (xl_cons (x_imm (pv 6)) (xl_cons (x_eq (x_op o_catTT (x_eqT (x_imm (pv 1))) (x_eq (x_sliceT (x_eqT (x_imm (pv 1))) (xo_some (x_imm (pv 5))) (xo_some (x_op o_add (x_imm (pv 5)) x_int)))))) (xl_cons (x_eq (x_op o_catTT (x_eq (x_sliceT (x_eqT (x_imm (pv 1))) xo_none (xo_some (x_imm (pv 5))))) (x_eq (x_sliceT (x_eqT (x_imm (pv 1))) (xo_some (x_op o_add (x_imm (pv 5)) x_int)) xo_none)))) (xl_cons (x_eq (x_frzv (x_eq (x_callTy c_list (by rfl) G.list (by decide +kernel) (xa_cons (x_imm (pv 6)) xa_nil))))) (xl_cons (x_eq (x_revT (x_eqT (x_imm (pv 1))))) xl_nil)))))))))))
    (xs_one (s_ret (x_fn false G__law_pick (hr.mono (by decide)) (by rfl) (xc_io (pv 0) (xc_val (x_imm (pv 7)) xc_nil)))))))))) rfl vc
abbrev s__law_other_2 : Stmt := top 16
theorem sc__law_other_2 : FnScope N__law_other_2 P__law_other_2 (defScope s__law_other_2) := ⟨rfl, rfl, rfl, by decide +kernel, rfl, by decide +kernel, by decide +kernel⟩
theorem ok__law_other_2 {P : Program} {w : World} {K : PySem.W.Frag} {mg : Str → Option Value} {base : Heap} {f : Addr} {fd : FuncData} (F : FunD K "_law_other" "_law_other" (defArgs s__law_other_2) (defBody s__law_other_2) (defScope s__law_other_2) [] [] f fd) (G : Gs K mg)
    (G__law_draw : FnAt P w K mg base "_law_draw" 1 P__law_draw sp__law_draw) (G__law_other_3 : FnAt P w K mg base "_law_other" 3 P__law_other_3 sp__law_other_3) (G__law_pick : FnAt P w K mg base "_law_pick" 2 P__law_pick sp__law_pick) (vc : VC__law_other_2) : FnOk P w K mg base CX0 4 f fd P__law_other_2 (liftSp K 4 sp__law_other_2) :=
  fn_ok (k := 3) (io := [0]) F sc__law_other_2 (fun cdv hc A outer s H E hr =>
    (xs_cons (s_if (XW.pt (xw_or2 (xt_not (xt_val (x_callB c_isi (by rfl) G.isinstance (by decide +kernel) (xa_cons (x_imm (pv 1)) (xa_cons (x_tyN (by rfl) G.tuple (by decide +kernel)) xa_nil))))) (xw_or2 (xt_cmp (o_eq hr.units) (x_imm (pv 1)) (x_eq (x_tup xl_nil))) (xw_or1 (xt_cmp o_eqI (x_fn false G__law_draw (hr.mono (by decide)) (by rfl) (xc_io (pv 0) (xc_val x_int xc_nil))) x_int))))) (xs_cons (s_fz (i := 4) (s_set (i := 4) sc__law_other_2.nd rfl (Or.inl rfl) (x_eq (x_lst (xl_cons x_int (xl_cons x_int (xl_cons (x_un u_neg x_int) (xl_cons (x_imm (pv 3)) (xl_cons (x_op o_sub (x_imm (pv 3)) x_int) (xl_cons (x_op o_sub x_int (x_imm (pv 2))) (xl_cons x_bl (xl_cons x_bl (xl_cons x_non (xl_cons x_str (xl_cons (x_eq (x_tup xl_nil)) (xl_cons (x_eq (x_frzv (x_eq (x_lst xl_nil)))) (xl_cons (x_eq (x_tup (xl_cons x_int xl_nil))) (xl_cons (x_eq (x_op o_powW x_int x_int)) xl_nil))))))))))))))))))
    (xs_one (s_ret (x_fn false G__law_pick (hr.mono (by decide)) (by rfl) (xc_io (pv 0) (xc_val (x_eq (x_op o_cat (x_imm (pv 4)) (x_eq (x_slice (x_eq (x_listRg rfl (by rfl) G.list (xr_1 (by rfl) G.range (x_imm (pv 3))))) xo_none (xo_some x_int))))) xc_nil)))))) xs_nil)
    (xs_cons (s_set (i := 5) sc__law_other_2.nd rfl (Or.inl rfl) (x_fn false G__law_draw (hr.mono (by decide)) (by rfl) (xc_io (pv 0) (xc_val (x_callB c_len (by rfl) G.len (by decide +kernel) (xa_cons (x_imm (pv 1)) xa_nil)) xc_nil))))
    (xs_cons (s_set (i := 6) sc__law_other_2.nd rfl (Or.inl rfl) (x_eq (x_op o_catTT (x_eq (x_op o_catTT (x_eq (x_sliceT (x_eqT (x_imm (pv 1))) xo_none (xo_some (x_imm (pv 5))))) (x_eq (x_tup (xl_cons (x_fn false G__law_other_3 (hr.mono (by decide)) (by rfl) (xc_io (pv 0) (xc_val (x_ix (x_eqT (x_imm (pv 1))) (x_imm (pv 5))) (xc_val (x_imm (pv 2)) (xc_val (x_imm (pv 3)) xc_nil))))) xl_nil))))) (x_eq (x_sliceT (x_eqT (x_imm (pv 1))) (xo_some (x_op o_add (x_imm (pv 5)) x_int)) xo_none)))))
    (xs_cons (s_fz (i := 7) (s_set (i := 7) sc__law_other_2.nd rfl (Or.inl rfl) (x_eq (x_lst (xl_cons (x_imm (pv 6)) (xl_cons (x_imm (pv 6)) (xl_cons (x_imm (pv 6)) (xl_cons (x_eq (x_op o_catTT (x_eqT (x_imm (pv 1))) (x_eq (x_sliceT (x_eqT (x_imm (pv 1))) (xo_some (x_imm (pv 5))) (xo_some (x_op o_add (x_imm (pv 5)) x_int)))))) (xl_cons (x_eq (x_op o_catTT (x_eq (x_sliceT (x_eqT (x_imm (pv 1))) xo_none (xo_some (x_imm (pv 5))))) (x_eq (x_sliceT (x_eqT (x_imm (pv 1))) (xo_some (x_op o_add (x_imm (pv 5)) x_int)) xo_none)))) (xl_cons (x_eq (x_frzv (x_eq (x_callTy c_list (by rfl) G.list (by decide +kernel) (xa_cons (x_imm (pv 6)) xa_nil))))) (xl_cons (x_eq (x_revT (x_eqT (x_imm (pv 1))))) xl_nil)))))))))))
    (xs_one (s_ret (x_fn false G__law_pick (hr.mono (by decide)) (by rfl) (xc_io (pv 0) (xc_val (x_imm (pv 7)) xc_nil)))))))))) rfl vc
abbrev s__law_other_3 : Stmt := top 16
theorem sc__law_other_3 : FnScope N__law_other_3 P__law_other_3 (defScope s__law_other_3) := ⟨rfl, rfl, rfl, by decide +kernel, rfl, by decide +kernel, by decide +kernel⟩
theorem ok__law_other_3 {P : Program} {w : World} {K : PySem.W.Frag} {mg : Str → Option Value} {base : Heap} {f : Addr} {fd : FuncData} (F : FunD K "_law_other" "_law_other" (defArgs s__law_other_3) (defBody s__law_other_3) (defScope s__law_other_3) [] [] f fd) (G : Gs K mg)
    (G__law_draw : FnAt P w K mg base "_law_draw" 1 P__law_draw sp__law_draw) (G__law_other_z : FnAt P w K mg base "_law_other" 1 P__law_other_z sp__law_other_z) (G__law_pick : FnAt P w K mg base "_law_pick" 2 P__law_pick sp__law_pick) (vc : VC__law_other_3) : FnOk P w K mg base CX0 3 f fd P__law_other_3 (liftSp K 4 sp__law_other_3) :=
  fn_ok (k := 2) (io := [0]) F sc__law_other_3 (fun cdv hc A outer s H E hr =>
    (xs_cons (s_if (XW.pt (xw_or2 (xt_not (xt_val (x_callB c_isi (by rfl) G.isinstance (by decide +kernel) (xa_cons (x_imm (pv 1)) (xa_cons (x_tyN (by rfl) G.tuple (by decide +kernel)) xa_nil))))) (xw_or2 (xt_cmp (o_eq hr.units) (x_imm (pv 1)) (x_eq (x_tup xl_nil))) (xw_or1 (xt_cmp o_eqI (x_fn false G__law_draw (hr.mono (by decide)) (by rfl) (xc_io (pv 0) (xc_val x_int xc_nil))) x_int))))) (xs_cons (s_fz (i := 4) (s_set (i := 4) sc__law_other_3.nd rfl (Or.inl rfl) (x_eq (x_lst (xl_cons x_int (xl_cons x_int (xl_cons (x_un u_neg x_int) (xl_cons (x_imm (pv 3)) (xl_cons (x_op o_sub (x_imm (pv 3)) x_int) (xl_cons (x_op o_sub x_int (x_imm (pv 2))) (xl_cons x_bl (xl_cons x_bl (xl_cons x_non (xl_cons x_str (xl_cons (x_eq (x_tup xl_nil)) (xl_cons (x_eq (x_frzv (x_eq (x_lst xl_nil)))) (xl_cons (x_eq (x_tup (xl_cons x_int xl_nil))) (xl_cons (x_eq (x_op o_powW x_int x_int)) xl_nil))))))))))))))))))
    (xs_one (s_ret (x_fn false G__law_pick (hr.mono (by decide)) (by rfl) (xc_io (pv 0) (xc_val (x_eq (x_op o_cat (x_imm (pv 4)) (x_eq (x_slice (x_eq (x_listRg rfl (by rfl) G.list (xr_1 (by rfl) G.range (x_imm (pv 3))))) xo_none (xo_some x_int))))) xc_nil)))))) xs_nil)
    (xs_cons (s_set (i := 5) sc__law_other_3.nd rfl (Or.inl rfl) (x_fn false G__law_draw (hr.mono (by decide)) (by rfl) (xc_io (pv 0) (xc_val (x_callB c_len (by rfl) G.len (by decide +kernel) (xa_cons (x_imm (pv 1)) xa_nil)) xc_nil))))
    (xs_cons (s_set (i := 6) sc__law_other_3.nd rfl (Or.inl rfl) (x_eq (x_op o_catTT (x_eq (x_op o_catTT (x_eq (x_sliceT (x_eqT (x_imm (pv 1))) xo_none (xo_some (x_imm (pv 5))))) (x_eq (x_tup (xl_cons (x_fn false G__law_other_z (hr.mono (by decide)) (by rfl) (xc_io (pv 0) (xc_val (x_ix (x_eqT (x_imm (pv 1))) (x_imm (pv 5))) (xc_val (x_imm (pv 2)) (xc_val (x_imm (pv 3)) xc_nil))))) xl_nil))))) (x_eq (x_sliceT (x_eqT (x_imm (pv 1))) (xo_some (x_op o_add (x_imm (pv 5)) x_int)) xo_none)))))
    (xs_cons (s_fz (i := 7) (s_set (i := 7) sc__law_other_3.nd rfl (Or.inl rfl) (x_eq (x_lst (xl_cons (x_imm (pv 6)) (xl_cons (x_imm (pv 6)) (xl_cons (x_imm (pv 6)) (xl_cons (x_eq (x_op o_catTT (x_eqT (x_imm (pv 1))) (x_eq (x_sliceT (x_eqT (x_imm (pv 1))) (xo_some (x_imm (pv 5))) (xo_some (x_op o_add (x_imm (pv 5)) x_int)))))) (xl_cons (x_eq (x_op o_catTT (x_eq (x_sliceT (x_eqT (x_imm (pv 1))) xo_none (xo_some (x_imm (pv 5))))) (x_eq (x_sliceT (x_eqT (x_imm (pv 1))) (xo_some (x_op o_add (x_imm (pv 5)) x_int)) xo_none)))) (xl_cons (x_eq (x_frzv (x_eq (x_callTy c_list (by rfl) G.list (by decide +kernel) (xa_cons (x_imm (pv 6)) xa_nil))))) (xl_cons (x_eq (x_revT (x_eqT (x_imm (pv 1))))) xl_nil)))))))))))
    (xs_one (s_ret (x_fn false G__law_pick (hr.mono (by decide)) (by rfl) (xc_io (pv 0) (xc_val (x_imm (pv 7)) xc_nil)))))))))) rfl vc
abbrev s__law_other_z : Stmt := top 16
theorem sc__law_other_z : FnScope N__law_other_z P__law_other_z (defScope s__law_other_z) := ⟨rfl, rfl, rfl, by decide +kernel, rfl, by decide +kernel, by decide +kernel⟩
theorem ok__law_other_z {P : Program} {w : World} {K : PySem.W.Frag} {mg : Str → Option Value} {base : Heap} {f : Addr} {fd : FuncData} (F : FunD K "_law_other" "_law_other" (defArgs s__law_other_z) (defBody s__law_other_z) (defScope s__law_other_z) [] [] f fd) (G : Gs K mg)
     (vc : VC__law_other_z) : FnOk P w K mg base CX0 1 f fd P__law_other_z (liftSp K 4 sp__law_other_z) :=
  fn_ok (k := 0) (io := [0]) F sc__law_other_z (fun cdv hc A outer s H E hr =>
    xss_never) rfl vc
end K05
set_option maxHeartbeats 0
namespace K05
open PySem PySem.Spec PyProof.Rows L2 TT
def d_is_whole : He.DefD := ⟨("is_whole", none), "is_whole", "is_whole", defArgs s_is_whole, defBody s_is_whole, defScope s_is_whole, [], []⟩
def d_is_side : He.DefD := ⟨("is_side", none), "is_side", "is_side", defArgs s_is_side, defBody s_is_side, defScope s_is_side, [], []⟩
def d_end_of : He.DefD := ⟨("end_of", none), "end_of", "end_of", defArgs s_end_of, defBody s_end_of, defScope s_end_of, [], []⟩
def d_is_nothing : He.DefD := ⟨("is_nothing", none), "is_nothing", "is_nothing", defArgs s_is_nothing, defBody s_is_nothing, defScope s_is_nothing, [], []⟩
def d__law_begun : He.DefD := ⟨("_law_begun", none), "_law_begun", "_law_begun", defArgs s__law_begun, defBody s__law_begun, defScope s__law_begun, [], []⟩
def d__law_draw : He.DefD := ⟨("_law_draw", none), "_law_draw", "_law_draw", defArgs s__law_draw, defBody s__law_draw, defScope s__law_draw, [], []⟩
def d__law_pick : He.DefD := ⟨("_law_pick", none), "_law_pick", "_law_pick", defArgs s__law_pick, defBody s__law_pick, defScope s__law_pick, [], []⟩
def d__law_shuffled : He.DefD := ⟨("_law_shuffled", none), "_law_shuffled", "_law_shuffled", defArgs s__law_shuffled, defBody s__law_shuffled, defScope s__law_shuffled, [], []⟩
def d__law_side : He.DefD := ⟨("_law_side", none), "_law_side", "_law_side", defArgs s__law_side, defBody s__law_side, defScope s__law_side, [], []⟩
def d__law_bans : He.DefD := ⟨("_law_bans", none), "_law_bans", "_law_bans", defArgs s__law_bans, defBody s__law_bans, defScope s__law_bans, [], []⟩
def d__law_road_end : He.DefD := ⟨("_law_road_end", none), "_law_road_end", "_law_road_end", defArgs s__law_road_end, defBody s__law_road_end, defScope s__law_road_end, [], []⟩
def d__law_roads : He.DefD := ⟨("_law_roads", none), "_law_roads", "_law_roads", defArgs s__law_roads, defBody s__law_roads, defScope s__law_roads, [], []⟩
def d__law_due : He.DefD := ⟨("_law_due", none), "_law_due", "_law_due", defArgs s__law_due, defBody s__law_due, defScope s__law_due, [], []⟩
def d__law_other : He.DefD := ⟨("_law_other", none), "_law_other", "_law_other", defArgs s__law_other, defBody s__law_other, defScope s__law_other, [], []⟩
def d_law : He.DefD := ⟨("law", none), "law", "law", defArgs s_law, defBody s_law, defScope s_law, [], []⟩
def fns : List He.DefD := [d_is_whole, d_is_side, d_end_of, d_is_nothing, d__law_begun, d__law_draw, d__law_pick, d__law_shuffled, d__law_side, d__law_bans, d__law_road_end, d__law_roads, d__law_due, d__law_other, d_law]
def fas : List He.Fa := [.glo "is_whole", .glo "is_side", .glo "end_of", .glo "is_nothing", .glo "_law_begun", .glo "_law_draw", .glo "_law_pick", .glo "_law_shuffled", .glo "_law_side", .glo "_law_bans", .glo "_law_road_end", .glo "_law_roads", .glo "_law_due", .glo "_law_other", .glo "law", .free "abs", .free "bool", .free "int", .free "isinstance", .free "len", .free "list", .free "min", .free "range", .free "repr", .free "tuple"]
def tfs : List He.Defn := []
def exs : PySem.W.Frag → Bool := fun _ => true
abbrev RR : PySem.W.OpenRow := PySem.W.OpenLaw.row PySem.Challenge.rw_meetrow_k05_papers_of_nothing_looked_at
abbrev hook : PySem.W.Hook := He.hookX 4 fas fns [] tfs exs
def seen (s : PySem.W.SharedT) : He.AlX := He.obsX 4 fas fns [] tfs exs (HandSHeadRun.getT s)
theorem seen_eq (s : PySem.W.SharedT) : seen s = hook.obs s.abs := He.obsX_eq (HandSHeadRun.getT_eq s)
theorem runs (w : World) : HandSHeadRun.RunEq RR (PySem.W.view RR.prog [17]) hook seen 3000 [PySem.Str.ofString "is_whole", PySem.Str.ofString "is_side", PySem.Str.ofString "end_of", PySem.Str.ofString "is_nothing", PySem.Str.ofString "_law_begun", PySem.Str.ofString "_law_draw", PySem.Str.ofString "_law_pick", PySem.Str.ofString "_law_shuffled", PySem.Str.ofString "_law_side", PySem.Str.ofString "_law_bans", PySem.Str.ofString "_law_road_end", PySem.Str.ofString "_law_roads", PySem.Str.ofString "_law_due", PySem.Str.ofString "_law_other"] w := by
  intro os
  kernel_rfl
def css (K : PySem.W.Frag) : List (Addr × Addr) := tfs.map fun p => He.cT K p
def tbs (K : PySem.W.Frag) : List (Addr × Str) := []
abbrev clsK (K : PySem.W.Frag) : Cls := ⟨fun x => He.ga K (PySem.Str.ofString x), tbs K⟩
theorem facts {P : Program} {w : World} {K : PySem.W.Frag} {h : Heap} {mg : Str → Option Value} {f : Addr} (X : K.In h) (G0 : h.Ns mainGlobals mg) (hfa : mg ("law" : Str) = some (.ref f)) (c : He.SaysX fas fns [] tfs exs w h K) (base : Heap) (hT : ∀ p, p ∈ css K → LamX.TabB base mg p.1 p.2) {fd : FuncData} (Fd : FunD K "law" "law" (defArgs s_law) (defBody s_law) (defScope s_law) [] [] f fd) :
    letI : Cls := clsK K; FnG P w K mg base 7 f fd P_law (liftSp K 1 sp_law) := by
  letI : Cls := clsK K
  have G : Gs K mg := ⟨He.free_ok X G0 (c.t.d.fact 15 (f := .free "abs") rfl), He.free_ok X G0 (c.t.d.fact 16 (f := .free "bool") rfl), He.free_ok X G0 (c.t.d.fact 17 (f := .free "int") rfl), He.free_ok X G0 (c.t.d.fact 18 (f := .free "isinstance") rfl), He.free_ok X G0 (c.t.d.fact 19 (f := .free "len") rfl), He.free_ok X G0 (c.t.d.fact 20 (f := .free "list") rfl), He.free_ok X G0 (c.t.d.fact 21 (f := .free "min") rfl), He.free_ok X G0 (c.t.d.fact 22 (f := .free "range") rfl), He.free_ok X G0 (c.t.d.fact 23 (f := .free "repr") rfl), He.free_ok X G0 (c.t.d.fact 24 (f := .free "tuple") rfl)⟩
  obtain ⟨fd_is_whole, F_is_whole⟩ := c.t.d.def_ 0 (d := d_is_whole) rfl
  obtain ⟨fd_is_side, F_is_side⟩ := c.t.d.def_ 1 (d := d_is_side) rfl
  obtain ⟨fd_end_of, F_end_of⟩ := c.t.d.def_ 2 (d := d_end_of) rfl
  obtain ⟨fd_is_nothing, F_is_nothing⟩ := c.t.d.def_ 3 (d := d_is_nothing) rfl
  obtain ⟨fd__law_begun, F__law_begun⟩ := c.t.d.def_ 4 (d := d__law_begun) rfl
  obtain ⟨fd__law_draw, F__law_draw⟩ := c.t.d.def_ 5 (d := d__law_draw) rfl
  obtain ⟨fd__law_pick, F__law_pick⟩ := c.t.d.def_ 6 (d := d__law_pick) rfl
  obtain ⟨fd__law_shuffled, F__law_shuffled⟩ := c.t.d.def_ 7 (d := d__law_shuffled) rfl
  obtain ⟨fd__law_side, F__law_side⟩ := c.t.d.def_ 8 (d := d__law_side) rfl
  obtain ⟨fd__law_bans, F__law_bans⟩ := c.t.d.def_ 9 (d := d__law_bans) rfl
  obtain ⟨fd__law_road_end, F__law_road_end⟩ := c.t.d.def_ 10 (d := d__law_road_end) rfl
  obtain ⟨fd__law_roads, F__law_roads⟩ := c.t.d.def_ 11 (d := d__law_roads) rfl
  obtain ⟨fd__law_due, F__law_due⟩ := c.t.d.def_ 12 (d := d__law_due) rfl
  obtain ⟨fd__law_other, F__law_other⟩ := c.t.d.def_ 13 (d := d__law_other) rfl
  obtain ⟨fd_law, F_law⟩ := c.t.d.def_ 14 (d := d_law) rfl
  have g_is_whole := He.glo_ok X G0 (c.t.d.fact 0 (f := .glo "is_whole") rfl)
  have g_is_side := He.glo_ok X G0 (c.t.d.fact 1 (f := .glo "is_side") rfl)
  have g_end_of := He.glo_ok X G0 (c.t.d.fact 2 (f := .glo "end_of") rfl)
  have g_is_nothing := He.glo_ok X G0 (c.t.d.fact 3 (f := .glo "is_nothing") rfl)
  have g__law_begun := He.glo_ok X G0 (c.t.d.fact 4 (f := .glo "_law_begun") rfl)
  have g__law_draw := He.glo_ok X G0 (c.t.d.fact 5 (f := .glo "_law_draw") rfl)
  have g__law_pick := He.glo_ok X G0 (c.t.d.fact 6 (f := .glo "_law_pick") rfl)
  have g__law_shuffled := He.glo_ok X G0 (c.t.d.fact 7 (f := .glo "_law_shuffled") rfl)
  have g__law_side := He.glo_ok X G0 (c.t.d.fact 8 (f := .glo "_law_side") rfl)
  have g__law_bans := He.glo_ok X G0 (c.t.d.fact 9 (f := .glo "_law_bans") rfl)
  have g__law_road_end := He.glo_ok X G0 (c.t.d.fact 10 (f := .glo "_law_road_end") rfl)
  have g__law_roads := He.glo_ok X G0 (c.t.d.fact 11 (f := .glo "_law_roads") rfl)
  have g__law_due := He.glo_ok X G0 (c.t.d.fact 12 (f := .glo "_law_due") rfl)
  have g__law_other := He.glo_ok X G0 (c.t.d.fact 13 (f := .glo "_law_other") rfl)
  have g_law := He.glo_ok X G0 (c.t.d.fact 14 (f := .glo "law") rfl)
  have e0 := hfa.symm.trans g_law
  cases e0
  have O_is_whole : FnOk P w K mg base CX0 1 (He.fAd K ("is_whole", none)) fd_is_whole P_is_whole (liftSp K 1 sp_is_whole) := ok_is_whole F_is_whole G  vc_is_whole
  have A_is_whole : FnAt P w K mg base "is_whole" 1 P_is_whole sp_is_whole := ⟨_, _, O_is_whole, g_is_whole, F_is_whole.kp, FunD.bindsN F_is_whole fun _ _ _ _ _ _ us hl => match us, hl with | [_], _ => rfl⟩
  have O__law_begun : FnOk P w K mg base CX0 1 (He.fAd K ("_law_begun", none)) fd__law_begun P__law_begun (liftSp K 1 sp__law_begun) := ok__law_begun F__law_begun G  vc__law_begun
  have A__law_begun : FnAt P w K mg base "_law_begun" 1 P__law_begun sp__law_begun := ⟨_, _, O__law_begun, g__law_begun, F__law_begun.kp, FunD.bindsN F__law_begun fun _ _ _ _ _ _ us hl => match us, hl with | [_], _ => rfl⟩
  have O__law_draw : FnOk P w K mg base CX0 1 (He.fAd K ("_law_draw", none)) fd__law_draw P__law_draw (liftSp K 2 sp__law_draw) := ok__law_draw F__law_draw G  vc__law_draw
  have A__law_draw : FnAt P w K mg base "_law_draw" 1 P__law_draw sp__law_draw := ⟨_, _, O__law_draw, g__law_draw, F__law_draw.kp, FunD.bindsN F__law_draw fun _ _ _ _ _ _ us hl => match us, hl with | [_, _], _ => rfl⟩
  have O__law_road_end : FnOk P w K mg base CX0 1 (He.fAd K ("_law_road_end", none)) fd__law_road_end P__law_road_end (liftSp K 3 sp__law_road_end) := ok__law_road_end F__law_road_end G  vc__law_road_end
  have A__law_road_end : FnAt P w K mg base "_law_road_end" 1 P__law_road_end sp__law_road_end := ⟨_, _, O__law_road_end, g__law_road_end, F__law_road_end.kp, FunD.bindsN F__law_road_end fun _ _ _ _ _ _ us hl => match us, hl with | [_, _, _], _ => rfl⟩
  have O__law_roads : FnOk P w K mg base CX0 1 (He.fAd K ("_law_roads", none)) fd__law_roads P__law_roads (liftSp K 3 sp__law_roads) := ok__law_roads F__law_roads G  vc__law_roads
  have A__law_roads : FnAt P w K mg base "_law_roads" 1 P__law_roads sp__law_roads := ⟨_, _, O__law_roads, g__law_roads, F__law_roads.kp, FunD.bindsN F__law_roads fun _ _ _ _ _ _ us hl => match us, hl with | [_, _, _], _ => rfl⟩
  have O__law_other_z : FnOk P w K mg base CX0 1 (He.fAd K ("_law_other", none)) fd__law_other P__law_other_z (liftSp K 4 sp__law_other_z) := ok__law_other_z F__law_other G  vc__law_other_z
  have A__law_other_z : FnAt P w K mg base "_law_other" 1 P__law_other_z sp__law_other_z := ⟨_, _, O__law_other_z, g__law_other, F__law_other.kp, FunD.bindsN F__law_other fun _ _ _ _ _ _ us hl => match us, hl with | [_, _, _, _], _ => rfl⟩
  have O_is_side : FnOk P w K mg base CX0 2 (He.fAd K ("is_side", none)) fd_is_side P_is_side (liftSp K 2 sp_is_side) := ok_is_side F_is_side G A_is_whole vc_is_side
  have A_is_side : FnAt P w K mg base "is_side" 2 P_is_side sp_is_side := ⟨_, _, O_is_side, g_is_side, F_is_side.kp, FunD.bindsN F_is_side fun _ _ _ _ _ _ us hl => match us, hl with | [_, _], _ => rfl⟩
  have O_end_of : FnOk P w K mg base CX0 2 (He.fAd K ("end_of", none)) fd_end_of P_end_of (liftSp K 3 sp_end_of) := ok_end_of F_end_of G A_is_whole vc_end_of
  have A_end_of : FnAt P w K mg base "end_of" 2 P_end_of sp_end_of := ⟨_, _, O_end_of, g_end_of, F_end_of.kp, FunD.bindsN F_end_of fun _ _ _ _ _ _ us hl => match us, hl with | [_, _, _], _ => rfl⟩
  have O__law_pick : FnOk P w K mg base CX0 2 (He.fAd K ("_law_pick", none)) fd__law_pick P__law_pick (liftSp K 2 sp__law_pick) := ok__law_pick F__law_pick G A__law_draw vc__law_pick
  have A__law_pick : FnAt P w K mg base "_law_pick" 2 P__law_pick sp__law_pick := ⟨_, _, O__law_pick, g__law_pick, F__law_pick.kp, FunD.bindsN F__law_pick fun _ _ _ _ _ _ us hl => match us, hl with | [_, _], _ => rfl⟩
  have O__law_shuffled : FnOk P w K mg base CX0 2 (He.fAd K ("_law_shuffled", none)) fd__law_shuffled P__law_shuffled (liftSp K 2 sp__law_shuffled) := ok__law_shuffled F__law_shuffled G A__law_draw vc__law_shuffled
  have A__law_shuffled : FnAt P w K mg base "_law_shuffled" 2 P__law_shuffled sp__law_shuffled := ⟨_, _, O__law_shuffled, g__law_shuffled, F__law_shuffled.kp, FunD.bindsN F__law_shuffled fun _ _ _ _ _ _ us hl => match us, hl with | [_, _], _ => rfl⟩
  have O__law_due : FnOk P w K mg base CX0 2 (He.fAd K ("_law_due", none)) fd__law_due P__law_due (liftSp K 3 sp__law_due) := ok__law_due F__law_due G A__law_road_end vc__law_due
  have A__law_due : FnAt P w K mg base "_law_due" 2 P__law_due sp__law_due := ⟨_, _, O__law_due, g__law_due, F__law_due.kp, FunD.bindsN F__law_due fun _ _ _ _ _ _ us hl => match us, hl with | [_, _, _], _ => rfl⟩
  have O_is_nothing : FnOk P w K mg base CX0 3 (He.fAd K ("is_nothing", none)) fd_is_nothing P_is_nothing (liftSp K 3 sp_is_nothing) := ok_is_nothing F_is_nothing G A_end_of A_is_side vc_is_nothing
  have A_is_nothing : FnAt P w K mg base "is_nothing" 3 P_is_nothing sp_is_nothing := ⟨_, _, O_is_nothing, g_is_nothing, F_is_nothing.kp, FunD.bindsN F_is_nothing fun _ _ _ _ _ _ us hl => match us, hl with | [_, _, _], _ => rfl⟩
  have O__law_side : FnOk P w K mg base CX0 3 (He.fAd K ("_law_side", none)) fd__law_side P__law_side (liftSp K 2 sp__law_side) := ok__law_side F__law_side G A__law_draw A__law_pick vc__law_side
  have A__law_side : FnAt P w K mg base "_law_side" 3 P__law_side sp__law_side := ⟨_, _, O__law_side, g__law_side, F__law_side.kp, FunD.bindsN F__law_side fun _ _ _ _ _ _ us hl => match us, hl with | [_, _], _ => rfl⟩
  have O__law_other_3 : FnOk P w K mg base CX0 3 (He.fAd K ("_law_other", none)) fd__law_other P__law_other_3 (liftSp K 4 sp__law_other_3) := ok__law_other_3 F__law_other G A__law_draw A__law_other_z A__law_pick vc__law_other_3
  have A__law_other_3 : FnAt P w K mg base "_law_other" 3 P__law_other_3 sp__law_other_3 := ⟨_, _, O__law_other_3, g__law_other, F__law_other.kp, FunD.bindsN F__law_other fun _ _ _ _ _ _ us hl => match us, hl with | [_, _, _, _], _ => rfl⟩
  have O__law_bans : FnOk P w K mg base CX0 4 (He.fAd K ("_law_bans", none)) fd__law_bans P__law_bans (liftSp K 2 sp__law_bans) := ok__law_bans F__law_bans G A__law_draw A__law_pick A__law_shuffled A__law_side vc__law_bans
  have A__law_bans : FnAt P w K mg base "_law_bans" 4 P__law_bans sp__law_bans := ⟨_, _, O__law_bans, g__law_bans, F__law_bans.kp, FunD.bindsN F__law_bans fun _ _ _ _ _ _ us hl => match us, hl with | [_, _], _ => rfl⟩
  have O__law_other_2 : FnOk P w K mg base CX0 4 (He.fAd K ("_law_other", none)) fd__law_other P__law_other_2 (liftSp K 4 sp__law_other_2) := ok__law_other_2 F__law_other G A__law_draw A__law_other_3 A__law_pick vc__law_other_2
  have A__law_other_2 : FnAt P w K mg base "_law_other" 4 P__law_other_2 sp__law_other_2 := ⟨_, _, O__law_other_2, g__law_other, F__law_other.kp, FunD.bindsN F__law_other fun _ _ _ _ _ _ us hl => match us, hl with | [_, _, _, _], _ => rfl⟩
  have O__law_other_1 : FnOk P w K mg base CX0 5 (He.fAd K ("_law_other", none)) fd__law_other P__law_other_1 (liftSp K 4 sp__law_other_1) := ok__law_other_1 F__law_other G A__law_draw A__law_other_2 A__law_pick vc__law_other_1
  have A__law_other_1 : FnAt P w K mg base "_law_other" 5 P__law_other_1 sp__law_other_1 := ⟨_, _, O__law_other_1, g__law_other, F__law_other.kp, FunD.bindsN F__law_other fun _ _ _ _ _ _ us hl => match us, hl with | [_, _, _, _], _ => rfl⟩
  have O__law_other : FnOk P w K mg base CX0 6 (He.fAd K ("_law_other", none)) fd__law_other P__law_other (liftSp K 4 sp__law_other) := ok__law_other F__law_other G A__law_draw A__law_other_1 A__law_pick vc__law_other
  have A__law_other : FnAt P w K mg base "_law_other" 6 P__law_other sp__law_other := ⟨_, _, O__law_other, g__law_other, F__law_other.kp, FunD.bindsN F__law_other fun _ _ _ _ _ _ us hl => match us, hl with | [_, _, _, _], _ => rfl⟩
  obtain rfl : fd = fd_law := by
    obtain ⟨_, _, _, _, _, _, _, _, _, _, _, l1, _⟩ := Fd.ex
    obtain ⟨_, _, _, _, _, _, _, _, _, _, _, l2, _⟩ := F_law.ex
    have := l1.symm.trans l2
    cases this; rfl
  exact ok_law F_law G A__law_bans A__law_begun A__law_draw A__law_due A__law_other A__law_pick A__law_roads A__law_shuffled A__law_side A_is_nothing vc_law
theorem law_pr [Cls] : ∀ env Q, spLaw env Q → sp_law env Q := by
  rintro env Q ⟨ns, rfl, hn, q⟩
  exact ⟨ns, rfl, (law_true ns).mono fun b e => e ▸ q _⟩
end K05
open PySem PySem.W PySem.Calls PyProof.Rows
theorem PySem.Challenge.cw_meetrow_k05_papers_of_nothing_looked_at_holds : PySem.Challenge.rw_meetrow_k05_papers_of_nothing_looked_at.Holds := by
  w_on; o_law
  refine HandSHeadRun.head_any (r := K05.RR) (q := view K05.RR.prog [17]) (H := K05.hook) (ob := K05.seen) (M := 3000) (loose := [PySem.Str.ofString "is_whole", PySem.Str.ofString "is_side", PySem.Str.ofString "end_of", PySem.Str.ofString "is_nothing", PySem.Str.ofString "_law_begun", PySem.Str.ofString "_law_draw", PySem.Str.ofString "_law_pick", PySem.Str.ofString "_law_shuffled", PySem.Str.ofString "_law_side", PySem.Str.ofString "_law_bans", PySem.Str.ofString "_law_road_end", PySem.Str.ofString "_law_roads", PySem.Str.ofString "_law_due", PySem.Str.ofString "_law_other"]) (d := HandSHeadRun.topDef K05.RR.prog 17) (kwd := []) K05.seen_eq
    (by kernel_rfl) (fun s => by kernel_rfl) K05.runs (by kernel_rfl) (by kernel_rfl) (by kernel_rfl) (by rfl) (by first | assumption | decide +kernel) (by decide +kernel) ⟨rfl, rfl, rfl, rfl, rfl, by decide +kernel⟩ ?wit ?go
  case wit => w_witness2
  case go =>
    refine TT.walk_ofGT (l := PySem.Challenge.rw_meetrow_k05_papers_of_nothing_looked_at) (n := 63) (k := 7) (x := "_law_script") rfl (by decide) (by kernel_rfl) ⟨rfl, by decide, by decide⟩ ?F
    intro w mg fa h Y G0 hmg
    obtain ⟨K, KX, c⟩ := Y
    have hm : mg ("law" : PySem.Str) = some (.ref fa) := by
      have e : (HandSHeadRun.topDef K05.RR.prog 17).name = ("law" : PySem.Str) := by kernel_rfl
      exact e ▸ hmg
    obtain ⟨fd, Fd⟩ := c.t.d.def_ 14 (d := K05.d_law) rfl
    have g_law := He.glo_ok KX G0 (c.t.d.fact 14 (f := .glo "law") rfl)
    have e0 := hm.symm.trans g_law
    cases e0
    letI : TT.Cls := K05.clsK K
    refine ⟨K, fd, TT.liftSp K 1 K05.sp_law, K05.css K, KX, fun s v => L2.FunD.bindsA (ps := ["_law_script"]) Fd (fun _ _ _ _ _ _ us hl => match us, hl with | [_], _ => rfl) s [v] rfl, ?_, ?_, ?_, fun H a ns hl hT hs => TT.law_spG K05.law_pr (fun p hp => ?_) hl hs, fun base hT => K05.facts KX G0 hm c base hT Fd⟩
    · intro p hp; obtain ⟨d, hd, rfl⟩ := List.mem_map.mp hp; exact c.empty d hd
    · intro p hp; obtain ⟨d, hd, rfl⟩ := List.mem_map.mp hp; exact c.out d hd
    · intro p hp; obtain ⟨d, hd, rfl⟩ := List.mem_map.mp hp; exact PySem.W.codeHd_of_K KX (c.hd d hd)
    · exact nomatch hp
