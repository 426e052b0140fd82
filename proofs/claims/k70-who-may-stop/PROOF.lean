import PyProof.Rows.All
import Wide.All
import OpenK.AllK
import Wide.FinOn
import HandS.ForMost
import HandS.ForExc
import HandS.Flow
import HandS.Wide
import HandS.IsInst
import HandS.Deep
import HandS.DictComp
import HandS.Zip
import HandS.Style
import HandS.Lambda
import HandS.Defaults
import HandS.ExcInit
import HandS.ExcField
import HandS.TryMany
import HandS.OwnEq
import HandS.EndTab
import HandS.HeadWalk
import HandS.Head0
import HandS.Head1
import HandS.Head2
import HandS.HeadHook1
import HandS.HeadHook2
import HandS.HeadHook3
import HandS.HeadHook4
import KE.GoesMore
import KE.GoesNew
import KE.SortData
import KE.SortKeyHeap
import HandS.WordsDict
import PySem.Challenge.RW_breakplans_k70_whole_who_may_stop
import KE.KStateDown
import Lean
import HandS.Ends
import HandS.More
import HandS.Words
import HandS.HeadEnd
set_option Elab.async false
set_option linter.all false
set_option maxRecDepth 100000
section
set_option maxHeartbeats 4000000
/-! Views of a heap, data that lie in it, what stays. -/
namespace K70
open PySem PySem.Spec PyProof.Rows L2

/-- the heap without the tables of code objects and without the addresses of A -/
def wo (A : List Addr) (H : Hp) : Hp := fun a => if a ∈ A then none else match H a with
  | some (.tbl _) => none
  | o => o
def Sub (G G' : Hp) : Prop := ∀ a o, G a = some o → G' a = some o
theorem Sub.refl (G : Hp) : Sub G G := fun _ _ h => h
theorem Sub.trans {G G1 G2 : Hp} (a : Sub G G1) (b : Sub G1 G2) : Sub G G2 := fun x o h => b x o (a x o h)
theorem wo_iff {A : List Addr} {H : Hp} {a : Addr} {o : HO} : wo A H a = some o ↔ a ∉ A ∧ H a = some o ∧ ∀ ps, o ≠ .tbl ps := by
  unfold wo
  by_cases h : a ∈ A
  · simp [h]
  · rw [if_neg h]
    constructor
    · intro e
      refine ⟨h, ?_⟩
      split at e
      · cases e
      · rename_i hh
        refine ⟨e, fun ps z => ?_⟩
        rw [z] at e
        exact hh ps e
    · rintro ⟨_, e, n⟩
      rw [e]
      cases o <;> first | rfl | exact absurd rfl (n _)
theorem wo_at {A : List Addr} {H : Hp} {a : Addr} {o : HO} (h : wo A H a = some o) : H a = some o := (wo_iff.mp h).2.1
theorem wo_of {A : List Addr} {H : Hp} {a : Addr} {o : HO} (n : a ∉ A) (h : H a = some o) (t : ∀ ps, o ≠ .tbl ps := by intro ps z; cases z) : wo A H a = some o := wo_iff.mpr ⟨n, h, t⟩
theorem wo_none {A : List Addr} {H : Hp} {a : Addr} (h : H a = none) : wo A H a = none := by
  unfold wo
  split
  · rfl
  · rw [h]
theorem wo_sub {A : List Addr} {H : Hp} : Sub (wo A H) H := fun _ _ h => wo_at h
/-- fewer addresses left out -/
theorem wo_le {A B : List Addr} {H : Hp} (h : ∀ a, a ∈ B → a ∈ A) : Sub (wo A H) (wo B H) := fun a o e => by
  obtain ⟨n, e, t⟩ := wo_iff.mp e
  exact wo_iff.mpr ⟨fun z => n (h a z), e, t⟩
theorem wo_cons {A : List Addr} {p : Addr} {H : Hp} : Sub (wo (p :: A) H) (wo A H) := wo_le fun _ h => List.mem_cons_of_mem _ h
theorem wo_nil {A : List Addr} {H : Hp} : Sub (wo A H) (wo [] H) := wo_le fun _ h => absurd h (by simp)

/-- the addresses of A are known to H -/
def Dom (A : List Addr) (H : Hp) : Prop := ∀ a ∈ A, H a ≠ none
theorem Dom.not {A : List Addr} {H : Hp} (d : Dom A H) {p : Addr} (h : H p = none) : p ∉ A := fun z => d p z h
theorem Dom.nil {H : Hp} : Dom [] H := fun _ h => absurd h (by simp)

/-- the tables of code objects, with the names that they tell -/
class Tbs where
  tabs : List (Addr × Str)
variable [Tbs]
/-- what stood stays, but what stands at A; the tables stay tables -/
structure Ex (A : List Addr) (H H' : Hp) : Prop where
  old : Sub (wo A H) (wo A H')
  dom : ∀ a, H a ≠ none → H' a ≠ none
  tab : LamX.Tabs Tbs.tabs H → LamX.Tabs Tbs.tabs H'
theorem Ex.refl (A : List Addr) (H : Hp) : Ex A H H := ⟨Sub.refl _, fun _ h => h, fun h => h⟩
theorem Ex.trans {A : List Addr} {H H1 H2 : Hp} (a : Ex A H H1) (b : Ex A H1 H2) : Ex A H H2 := ⟨a.old.trans b.old, fun x h => b.dom x (a.dom x h), fun h => b.tab (a.tab h)⟩
theorem Ex.le {A B : List Addr} {H H' : Hp} (e : Ex A H H') (h : ∀ a, a ∈ A → a ∈ B) : Ex B H H' := ⟨fun a o z => by
  obtain ⟨n, z, t⟩ := wo_iff.mp z
  have z2 := e.old a o (wo_iff.mpr ⟨fun y => n (h a y), z, t⟩)
  exact wo_iff.mpr ⟨n, wo_at z2, t⟩, e.dom, e.tab⟩
theorem Ex.any {A : List Addr} {H H' : Hp} (e : Ex [] H H') : Ex A H H' := e.le fun _ h => absurd h (by simp)
theorem Ex.get {A : List Addr} {H H' : Hp} (e : Ex A H H') {a : Addr} {o : HO} (n : a ∉ A) (h : H a = some o) (t : ∀ ps, o ≠ .tbl ps := by intro ps z; cases z) : H' a = some o := wo_at (e.old a o (wo_iff.mpr ⟨n, h, t⟩))
theorem Ex.at {H H' : Hp} (e : Ex [] H H') {a : Addr} {o : HO} (h : H a = some o) (t : ∀ ps, o ≠ .tbl ps := by intro ps z; cases z) : H' a = some o := e.get (by simp) h t
theorem Ex.back {A : List Addr} {H H' : Hp} (e : Ex A H H') {p : Addr} (h : H' p = none) : H p = none := by
  cases q : H p with
  | none => rfl
  | some o => exact absurd h (e.dom p (by rw [q]; simp))
theorem Dom.ex {A B : List Addr} {H H' : Hp} (d : Dom A H) (e : Ex B H H') : Dom A H' := fun a h => e.dom a (d a h)
theorem Dom.new {A : List Addr} {H : Hp} (d : Dom A H) (p : Addr) (o : HO) : Dom (p :: A) (upd H p o) := fun a h => by
  rcases List.mem_cons.1 h with e | h
  · rw [e, upd_same]
    simp
  · by_cases e : a = p
    · rw [e, upd_same]
      simp
    · rw [upd_ne e]
      exact d a h
theorem Dom.upd {A : List Addr} {H : Hp} (d : Dom A H) (p : Addr) (o : HO) : Dom A (upd H p o) := fun a h => Dom.new d p o a (List.mem_cons_of_mem _ h)
/-- tables through a store elsewhere -/
theorem tabs_upd {T : List (Addr × Str)} {H : Hp} {p : Addr} {o : HO} (t : LamX.Tabs T H) (h1 : ∀ ps, H p ≠ some (.tbl ps)) (h2 : ∀ c q, H p ≠ some (LamX.CodeO c q)) : LamX.Tabs T (upd H p o) := fun x hx => by
  obtain ⟨ps, a1, a2, a3⟩ := t x hx
  refine ⟨ps, ?_, a2, fun pos cv hc => ?_⟩
  · rw [upd_ne (fun z => h1 ps (by rw [← z]; exact a1))]
    exact a1
  · obtain ⟨c, e1, e2⟩ := a3 pos cv hc
    refine ⟨c, e1, ?_⟩
    rw [upd_ne (fun z => h2 c x.2 (by rw [← z]; exact e2))]
    exact e2
theorem codeO_kinds {c : Addr} {q : Str} : (∀ xs, LamX.CodeO c q ≠ .lst xs) ∧ (∀ xs, LamX.CodeO c q ≠ .tup xs) ∧ (∀ C dx fs, LamX.CodeO c q ≠ .ins C dx fs) ∧ (∀ kvs, LamX.CodeO c q ≠ .dK kvs) := by
  refine ⟨fun xs z => ?_, fun xs z => ?_, fun C dx fs z => ?_, fun kvs z => ?_⟩ <;> (unfold LamX.CodeO at z; cases z)
/-- a new object -/
theorem Ex.new {A : List Addr} {H : Hp} {p : Addr} {o : HO} (h : H p = none) : Ex A H (upd H p o) := ⟨fun a u z => by
  obtain ⟨n, z, t⟩ := wo_iff.mp z
  refine wo_iff.mpr ⟨n, ?_, t⟩
  rw [upd_ne (ne_of_none z h)]
  exact z, fun a n => by
    by_cases e : a = p
    · rw [e, upd_same]
      simp
    · rw [upd_ne e]
      exact n, fun t => tabs_upd t (fun ps z => by rw [h] at z; cases z) fun c q z => by rw [h] at z; cases z⟩
/-- an object of A is written -/
theorem Ex.put {A : List Addr} {H : Hp} {p : Addr} {u o : HO} (hp : p ∈ A) (h : H p = some u) (h1 : ∀ ps, u ≠ .tbl ps := by intro ps z; cases z) (h2 : ∀ c q, LamX.CodeO c q ≠ u := by intro c q; first | exact codeO_kinds.1 _ | exact codeO_kinds.2.2.1 _ _ _ | exact codeO_kinds.2.2.2 _) : Ex A H (upd H p o) := ⟨fun a v z => by
  obtain ⟨n, z, t⟩ := wo_iff.mp z
  refine wo_iff.mpr ⟨n, ?_, t⟩
  rw [upd_ne (fun e => n (by rw [e]; exact hp))]
  exact z, fun a n => by
    by_cases e : a = p
    · rw [e, upd_same]
      simp
    · rw [upd_ne e]
      exact n, fun t => tabs_upd t (fun ps z => by rw [h] at z; exact h1 ps (Option.some.inj z)) fun c q z => by rw [h] at z; exact h2 c q (Option.some.inj z).symm⟩
/-- an object that H does not know is written later on -/
theorem Ex.putNew {A : List Addr} {H H1 : Hp} {p : Addr} {u o : HO} (e : Ex A H H1) (hn : H p = none) (h : H1 p = some u) (h1 : ∀ ps, u ≠ .tbl ps := by intro ps z; cases z) (h2 : ∀ c q, LamX.CodeO c q ≠ u := by intro c q; first | exact codeO_kinds.1 _ | exact codeO_kinds.2.2.1 _ _ _ | exact codeO_kinds.2.2.2 _) : Ex A H (upd H1 p o) := ⟨fun a v z => by
  obtain ⟨n, z, t⟩ := wo_iff.mp z
  have z2 := e.get n z t
  refine wo_iff.mpr ⟨n, ?_, t⟩
  rw [upd_ne (ne_of_none z hn)]
  exact z2, fun a n => by
    by_cases q : a = p
    · rw [q, upd_same]
      simp
    · rw [upd_ne q]
      exact e.dom a n, fun t => tabs_upd (e.tab t) (fun ps z => by rw [h] at z; exact h1 ps (Option.some.inj z)) fun c q z => by rw [h] at z; exact h2 c q (Option.some.inj z).symm⟩
/-- the view through a new object that is left out -/
theorem wo_new {A : List Addr} {H : Hp} {p : Addr} {o : HO} (h : H p = none) : Sub (wo A H) (wo (p :: A) (upd H p o)) := fun a u z => by
  obtain ⟨n, z, t⟩ := wo_iff.mp z
  have ne := ne_of_none z h
  refine wo_iff.mpr ⟨fun q => ?_, ?_, t⟩
  · rcases List.mem_cons.1 q with q | q
    · exact ne q
    · exact n q
  · rw [upd_ne ne]
    exact z
/-- a store at an address that is left out is not seen -/
theorem wo_put {A : List Addr} {H : Hp} {p : Addr} {o : HO} (h : p ∈ A) : wo A (upd H p o) = wo A H := by
  funext a
  unfold wo
  by_cases q : a ∈ A
  · rw [if_pos q, if_pos q]
  · rw [if_neg q, if_neg q, upd_ne (fun e => q (by rw [e]; exact h))]
theorem wo_upd {A : List Addr} {H : Hp} {p : Addr} {o : HO} (h : H p = none) : Sub (wo A H) (wo A (upd H p o)) := (Ex.new h).old

/-! ### data -/
mutual
/-- v is the data d, as G shows it -/
def Rep (G : Hp) : PyData → V → Prop
  | .none, v => v = .non
  | .bool b, v => v = .bl b
  | .int i, v => v = .int i
  | .str z, v => v = .str z
  | .list ds, v => ∃ a vs, v = .ref a ∧ G a = some (.lst vs) ∧ RepL G ds vs
  | .tuple ds, v => ∃ a vs, v = .ref a ∧ G a = some (.tup vs) ∧ RepL G ds vs
  | .dict _, v => ∃ a, v = .ref a ∧ G a = some (.dK [])
def RepL (G : Hp) : List PyData → List V → Prop
  | [], vs => vs = []
  | d :: ds, vs => ∃ v r, vs = v :: r ∧ Rep G d v ∧ RepL G ds r
end
mutual
theorem Rep.mono {G G' : Hp} (s : Sub G G') : ∀ {d : PyData} {v : V}, Rep G d v → Rep G' d v
  | .none, _, h => h
  | .bool _, _, h => h
  | .int _, _, h => h
  | .str _, _, h => h
  | .list _, _, ⟨a, vs, e, h, r⟩ => ⟨a, vs, e, s _ _ h, RepL.mono s r⟩
  | .tuple _, _, ⟨a, vs, e, h, r⟩ => ⟨a, vs, e, s _ _ h, RepL.mono s r⟩
  | .dict _, _, ⟨a, e, h⟩ => ⟨a, e, s _ _ h⟩
theorem RepL.mono {G G' : Hp} (s : Sub G G') : ∀ {ds : List PyData} {vs : List V}, RepL G ds vs → RepL G' ds vs
  | [], _, h => h
  | _ :: _, _, ⟨v, r, e, h, t⟩ => ⟨v, r, e, Rep.mono s h, RepL.mono s t⟩
end
theorem RepL.nil {G : Hp} : RepL G [] [] := rfl
theorem RepL.cons {G : Hp} {d : PyData} {ds : List PyData} {v : V} {vs : List V} (h : Rep G d v) (t : RepL G ds vs) : RepL G (d :: ds) (v :: vs) := ⟨v, vs, rfl, h, t⟩
theorem RepL.len {G : Hp} : ∀ {ds : List PyData} {vs : List V}, RepL G ds vs → vs.length = ds.length
  | [], _, h => by rw [show _ = [] from h]; rfl
  | _ :: _, _, ⟨v, r, e, h, t⟩ => by rw [e, List.length_cons, List.length_cons, RepL.len t]
theorem RepL.app {G : Hp} : ∀ {ds es : List PyData} {vs ws : List V}, RepL G ds vs → RepL G es ws → RepL G (ds ++ es) (vs ++ ws)
  | [], _, _, _, h, k => by rw [show _ = [] from h]; exact k
  | _ :: _, _, _, _, ⟨v, r, e, h, t⟩, k => by
    rw [e]
    exact ⟨v, _, rfl, h, RepL.app t k⟩
theorem RepL.snoc {G : Hp} {ds : List PyData} {vs : List V} {d : PyData} {v : V} (h : RepL G ds vs) (k : Rep G d v) : RepL G (ds ++ [d]) (vs ++ [v]) := h.app (.cons k .nil)
theorem RepL.get {G : Hp} : ∀ {ds : List PyData} {vs : List V} {i : Nat} {v : V}, RepL G ds vs → vs[i]? = some v → ∃ d, ds[i]? = some d ∧ Rep G d v
  | [], _, _, _, h, e => by rw [show _ = [] from h] at e; simp at e
  | d :: _, _, 0, _, ⟨v, r, q, h, t⟩, e => by
    rw [q] at e
    have e : v = _ := Option.some.inj e
    rw [← e]
    exact ⟨d, rfl, h⟩
  | _ :: _, _, i + 1, _, ⟨v, r, q, h, t⟩, e => by
    rw [q] at e
    exact RepL.get (i := i) t e
theorem RepL.getD {G : Hp} : ∀ {ds : List PyData} {vs : List V} {i : Nat} {d : PyData}, RepL G ds vs → ds[i]? = some d → ∃ v, vs[i]? = some v ∧ Rep G d v
  | [], _, _, _, h, e => by simp at e
  | d :: _, _, 0, _, ⟨v, r, q, h, t⟩, e => by
    have e : d = _ := Option.some.inj e
    rw [← e, q]
    exact ⟨v, rfl, h⟩
  | _ :: _, _, i + 1, _, ⟨v, r, q, h, t⟩, e => by
    rw [q]
    exact RepL.getD (i := i) t e
theorem RepL.take {G : Hp} : ∀ {ds : List PyData} {vs : List V} (n : Nat), RepL G ds vs → RepL G (ds.take n) (vs.take n)
  | _, _, 0, _ => by simp only [List.take_zero]; exact RepL.nil
  | [], _, n + 1, h => by rw [show _ = [] from h]; exact RepL.nil
  | _ :: _, _, n + 1, ⟨v, r, q, h, t⟩ => by
    rw [q]
    exact ⟨v, _, rfl, h, RepL.take n t⟩
theorem RepL.drop {G : Hp} : ∀ {ds : List PyData} {vs : List V} (n : Nat), RepL G ds vs → RepL G (ds.drop n) (vs.drop n)
  | _, _, 0, h => by simpa only [List.drop_zero] using h
  | [], _, n + 1, h => by rw [show _ = [] from h]; exact RepL.nil
  | _ :: _, _, n + 1, ⟨v, r, q, h, t⟩ => by
    rw [q]
    exact RepL.drop n t
theorem RepL.rev {G : Hp} : ∀ {ds : List PyData} {vs : List V}, RepL G ds vs → RepL G ds.reverse vs.reverse
  | [], _, h => by rw [show _ = [] from h]; exact RepL.nil
  | _ :: _, _, ⟨v, r, q, h, t⟩ => by
    rw [q, List.reverse_cons, List.reverse_cons]
    exact (RepL.rev t).snoc h
theorem RepL.erase {G : Hp} : ∀ {ds : List PyData} {vs : List V} (n : Nat), RepL G ds vs → RepL G (ds.eraseIdx n) (vs.eraseIdx n)
  | [], _, n, h => by rw [show _ = [] from h]; exact RepL.nil
  | _ :: _, _, 0, ⟨v, r, q, h, t⟩ => by
    rw [q]
    exact t
  | _ :: _, _, n + 1, ⟨v, r, q, h, t⟩ => by
    rw [q]
    exact ⟨v, _, rfl, h, RepL.erase n t⟩
theorem RepL.strs {G : Hp} : ∀ {zs : List Str} {vs : List V}, RepL G (zs.map .str) vs ↔ vs = zs.map V.str
  | [], vs => Iff.rfl
  | z :: zs, vs => by
    constructor
    · rintro ⟨v, r, rfl, h, t⟩
      rw [show v = V.str z from h, RepL.strs.mp t]
      rfl
    · rintro rfl
      exact ⟨_, _, rfl, rfl, RepL.strs.mpr rfl⟩
theorem RepL.bls {G : Hp} : ∀ {zs : List Bool} {vs : List V}, RepL G (zs.map .bool) vs ↔ vs = zs.map V.bl
  | [], vs => Iff.rfl
  | z :: zs, vs => by
    constructor
    · rintro ⟨v, r, rfl, h, t⟩
      rw [show v = V.bl z from h, RepL.bls.mp t]
      rfl
    · rintro rfl
      exact ⟨_, _, rfl, rfl, RepL.bls.mpr rfl⟩
theorem RepL.ints {G : Hp} : ∀ {zs : List Int} {vs : List V}, RepL G (zs.map .int) vs ↔ vs = zs.map V.int
  | [], vs => Iff.rfl
  | z :: zs, vs => by
    constructor
    · rintro ⟨v, r, rfl, h, t⟩
      rw [show v = V.int z from h, RepL.ints.mp t]
      rfl
    · rintro rfl
      exact ⟨_, _, rfl, rfl, RepL.ints.mpr rfl⟩

/-- lists of texts, lists of these -/
abbrev ls (zs : List Str) : PyData := .list (zs.map .str)
abbrev lls (bs : List (List Str)) : PyData := .list (bs.map ls)
abbrev tpl (zs : List Str) : PyData := .tuple (zs.map .str)
theorem Rep.ls {G : Hp} {zs : List Str} {v : V} : Rep G (ls zs) v ↔ ∃ a, v = .ref a ∧ G a = some (.lst (zs.map V.str)) := by
  constructor
  · rintro ⟨a, vs, e, h, r⟩
    rw [RepL.strs.mp r] at h
    exact ⟨a, e, h⟩
  · rintro ⟨a, e, h⟩
    exact ⟨a, _, e, h, RepL.strs.mpr rfl⟩

mutual
/-- no dict within -/
def pure_ : PyData → Bool
  | .list ds => pureL ds
  | .tuple ds => pureL ds
  | .dict _ => false
  | _ => true
def pureL : List PyData → Bool
  | [] => true
  | d :: ds => pure_ d && pureL ds
end
mutual
theorem Rep.dp {K : PySem.W.Frag} {A : List Addr} {H : Hp} : ∀ {d : PyData} {v : V}, Rep (wo A H) d v → pure_ d = true → Dp K H v d
  | .none, _, h, _ => by rw [show _ = V.non from h]; exact .non
  | .bool b, _, h, _ => by rw [show _ = V.bl b from h]; exact .bl b
  | .int i, _, h, _ => by rw [show _ = V.int i from h]; exact .int i
  | .str z, _, h, _ => by rw [show _ = V.str z from h]; exact .str z
  | .list _, _, ⟨a, vs, e, h, r⟩, p => by rw [e]; exact .lst (SqL.of (wo_at h)) (RepL.dp r p)
  | .tuple _, _, ⟨a, vs, e, h, r⟩, p => by rw [e]; exact .tup (SqT.of (wo_at h)) (RepL.dp r p)
  | .dict _, _, _, p => by cases p
theorem RepL.dp {K : PySem.W.Frag} {A : List Addr} {H : Hp} : ∀ {ds : List PyData} {vs : List V}, RepL (wo A H) ds vs → pureL ds = true → DpAll K H vs ds
  | [], _, h, _ => by rw [show _ = [] from h]; exact .nil
  | d :: ds, _, ⟨v, r, e, h, t⟩, p => by
    obtain ⟨p1, p2⟩ := Bool.and_eq_true_iff.mp (show (pure_ d && pureL ds) = true from p)
    rw [e]
    exact .cons (Rep.dp h p1) (RepL.dp t p2)
end
/-- the name of a thing's type -/
def tyn : PyData → String
  | .none => "NoneType"
  | .bool _ => "bool"
  | .int _ => "int"
  | .str _ => "str"
  | .list _ => "list"
  | .tuple _ => "tuple"
  | .dict _ => "dict"
theorem Rep.ty {K : PySem.W.Frag} {A : List Addr} {H : Hp} : ∀ {d : PyData} {v : V}, Rep (wo A H) d v → TyX K H v (.type (tyn d))
  | .none, _, h => by rw [show _ = V.non from h]; exact .base .non
  | .bool b, _, h => by rw [show _ = V.bl b from h]; exact .base (.bl b)
  | .int i, _, h => by rw [show _ = V.int i from h]; exact .base (.int i)
  | .str z, _, h => by rw [show _ = V.str z from h]; exact .base (.str z)
  | .list _, _, ⟨a, vs, e, h, r⟩ => by rw [e]; exact .base (.lst (wo_at h))
  | .tuple _, _, ⟨a, vs, e, h, r⟩ => by rw [e]; exact .base (.tup (wo_at h))
  | .dict _, _, ⟨a, e, h⟩ => by rw [e]; exact .base (.dK (wo_at h))
end K70
end
section
set_option maxHeartbeats 4000000
/-! What a loop walks; comprehensions over data. -/
namespace K70
open PySem PySem.Spec PyProof.Rows L2
variable [Tbs]

/-- n turns; Y: what comes at a turn; Ok: what the heap must show -/
structure Src (J : It) (n : Nat) (Y : Nat → V → Hp → Hp → Prop) (Ok : Hp → Prop) : Prop where
  go : ∀ i H, i < n → Ok H → J.go i H
  yl : ∀ i H x H', i < n → Ok H → J.yld i H x H' → Y i x H H'
  stop : ∀ H, Ok H → J.stop n H
theorem src_list {K : PySem.W.Frag} {a : Addr} {vs : List V} : Src (Itl K a) vs.length (fun i x H H' => H' = H ∧ vs[i]? = some x) (fun H => H a = some (.lst vs)) where
  go := fun i H hi ok => ⟨vs, vs[i], SqL.of ok, by simp [hi]⟩
  yl := fun i H x H' hi ok y => ⟨y.1, y.2 vs (SqL.of ok)⟩
  stop := fun H ok => ⟨vs, SqL.of ok, Nat.le_refl _⟩
theorem src_tup {K : PySem.W.Frag} {a : Addr} {vs : List V} : Src (Itt K a) vs.length (fun i x H H' => H' = H ∧ vs[i]? = some x) (fun H => H a = some (.tup vs)) where
  go := fun i H hi ok => ⟨vs, vs[i], SqT.of ok, by simp [hi]⟩
  yl := fun i H x H' hi ok y => ⟨y.1, y.2 vs (SqT.of ok)⟩
  stop := fun H ok => ⟨vs, SqT.of ok, Nat.le_refl _⟩
theorem src_rng {lo : Int} {n : Nat} : Src (Itr lo n) n (fun i x H H' => H' = H ∧ x = .int (lo + i)) (fun _ => True) where
  go := fun i H hi _ => hi
  yl := fun i H x H' _ _ y => y
  stop := fun H _ => Nat.le_refl _
theorem src_str {z : Str} : Src (Its z) z.cps.size (fun i x H H' => H' = H ∧ ∃ c, z.cps[i]? = some c ∧ x = .str ⟨#[c]⟩) (fun _ => True) where
  go := fun i H hi _ => hi
  yl := fun i H x H' _ _ y => y
  stop := fun H _ => Nat.le_refl _
theorem src_enum {K : PySem.W.Frag} {a : Addr} {vs : List V} : Src (Ite K a) vs.length (fun i x H H' => ∃ T y, x = .ref T ∧ H T = none ∧ H' = upd H T (.tup [.int (i : Nat), y]) ∧ vs[i]? = some y) (fun H => H a = some (.lst vs)) where
  go := fun i H hi ok => ⟨vs, vs[i], SqL.of ok, by simp [hi]⟩
  yl := fun i H x H' hi ok ⟨T, y, e, n, e2, q⟩ => ⟨T, y, e, n, e2, q vs (SqL.of ok)⟩
  stop := fun H ok => ⟨vs, SqL.of ok, Nat.le_refl _⟩
theorem src_zipL {K : PySem.W.Frag} {a b : Addr} {vs ws : List V} (hl : vs.length = ws.length) : Src (Itz K a b) vs.length (fun i x H H' => ∃ T y z, x = .ref T ∧ H T = none ∧ H' = upd H T (.tup [y, z]) ∧ vs[i]? = some y ∧ ws[i]? = some z) (fun H => H a = some (.lst vs) ∧ H b = some (.lst ws)) where
  go := fun i H hi ok => ⟨vs, ws, vs[i], ws[i], SqL.of ok.1, SqL.of ok.2, by simp [hi], by simp [hl ▸ hi]⟩
  yl := fun i H x H' hi ok ⟨T, y, z, e, n, e2, q, q2⟩ => ⟨T, y, z, e, n, e2, q vs (SqL.of ok.1), q2 ws (SqL.of ok.2)⟩
  stop := fun H ok => ⟨vs, ws, SqL.of ok.1, SqL.of ok.2, .inl (Nat.le_refl _)⟩
theorem src_zipT {K : PySem.W.Frag} {a b : Addr} {vs ws : List V} (hl : vs.length = ws.length) : Src (RZ.ItzT K a b) vs.length (fun i x H H' => ∃ T y z, x = .ref T ∧ H T = none ∧ H' = upd H T (.tup [y, z]) ∧ vs[i]? = some y ∧ ws[i]? = some z) (fun H => H a = some (.tup vs) ∧ H b = some (.tup ws)) where
  go := fun i H hi ok => ⟨vs, ws, vs[i], ws[i], SqT.of ok.1, SqT.of ok.2, by simp [hi], by simp [hl ▸ hi]⟩
  yl := fun i H x H' hi ok ⟨T, y, z, e, n, e2, q, q2⟩ => ⟨T, y, z, e, n, e2, q vs (SqT.of ok.1), q2 ws (SqT.of ok.2)⟩
  stop := fun H ok => ⟨vs, ws, SqT.of ok.1, SqT.of ok.2, .inl (Nat.le_refl _)⟩

/-! ### what the layer's rules ask of turns, named -/
/-- the list at D has one thing more, and then N -/
abbrev Grown (D : Addr) (N : Hp → Prop) : VK := fun y H => ∃ acc, H D = some (.lst acc) ∧ acc.length < sizeLine ∧ N (upd H D (.lst (acc ++ [y])))
/-- the dict at D has the pair, and then N -/
abbrev GrownD (D : Addr) (tv : TE) (σ : L2.St) (N : Hp → Prop) : VK := fun y H => tv σ H fun z H' => ∃ kvs k, y = kV k ∧ H' D = some (.dK kvs) ∧ kvs.length < sizeLine ∧ N (upd H' D (.dK (putK kvs k z)))
/-- one turn of a comprehension: the target, the tests, then put or go on -/
abbrev OneTurn (g : TG) (tt : TT) (vs : List Nat) (σ : L2.St) (put : L2.St → Hp → Prop) (on : Hp → Prop) (x : V) (H : Hp) : Prop := g x (wipe σ vs) H fun τ H1 => wipe τ vs = wipe σ vs ∧ tt τ H1 fun b H2 => if b = true then put τ H2 else on H2
/-- turns until J stops, the wish Qd then -/
abbrev Turns (J : It) (turn : (Hp → Prop) → V → Hp → Prop) (Qd : Hp → Prop) (H0 : Hp) : Prop := ∃ W : Nat → Nat → Hp → Prop, (∃ m, W 0 m H0) ∧ ∀ i m H, W i m H → (J.stop i H ∧ Qd H) ∨ (J.go i H ∧ ∃ N : Hp → Prop, (∀ H', N H' → ∃ k, k < m ∧ W (i + 1) k H') ∧ ∀ x H', J.yld i H x H' → turn N x H')
abbrev LcTurns (J : It) (g : TG) (tt : TT) (te : TE) (vs : List Nat) (σ : L2.St) (D : Addr) : (Hp → Prop) → Hp → Prop := Turns J fun N => OneTurn g tt vs σ (fun τ H => te τ H (Grown D N)) N
abbrev DcTurns (J : It) (g : TG) (tt : TT) (tk tv : TE) (vs : List Nat) (σ : L2.St) (D : Addr) : (Hp → Prop) → Hp → Prop := Turns J fun N => OneTurn g tt vs σ (fun τ H => tk τ H (GrownD D tv τ N)) N
section
variable {J : It} {n : Nat} {Y : Nat → V → Hp → Hp → Prop} {Ok : Hp → Prop} {g : TG} {tt : TT} {te : TE} {vs : List Nat} {σ : L2.St} {H : Hp}
/-- n turns, P between them -/
theorem turns_src (S : Src J n Y Ok) {turn : (Hp → Prop) → V → Hp → Prop} {H1 : Hp} {Qd : Hp → Prop} (P : Nat → Hp → Prop) (h0 : P 0 H1) (ok : ∀ i H, i ≤ n → P i H → Ok H) (step : ∀ i x H H', i < n → P i H → Y i x H H' → turn (P (i + 1)) x H') (hd : ∀ H, P n H → Qd H) : Turns J turn Qd H1 := by
  refine ⟨fun i m H => m + i = n ∧ P i H, ⟨n, rfl, h0⟩, fun i m H ⟨e, p⟩ => ?_⟩
  have o := ok i H (by omega) p
  cases m with
  | zero =>
    obtain rfl : i = n := by omega
    exact .inl ⟨S.stop H o, hd H p⟩
  | succ m =>
    have lt : i < n := by omega
    exact .inr ⟨S.go i H lt o, P (i + 1), fun H' q => ⟨m, Nat.lt_succ_self m, by omega, q⟩, fun x H' y => step i x H H' lt p (S.yl i H x H' lt o y)⟩
theorem lc_src (S : Src J n Y Ok) {D : Addr} {H1 : Hp} {Qd : Hp → Prop} (Pv : Nat → Hp → Prop) (h0 : Pv 0 H1) (ok : ∀ i H, i ≤ n → Pv i H → Ok H)
    (turn : ∀ i x H H', i < n → Pv i H → Y i x H H' → OneTurn g tt vs σ (fun τ H => te τ H (Grown D (Pv (i + 1)))) (Pv (i + 1)) x H') (hd : ∀ H, Pv n H → Qd H) : LcTurns J g tt te vs σ D Qd H1 := turns_src S Pv h0 ok turn hd
/-- the same for a dict comprehension -/
theorem dc_src (S : Src J n Y Ok) {tk tv : TE} {D : Addr} {H1 : Hp} {Qd : Hp → Prop} (Pv : Nat → Hp → Prop) (h0 : Pv 0 H1) (ok : ∀ i H, i ≤ n → Pv i H → Ok H)
    (turn : ∀ i x H H', i < n → Pv i H → Y i x H H' → OneTurn g tt vs σ (fun τ H => tk τ H (GrownD D tv τ (Pv (i + 1)))) (Pv (i + 1)) x H') (hd : ∀ H, Pv n H → Qd H) : DcTurns J g tt tk tv vs σ D Qd H1 := turns_src S Pv h0 ok turn hd
/-- a for loop: turns until J stops -/
abbrev ForTurns (J : It) (turn : (L2.St → Hp → Prop) → V → L2.St → Hp → Prop) (Qd : L2.St → Hp → Prop) (σ0 : L2.St) (H0 : Hp) : Prop := ∃ W : Nat → Nat → L2.St → Hp → Prop, (∃ m, W 0 m σ0 H0) ∧ ∀ i m σ H, W i m σ H → (J.stop i H ∧ Qd σ H) ∨ (J.go i H ∧ ∃ N : L2.St → Hp → Prop, (∀ σ' H', N σ' H' → ∃ k, k < m ∧ W (i + 1) k σ' H') ∧ ∀ x H', J.yld i H x H' → turn N x σ H')
/-- one turn of a for: the target, the body; a break leaves -/
abbrev OneFor (g : TG) (tb : TS) (D : Ends) (N : L2.St → Hp → Prop) (x : V) (σ : L2.St) (H : Hp) : Prop := g x σ H fun τ H1 => tb { D with nx := N, ct := N, bk := D.nx } τ H1
/-- a for loop over such a source -/
theorem for_src (S : Src J n Y Ok) {tb : TS} {D : Ends} (Pv : Nat → L2.St → Hp → Prop) (h0 : Pv 0 σ H) (ok : ∀ i σ H, i ≤ n → Pv i σ H → Ok H)
    (turn : ∀ i x σ H H', i < n → Pv i σ H → Y i x H H' → OneFor g tb D (Pv (i + 1)) x σ H') (hd : ∀ σ H, Pv n σ H → D.nx σ H) : ForTurns J (OneFor g tb D) D.nx σ H := by
  refine ⟨fun i m σ H => m + i = n ∧ Pv i σ H, ⟨n, rfl, h0⟩, fun i m σ H ⟨e, p⟩ => ?_⟩
  have o := ok i σ H (by omega) p
  cases m with
  | zero =>
    obtain rfl : i = n := by omega
    exact .inl ⟨S.stop H o, hd σ H p⟩
  | succ m =>
    have lt : i < n := by omega
    exact .inr ⟨S.go i H lt o, Pv (i + 1), fun _ _ q => ⟨m, Nat.lt_succ_self m, by omega, q⟩, fun x H' y => turn i x σ H H' lt p (S.yl i H x H' lt o y)⟩
/-- what n turns give: at each one thing or none -/
inductive Outs (R : Nat → Option PyData → Prop) : Nat → List PyData → Prop
  | nil : Outs R 0 []
  | some {i : Nat} {rs : List PyData} {r : PyData} (h : Outs R i rs) (k : R i (some r)) : Outs R (i + 1) (rs ++ [r])
  | none {i : Nat} {rs : List PyData} (h : Outs R i rs) (k : R i none) : Outs R (i + 1) rs
theorem Outs.len {R : Nat → Option PyData → Prop} {i : Nat} {rs : List PyData} (h : Outs R i rs) : rs.length ≤ i := by
  induction h with
  | nil => exact Nat.le_refl _
  | some _ _ ih => rw [List.length_append, List.length_singleton]; omega
  | none _ _ ih => omega
/-- what each turn gives is a function of the item -/
theorem Outs.fn {R : Nat → Option PyData → Prop} {α : Type} {ds : List α} {p : α → Bool} {f : α → PyData} (hR : ∀ i o d, ds[i]? = Option.some d → R i o → o = if p d = true then Option.some (f d) else Option.none) {i : Nat} {rs : List PyData} (h : Outs R i rs) :
    i ≤ ds.length → rs = ((ds.take i).filter p).map f := by
  induction h with
  | nil => intro _; rfl
  | @some i rs r h k ih =>
    intro hi
    have e : ds[i]? = Option.some ds[i] := by simp [show i < ds.length from hi]
    have q := hR i _ _ e k
    have et : ds.take (i + 1) = ds.take i ++ [ds[i]] := by rw [List.take_add_one, e]; rfl
    rw [ih (by omega), et, List.filter_append, List.map_append]
    by_cases c : p ds[i] = true
    · rw [if_pos c] at q
      rw [Option.some.inj q]
      simp [c]
    · rw [if_neg c] at q
      cases q
  | @none i rs h k ih =>
    intro hi
    have e : ds[i]? = Option.some ds[i] := by simp [show i < ds.length from hi]
    have q := hR i _ _ e k
    have et : ds.take (i + 1) = ds.take i ++ [ds[i]] := by rw [List.take_add_one, e]; rfl
    rw [ih (by omega), et, List.filter_append, List.map_append]
    by_cases c : p ds[i] = true
    · rw [if_pos c] at q
      cases q
    · simp [c]
/-- each turn gives a thing that is so related to the turn -/
theorem Outs.all {R : Nat → Option PyData → Prop} {T : Nat → PyData → Prop} (hR : ∀ i o, R i o → ∃ r, o = Option.some r ∧ T i r) {n : Nat} {rs : List PyData} (h : Outs R n rs) : rs.length = n ∧ ∀ i r, rs[i]? = Option.some r → T i r := by
  induction h with
  | nil => exact ⟨rfl, fun i r e => by simp at e⟩
  | @some i rs r h k ih =>
    obtain ⟨l, a⟩ := ih
    obtain ⟨r', e, t⟩ := hR i _ k
    cases e
    refine ⟨by rw [List.length_append, l]; rfl, fun j s e => ?_⟩
    by_cases hj : j < rs.length
    · rw [List.getElem?_append_left hj] at e
      exact a j s e
    · rw [List.getElem?_append_right (by omega)] at e
      have ej : j - rs.length = 0 := by
        cases q : j - rs.length with
        | zero => rfl
        | succ m => rw [q] at e; simp at e
      rw [ej] at e
      have e : r = s := by simpa using e
      have : j = i := by omega
      rw [this, ← e]
      exact t
  | none h k ih =>
    obtain ⟨r', e, _⟩ := hR _ _ k
    cases e
/-- a comprehension over data. B: what the turns may write; Z: what else holds between them -/
theorem lc_data (S : Src J n Y Ok) {A B : List Addr} {Qd : Addr → Hp → Prop} (R : Nat → Option PyData → Prop) (Z : Nat → Hp → Prop) (hBA : ∀ a, a ∈ B → a ∈ A) (dA : Dom A H) (z0 : ∀ p, H p = none → Z 0 (upd H p (.lst []))) (hn : n ≤ 100000)
    (hZ : ∀ i H' p o, p ∉ A → H' p ≠ none → Z i H' → Z i (upd H' p o)) (ok : ∀ H', Sub (wo A H) (wo A H') → Ok H')
    (turn : ∀ i x A1 H1 H2 (Kt : VK) (Kf : Hp → Prop), i < n → (∀ a, a ∈ A → a ∈ A1) → Dom A1 H1 → Sub (wo A H) (wo A1 H1) → Ex B H H1 → Z i H1 → Y i x H1 H2 →
      (∀ r y H3, R i (some r) → Ex B H1 H3 → Z (i + 1) H3 → Rep (wo A1 H3) r y → Kt y H3) → (∀ H3, R i none → Ex B H1 H3 → Z (i + 1) H3 → Kf H3) →
      OneTurn g tt vs σ (fun τ H => te τ H Kt) Kf x H2)
    (fin : ∀ rs D H', H D = none → Outs R n rs → Ex B H H' → Z n H' → Rep (wo A H') (.list rs) (.ref D) → Qd D H') :
    ∀ D, H D = none → LcTurns J g tt te vs σ D (Qd D) (upd H D (.lst [])) := by
  intro D hD
  have nA : D ∉ A := dA.not hD
  have nB : D ∉ B := fun z => nA (hBA D z)
  refine lc_src S (fun i H' => Ex B H H' ∧ Z i H' ∧ Sub (wo A H) (wo (D :: A) H') ∧ ∃ rs acc, Outs R i rs ∧ H' D = some (.lst acc) ∧ RepL (wo (D :: A) H') rs acc) ⟨Ex.new hD, z0 D hD, wo_new hD, [], [], .nil, upd_same, RepL.nil⟩
    (fun i H' _ ⟨_, _, s, _⟩ => ok H' (s.trans wo_cons)) ?_ ?_
  · rintro i x H1 H2 hi ⟨e1, z1, s1, rs, acc, o1, hd, r1⟩ y
    have dom1 : Dom (D :: A) H1 := fun a h => by
      rcases List.mem_cons.1 h with q | q
      · rw [q, hd]; simp
      · exact e1.dom a (dA a q)
    have hl : acc.length ≤ i := by rw [r1.len]; exact o1.len
    refine turn i x (D :: A) H1 H2 _ _ hi (fun a h => List.mem_cons_of_mem _ h) dom1 s1 e1 z1 y (fun r v H3 k e3 z3 rv => ?_) (fun H3 k e3 z3 => ?_)
    · have hd3 : H3 D = some (.lst acc) := e3.get nB hd
      refine ⟨acc, hd3, Nat.lt_of_le_of_lt hl (Nat.lt_of_lt_of_le hi (Nat.le_trans hn (by decide))), (e1.trans e3).putNew hD hd3, hZ _ _ _ _ nA (by rw [hd3]; simp) z3, ?_, _, _, o1.some k, upd_same, ?_⟩
      · rw [wo_put (List.mem_cons_self ..)]
        exact s1.trans (e3.le fun a h => List.mem_cons_of_mem _ (hBA a h)).old
      · rw [wo_put (List.mem_cons_self ..)]
        exact (r1.mono (e3.le fun a h => List.mem_cons_of_mem _ (hBA a h)).old).snoc rv
    · have s3 := (e3.le fun a h => List.mem_cons_of_mem D (hBA a h)).old
      exact ⟨e1.trans e3, z3, s1.trans s3, rs, acc, o1.none k, e3.get nB hd, r1.mono s3⟩
  · rintro H' ⟨e1, z1, s1, rs, acc, o1, hd, r1⟩
    exact fin rs D H' hD o1 e1 z1 ⟨D, acc, rfl, wo_of nA hd, r1.mono wo_cons⟩
/-- [f d for d in a list of data if p d], nothing written -/
theorem lc_map (S : Src J n Y Ok) {A : List Addr} {Qd : Addr → Hp → Prop} {α : Type} (ds : List α) (p : α → Bool) (f : α → PyData) (el : ds.length = n) (dA : Dom A H) (hn : n ≤ 100000) (ok : ∀ H', Sub (wo A H) (wo A H') → Ok H')
    (turn : ∀ i d x A1 H1 H2 (Kt : VK) (Kf : Hp → Prop), ds[i]? = some d → (∀ a, a ∈ A → a ∈ A1) → Dom A1 H1 → Sub (wo A H) (wo A1 H1) → Ex [] H H1 → Y i x H1 H2 →
      (p d = true → ∀ y H3, Ex [] H1 H3 → Rep (wo A1 H3) (f d) y → Kt y H3) → (p d = false → ∀ H3, Ex [] H1 H3 → Kf H3) →
      OneTurn g tt vs σ (fun τ H => te τ H Kt) Kf x H2)
    (fin : ∀ D H', H D = none → Ex [] H H' → Rep (wo A H') (.list ((ds.filter p).map f)) (.ref D) → Qd D H') :
    ∀ D, H D = none → LcTurns J g tt te vs σ D (Qd D) (upd H D (.lst [])) := by
  refine lc_data S (B := []) (fun i o => ∀ d, ds[i]? = some d → o = if p d = true then some (f d) else none) (fun _ _ => True) (fun a h => absurd h (by simp)) dA (fun _ _ => trivial) hn (fun _ _ _ _ _ _ _ => trivial) ok ?_ ?_
  · intro i x A1 H1 H2 Kt Kf hi hA d1 s1 e1 _ y kt kf
    have e : ds[i]? = some ds[i] := by simp [el ▸ hi]
    refine turn i _ x A1 H1 H2 Kt Kf e hA d1 s1 e1 y (fun c v H3 e3 r => kt _ v H3 (fun d q => ?_) e3 trivial r) (fun c H3 e3 => kf H3 (fun d q => ?_) e3 trivial)
    · rw [e] at q
      rw [← Option.some.inj q, if_pos c]
    · rw [e] at q
      rw [← Option.some.inj q, c, if_neg (by simp)]
  · intro rs D H' hD o e _ r
    have q := o.fn (α := α) (ds := ds) (p := p) (f := f) (fun i o d h k => k d h) (by omega)
    rw [← el, List.take_length] at q
    rw [q] at r
    exact fin D H' hD e r
end
end K70
end
section
set_option maxHeartbeats 4000000
/-! enumerate of a list or of a tuple; what is walked, told by what stands at an address. -/
namespace K70
open PySem PySem.Spec PyProof.Rows L2
variable [Tbs]
/-! ### enumerate(v), by how v's iterator begins -/
/-- what enumerate makes over the iterator at i -/
def enumO (i : Addr) : Obj := { cls := .type "enumerate", data := .fields #[.none, .bool false, .ref i, rawInt 0, .none, .none] }
/-- the heap with v's iterator o and the enumerate over it -/
def enumH (h : Heap) (o : Obj) : Heap := (h.push o).push (enumO h.objs.size)
theorem enumH_size (h : Heap) (o : Obj) : (h.push o).objs.size = h.objs.size + 1 := Heap.size_push ..
theorem enumH_old {h : Heap} {o : Obj} (b : Addr) (u : Obj) (e : h.get? b = some u) : (enumH h o).get? b = some u := Heap.get?_push_of_some _ (Heap.get?_push_of_some _ e)
theorem enumH_iter {h : Heap} {o : Obj} (f : o.isFreed = false) : (enumH h o).get? h.objs.size = some o := Heap.get?_push_of_some _ (Heap.get?_push_size _ f)
theorem enumH_enum {h : Heap} {o : Obj} : (enumH h o).get? (h.objs.size + 1) = some (enumO h.objs.size) := by
  have z : (enumH h o).get? (h.push o).objs.size = some (enumO h.objs.size) := Heap.get?_push_size _ rfl
  rwa [enumH_size] at z
theorem enum_new {v : Value} {o : Obj} {G : Heap → Prop} (B : Begins v o G) :
    Meets (Builtin.«enumerate.__new__» ⟨[.type "enumerate", v], []⟩) fun _ R s => G s.heap ∧ R (.ok (.ret (.ref (s.heap.objs.size + 1)))) { s with heap := enumH s.heap o } :=
  .of_wp fun prog w A R ⟨hp, g, d, tk, os⟩ ⟨hg, hr⟩ => by
    have sub := sub_enumerate
    have first : ∀ {A' : Around} {E Q : Value → Shared → Prop}, Q (.ref hp.objs.size) ⟨hp.push o, g, d, tk, os⟩ → wpAny (model prog w) A' (pyIter v) Q E ⟨hp, g, d, tk, os⟩ := fun q => B.iter prog w _ _ _ _ hg q
    have last : R (.ok (.ret (.ref (hp.push o).objs.size))) ⟨enumH hp o, g, d, tk, os⟩ := by
      rw [enumH_size]
      exact hr
    wp_walk using first
    refine wpAny_stack_any fun _ => ?_
    refine wpAny_pure ?_
    split
    · generalize (_ == Value.type "enumerate") = t
      cases t <;> (wp_walk using first; exact ⟨_, rfl, last⟩)
    · wp_walk using first
      exact ⟨_, rfl, last⟩
theorem enum_call {v : Value} {o : Obj} {G : Heap → Prop} (B : Begins v o G) {prog : Program} {w : World} {A : Around} {E Q : Value → Shared → Prop} {s : Shared} (hg : G s.heap) (h : Q (.ref (s.heap.objs.size + 1)) { s with heap := enumH s.heap o }) :
    wpAny (model prog w) A (call (.type "enumerate") [v]) Q E s :=
  callType_new F.called_enumerate (by decide) (F.typeCall_enumerate_1 _) (F.newCall_enumerate_1 _) (fun x => F.args_object_init_2 x _) F.entry_enumerate_new (enum_new B) ⟨hg, ⟨_, enumH_enum, rfl⟩, h⟩
/-! ### a tuple gone through by enumerate, by the library's GoesN -/
/-- where the walk of the tuple at a stands: e the enumerate, t the tuple's iterator -/
def EnT (a e t : Addr) (i : Nat) (h : Heap) : Prop := e ≠ t ∧ h.IsTupleIter t a i ∧ ∃ old, IsEnum h e t (0 + (i : Int)) old
theorem EnT.cells {a e t : Addr} {i : Nat} {h : Heap} (st : EnT a e t i h) : ∀ b ∈ [e, t], ∃ o fs, h.get? b = some o ∧ o.data = .fields fs := by
  obtain ⟨_, ⟨o, ho, _, hd⟩, old, he⟩ := st
  intro b hb
  rcases List.mem_cons.1 hb with rfl | hb
  · exact ⟨_, _, he, rfl⟩
  · cases List.mem_singleton.mp hb
    exact ⟨o, _, ho, hd⟩
theorem EnT.apart {a e t : Addr} {i : Nat} {h : Heap} (st : EnT a e t i h) {xs : Array Value} (p : IsTup h a xs) : a ∉ [e, t] := fun hb => by
  obtain ⟨o, fs, ho, hd⟩ := st.cells a hb
  obtain ⟨u, hu, _, n, du⟩ := p
  cases ho.symm.trans hu
  cases hd.symm.trans du
abbrev EnY (xs : Array Value) (i : Nat) (h : Heap) (v : Value) (h' : Heap) : Prop := ∃ T tk x, v = .ref T ∧ h.objs.size ≤ T ∧ xs[i]? = some x ∧ h'.IsTuple T #[.int (0 + (i : Int)) tk, x]
theorem EnT.goes {P : Program} {w : World} {A : Around} {elts : List Expr} {kk : Nat} {tpos : Pos} {a e t : Addr} {i : Nat} {h : Heap} {xs : Array Value} (hh : A.in1.handled = none) (st : EnT a e t i h) (p : IsTup h a xs) :
    GoesN P w A (.Tuple elts kk tpos) e [e, t, a] [e, t] xs.size (EnY xs) fun j g => (∃ old, IsEnum g e t (0 + (j : Int)) old) ∧ g.IsTupleIter t a j ∧ g.IsTuple a xs := by
  have n := st.apart p
  simp only [List.mem_cons, List.not_mem_nil, or_false, not_or] at n
  exact .enumFrom 0 (.tuple hh t a n.2 xs) e st.1 (by simp [st.1, Ne.symm n.1]) (by simp)
/-- the tuple at a as it stands, each item with its number in a new pair -/
def IteT (K : PySem.W.Frag) (a : Addr) : It where
  go i H := ∃ xs x, SqT K H a xs ∧ xs[i]? = some x
  yld i H v H' := ∃ T x, v = .ref T ∧ H T = none ∧ H' = upd H T (.tup [.int (i : Nat), x]) ∧ ∀ xs, SqT K H a xs → xs[i]? = some x
  stop i H := ∃ xs, SqT K H a xs ∧ xs.length = i
theorem turn_enumT {P : Program} {w : World} {K : PySem.W.Frag} {elts : List Expr} {kk : Nat} {tpos : Pos} (a e t : Addr) : Turn P w K (.Tuple elts kk tpos) (IteT K a) [e, t] e (EnT a e t) where
  mem := List.mem_cons_self ..
  obj i h st b hb := by
    obtain ⟨o, fs, ho, hd⟩ := st.cells b hb
    exact ⟨o, ho, fun v z => by cases hd.symm.trans z⟩
  keep := fun i h h' ⟨n, it, old, he⟩ k => ⟨n, it.at (k t (by simp)), old, k e (by simp) _ he⟩
  self := fun A i s Q E ⟨_, _, old, he⟩ q => wpAny_pyIter_enum he q
  item := by
    rintro X rfl rfl rfl calm i pins s σ H E I young st ⟨xs, x, hq, hx⟩
    obtain ⟨its, rv, p, -⟩ := I.tuple hq
    obtain ⟨u, at_u, ru⟩ := rv.get hx
    have ha : its.toArray[i]? = some u := by simpa using at_u
    refine (st.goes (I.ok.hd calm) p).goes i s _ E (Array.getElem?_eq_some_iff.mp ha).1 ⟨st.2.2, st.2.1, p⟩ fun v h' tk ⟨T, tk2, y, ev, big, hy, isT⟩ st' keep _ => ?_
    cases ev
    cases ha.symm.trans hy
    have two : 2 ≤ sizeLine := by decide
    have isT2 : h'.IsTuple T #[.int (i : Int) tk2, u] := by
      rw [Int.zero_add] at isT
      exact isT
    have fresh : H T = none := I.hok.fresh big
    refine ⟨.ref T, _, I.turnedNew (ch := [e, t]) (ob := .tup [.int (i : Nat), x]) keep young big ⟨two, [.int (i : Int) tk2, u], .cons ⟨tk2, rfl⟩ (.cons ru .nil), isT2⟩, rfl, ⟨T, x, rfl, fresh, rfl, fun ys hy => I.tuple_inj hq hy ▸ hx⟩, ⟨st.1, st'.2.1, st'.1⟩, fun b hb => ?_⟩
    obtain ⟨o, _, ho, _⟩ := st.cells b hb
    exact (upd_ne (Nat.ne_of_lt (Nat.lt_of_lt_of_le (Heap.lt_size ho) big))).trans (young b hb).1
  done := by
    rintro X rfl rfl rfl calm i pins s σ H E I young st ⟨xs, hq, rfl⟩
    obtain ⟨its, rv, p, -⟩ := I.tuple hq
    have hl : xs.length = its.toArray.size := by rw [List.size_toArray, rv.length]
    rw [hl] at st
    exact (st.goes (elts := elts) (kk := kk) (tpos := tpos) (I.ok.hd calm) p).stops s _ E ⟨st.2.2, st.2.1, p⟩ fun h' tk keep _ => I.turnedL (ch := [e, t]) keep young
theorem src_enumT {K : PySem.W.Frag} {a : Addr} {vs : List V} : Src (IteT K a) vs.length (fun i x H H' => ∃ T y, x = .ref T ∧ H T = none ∧ H' = upd H T (.tup [.int (i : Nat), y]) ∧ vs[i]? = some y) (fun H => H a = some (.tup vs)) where
  go := fun i H hi ok => ⟨vs, vs[i], SqT.of ok, by simp [hi]⟩
  yl := fun i H x H' hi ok ⟨T, y, e, n, e2, q⟩ => ⟨T, y, e, n, e2, q vs (SqT.of ok)⟩
  stop := fun H ok => ⟨vs, SqT.of ok, rfl⟩
theorem up_pa {X : Cx} {es : List Expr} {ta : TA} (h : PA X es ta) : PA X es fun σ H Q => ∃ Q0, ta σ H Q0 ∧ ∀ vs H1, Q0 vs H1 → Q vs H1 :=
  ⟨fun pos pins s σ H Q I ⟨Q0, q, k⟩ => thn (h.run pos pins s σ H Q0 I q) fun us s1 ⟨vs, H1, I1, r1, q1⟩ => ⟨vs, H1, I1, r1, k vs H1 q1⟩⟩
theorem up_pe {X : Cx} {e : Expr} {te : TE} (h : PE X e te) : PE X e fun σ H Q => ∃ Q0, te σ H Q0 ∧ ∀ vs H1, Q0 vs H1 → Q vs H1 :=
  ⟨fun pins s σ H Q I ⟨Q0, q, k⟩ => thn (h.run pins s σ H Q0 I q) fun us s1 ⟨vs, H1, I1, r1, q1⟩ => ⟨vs, H1, I1, r1, k vs H1 q1⟩⟩
theorem up_pi {X : Cx} {tg iter : Expr} {ti ti' : TI} (h : PI X tg iter ti) (k : ∀ σ H R, ti' σ H R → ti σ H R) : PI X tg iter ti' := ⟨fun pins s σ H R I q => h.run pins s σ H R I (k σ H R q)⟩
/-- a list or a tuple, walked -/
abbrev YSeq (vs : List V) : Nat → V → Hp → Hp → Prop := fun i x H H' => H' = H ∧ vs[i]? = some x
abbrev YEnum (vs : List V) : Nat → V → Hp → Hp → Prop := fun i x H H' => ∃ T y, x = .ref T ∧ H T = none ∧ H' = upd H T (.tup [.int (i : Nat), y]) ∧ vs[i]? = some y
abbrev YZip (vs ws : List V) : Nat → V → Hp → Hp → Prop := fun i x H H' => ∃ T y z, x = .ref T ∧ H T = none ∧ H' = upd H T (.tup [y, z]) ∧ vs[i]? = some y ∧ ws[i]? = some z
def SeqAt (H : Hp) (a : Addr) (vs : List V) : Prop := H a = some (.lst vs) ∨ H a = some (.tup vs)
def iSeqA (te : TE) : TI := fun σ H R => te σ H fun v H1 => ∃ a vs, v = .ref a ∧ SeqAt H1 a vs ∧ ∀ J Ok, Src J vs.length (YSeq vs) Ok → (∀ H', H' a = H1 a → Ok H') → R J H1
def iEnumB (ta : TA) : TI := fun σ H R => ta σ H fun us H1 => ∃ a vs, us = [.ref a] ∧ SeqAt H1 a vs ∧ ∀ J Ok, Src J vs.length (YEnum vs) Ok → (∀ H', H' a = H1 a → Ok H') → R J H1
def iZipB (ta : TA) : TI := fun σ H R => ta σ H fun us H1 => ∃ a b vs ws, us = [.ref a, .ref b] ∧ vs.length = ws.length ∧ ((H1 a = some (.lst vs) ∧ H1 b = some (.lst ws)) ∨ (H1 a = some (.tup vs) ∧ H1 b = some (.tup ws))) ∧ ∀ J Ok, Src J vs.length (YZip vs ws) Ok → (∀ H', H' a = H1 a → H' b = H1 b → Ok H') → R J H1
/-- the iterators made at a call are young: no one else knows them -/
theorem young_fp {X : Cx} {pins : List (Addr × Obj)} {σ : L2.St} {H : Hp} {s : Shared} (I : Inv X pins σ H s) {bs : List Addr} (h : ∀ b ∈ bs, s.heap.objs.size ≤ b) : ∀ b ∈ bs, FpOk X pins H b := fun b hb => I.fpOk (h b hb) (I.hok.fresh (h b hb))
theorem pi_enumB {X : Cx} {e : Expr} {ta : TA} {p pos tpos : Pos} {elts : List Expr} {kk : Nat} (hg : Gl X "enumerate") (hm : X.mg "enumerate" = none) (ha : PA X [e] ta) (plain : starEach [e] X.env = [(false, eval e X.env)] := by rfl) :
    PI X (.Tuple elts kk tpos) (.Call (.Name "enumerate" p) [e] [] pos) (iEnumB ta) where
  run pins s σ H R I h := Call_ (ld_blt I hg hm boot_enumerate (PyProof.Rows.callWith_type1 (thn (ha.run pos pins s σ H _ I h) fun us s1 ⟨vs, H1, I1, r1, a, xs, ev, at_, q⟩ => by
    rw [ev] at r1
    rw [Vals.ref1 r1]
    have fp := young_fp I1 (bs := [s1.heap.objs.size + 1, s1.heap.objs.size]) (by simp)
    rcases at_ with z | z
    · obtain ⟨its, rv, hb, -⟩ := I1.list (SqL.of (K := X.K) z)
      have B := begins_list a its.toArray
      refine enum_call B hb.isList (wpAny_pyIter_enum enumH_enum ?_)
      exact ⟨_, _, _, _, H1, rfl, I1.kept (t' := s1.toks) enumH_old, turn_enum a _ _, ⟨⟨.none, enumH_enum⟩, ⟨_, enumH_iter B.free, rfl, rfl⟩, Nat.succ_ne_self _⟩, fp, q _ _ src_enum fun H' w => w.trans z⟩
    · obtain ⟨its, rv, hb, -⟩ := I1.tuple (SqT.of (K := X.K) z)
      have B := begins_tuple a its.toArray
      refine enum_call B hb (wpAny_pyIter_enum enumH_enum ?_)
      exact ⟨_, _, _, _, H1, rfl, I1.kept (t' := s1.toks) enumH_old, turn_enumT a _ _, ⟨Nat.succ_ne_self _, ⟨_, enumH_iter B.free, rfl, rfl⟩, .none, enumH_enum⟩, fp, q _ _ src_enumT fun H' w => w.trans z⟩) plain rfl))
theorem pi_zipB {X : Cx} {e e2 : Expr} {ta : TA} {p pos tpos : Pos} {elts : List Expr} {kk : Nat} (hg : Gl X "zip") (hm : X.mg "zip" = none) (ha : PA X [e, e2] ta)
    (s2 : starEach [e, e2] X.env = (false, eval e X.env) :: starEach [e2] X.env := by rfl) (p2 : (backTo pos (starEach [e2] X.env)).any (·.1) = false := by rfl) : PI X (.Tuple elts kk tpos) (.Call (.Name "zip" p) [e, e2] [] pos) (iZipB ta) :=
  up_pi (RZ.pi_zipA hg hm (up_pa ha) s2 p2) fun σ H R q => ⟨_, q, fun us H1 ⟨a, b, vs, ws, ev, len, at_, k⟩ => ⟨a, b, vs, ws, ev,
    at_.imp (fun z => ⟨SqL.of z.1, SqL.of z.2, k _ _ (src_zipL len) fun H' u v => ⟨u.trans z.1, v.trans z.2⟩⟩) fun z => ⟨SqT.of z.1, SqT.of z.2, k _ _ (src_zipT len) fun H' u v => ⟨u.trans z.1, v.trans z.2⟩⟩⟩⟩
/-- the iterator o over what stands at a, made by iter(v) -/
theorem one_it {X : Cx} {pins : List (Addr × Obj)} {σ : L2.St} {H : Hp} {s : Shared} {tg : Expr} {J : It} {R : It → Hp → Prop} {tn : Nat → Heap → Prop} {o : Obj} (I : Inv X pins σ H s) (T : Turn X.prog X.w X.K tg J [s.heap.objs.size] s.heap.objs.size tn) (h0 : tn 0 (s.heap.push o)) (q : R J H) :
    PIE X pins σ tg R (.ref s.heap.objs.size) { s with heap := s.heap.push o } :=
  ⟨_, _, tn, J, H, rfl, I.kept (t' := s.toks) fun _ _ z => Heap.get?_push_of_some _ z, T, h0, young_fp I (by simp), q⟩
theorem pi_seqA {X : Cx} {tg e : Expr} {te : TE} (he : PE X e te) : PI X tg e (iSeqA te) where
  run pins s σ H R I h := thn (he.run pins s σ H _ I h) fun u s1 ⟨x, H1, I1, r1, a, vs, ev, at_, q⟩ => by
    subst ev
    cases r1
    rcases at_ with z | z
    · obtain ⟨its, rv, hb, -⟩ := I1.list (SqL.of (K := X.K) z)
      have B := begins_list a its.toArray
      exact wpAny_pyIter_list hb.isList (one_it I1 (turn_list a _) ⟨_, Heap.get?_push_size _ B.free, rfl, rfl⟩ (q _ _ src_list fun H' w => w.trans z))
    · obtain ⟨its, rv, hb, -⟩ := I1.tuple (SqT.of (K := X.K) z)
      have B := begins_tuple a its.toArray
      exact wpAny_pyIter_tuple (items := its.toArray) hb (one_it I1 (turn_tuple a _) ⟨_, Heap.get?_push_size _ B.free, rfl, rfl⟩ (q _ _ src_tup fun H' w => w.trans z))
/-- a sequence of data: what the view shows -/
theorem seqAt_ex {A : List Addr} {H H' : Hp} {a : Addr} {vs : List V} (h : SeqAt (wo A H) a vs) (s : Sub (wo A H) (wo A H')) : SeqAt (wo A H') a vs := by
  rcases h with h | h
  · exact .inl (s _ _ h)
  · exact .inr (s _ _ h)
theorem seqAt_of {A : List Addr} {H : Hp} {a : Addr} {vs : List V} (h : SeqAt (wo A H) a vs) : SeqAt H a vs := by
  rcases h with h | h
  · exact .inl (wo_at h)
  · exact .inr (wo_at h)
/-- it stands there still -/
theorem seqAt_same {A : List Addr} {H H' : Hp} {a : Addr} {vs : List V} (h : SeqAt (wo A H) a vs) (s : Sub (wo A H) (wo A H')) : H' a = H a := by
  rcases h with h | h
  · rw [wo_at h, wo_at (s _ _ h)]
  · rw [wo_at h, wo_at (s _ _ h)]
/-- a list or a tuple, by its items -/
theorem Rep.items {G : Hp} {d : PyData} {v : V} (r : Rep G d v) (h : (∃ ds, d = .list ds) ∨ ∃ ds, d = .tuple ds) : ∃ a vs ds, v = .ref a ∧ (d = .list ds ∧ G a = some (.lst vs) ∨ d = .tuple ds ∧ G a = some (.tup vs)) ∧ RepL G ds vs := by
  rcases h with ⟨ds, rfl⟩ | ⟨ds, rfl⟩
  · obtain ⟨a, vs, e, h, t⟩ := r
    exact ⟨a, vs, ds, e, .inl ⟨rfl, h⟩, t⟩
  · obtain ⟨a, vs, e, h, t⟩ := r
    exact ⟨a, vs, ds, e, .inr ⟨rfl, h⟩, t⟩
end K70
end
section
set_option maxHeartbeats 4000000
/-! Lists of texts in order; the greatest lots. No program here. -/
namespace K70
open PySem PySem.Spec PyProof.Rows
abbrev Lot := List Str
/-! ### texts in order -/
def leS (x y : Str) : Bool := decide (x.cps.toList ≤ y.cps.toList)
def srt (zs : Lot) : Lot := zs.mergeSort leS
theorem leS_total (x y : Str) : (leS x y || leS y x) = true := by
  unfold leS
  by_cases h : x.cps.toList ≤ y.cps.toList
  · simp [h]
  · have h2 : y.cps.toList ≤ x.cps.toList := by
      rcases List.le_total x.cps.toList y.cps.toList with q | q
      · exact absurd q h
      · exact q
    simp [h2]
theorem leS_trans (x y z : Str) (a : leS x y = true) (b : leS y z = true) : leS x z = true := by
  unfold leS at a b ⊢
  exact decide_eq_true (List.le_trans (of_decide_eq_true a) (of_decide_eq_true b))
theorem leS_anti {x y : Str} (a : leS x y = true) (b : leS y x = true) : x = y := by
  unfold leS at a b
  have e := List.le_antisymm (of_decide_eq_true a) (of_decide_eq_true b)
  obtain ⟨x⟩ := x
  obtain ⟨y⟩ := y
  have e : x.toList = y.toList := e
  exact congrArg Str.mk (Array.ext' e)
theorem srt_perm (zs : Lot) : (srt zs).Perm zs := List.mergeSort_perm zs leS
theorem srt_sorted (zs : Lot) : (srt zs).Pairwise fun a b => leS a b = true := List.pairwise_mergeSort leS_trans leS_total zs
theorem srt_one {xs ys : Lot} (p : xs.Perm ys) (h : xs.Pairwise fun a b => leS a b = true) : xs = srt ys :=
  (p.trans (srt_perm ys).symm).eq_of_pairwise (fun a b _ _ h1 h2 => leS_anti h1 h2) h (srt_sorted ys)
theorem srt_of_perm {xs ys : Lot} (p : xs.Perm ys) : srt xs = srt ys := srt_one ((srt_perm xs).trans p) (srt_sorted xs)
theorem srt_srt (xs : Lot) : srt (srt xs) = srt xs := srt_of_perm (srt_perm xs)
theorem mem_srt {x : Str} {zs : Lot} : x ∈ srt zs ↔ x ∈ zs := (srt_perm zs).mem_iff
theorem len_srt (zs : Lot) : (srt zs).length = zs.length := (srt_perm zs).length_eq
theorem rising_pair : ∀ {ys : Lot} {p : Str}, risingS p ys = true → (p :: ys).Pairwise fun a b => leS a b = true
  | [], p, _ => by simp
  | y :: ys, p, h => by
    have h2 : (!ltCps y.cps.toList p.cps.toList && risingS y ys) = true := h
    obtain ⟨h3, h4⟩ := Bool.and_eq_true_iff.mp h2
    have ih := rising_pair h4
    have hl : leS p y = true := by
      rw [ltCps_eq] at h3
      unfold leS
      have h5 : ¬ y.cps.toList < p.cps.toList := by simpa using h3
      exact decide_eq_true (List.not_lt.mp h5)
    refine List.pairwise_cons.mpr ⟨fun z hz => ?_, ih⟩
    rcases List.mem_cons.1 hz with e | hz
    · rw [e]
      exact hl
    · exact leS_trans _ _ _ hl ((List.pairwise_cons.mp ih).1 z hz)
theorem sorted_pair {ys : Lot} (h : sortedS ys = true) : ys.Pairwise fun a b => leS a b = true := by
  cases ys with
  | nil => exact List.Pairwise.nil
  | cons y r => exact rising_pair h
theorem srt_of {xs ys : Lot} (p : ys.Perm xs) (h : sortedS ys = true) : ys = srt xs := srt_one p (sorted_pair h)
end K70
end
section
set_option autoImplicit false
set_option maxHeartbeats 4000000
/-! sorted(xs, key=f), where a key may hold lists that stood ahead of the sort: the store of keys as it grows (Told), a turn, the whole. -/
namespace K70
open PySem PySem.Calls PyProof.Rows PySem.W
/-- f(x) has given v, which reads as d by things of g alone; nothing that stood is changed -/
structure KeyFrom (g : Heap) (d : PyData) (s₁ : Shared) (v : Value) (s₂ : Shared) : Prop where
  rest : ∃ h tk, s₂ = { s₁ with heap := h, toks := tk }
  kept : ∀ b o, s₁.heap.get? b = some o → s₂.heap.get? b = some o
  read : ∃ as, Reads s₂.heap v d as ∧ ∀ x ∈ as, g.get? x ≠ none
/-- the sort has begun at g: all of it but the list at a stands, that list is empty, the store at kS holds the keys ks of ds -/
structure Told (g : Heap) (a kS : Addr) (n : Nat) (ds : List PyData) (h : Heap) (ks : Array Value) : Prop where
  stands : KeepsBut a g h
  store : ∃ c, h.get? kS = some (seqObj "list" ks c)
  empty : h.get? a = some (seqObj "list" #[] n)
  are : EachIs (fun v d => alike d d = true ∧ ∃ as, Reads h v d as ∧ kS ∉ as) ks.toList ds
section
variable {g h : Heap} {a kS : Addr} {n : Nat} {ds : List PyData} {ks : Array Value}
theorem Told.size (T : Told g a kS n ds h ks) : ks.size = ds.length := by simpa using T.are.length
/-- more stands -/
theorem Told.more (T : Told g a kS n ds h ks) {h' : Heap} (k : ∀ b o, h.get? b = some o → h'.get? b = some o) : Told g a kS n ds h' ks :=
  ⟨T.stands.trans_all k, T.store.imp fun _ => k kS _, k a _ T.empty, T.are.mono fun _ _ ⟨l, as, r, out⟩ => ⟨l, as, Reads.keeps k r, out⟩⟩
/-- one key more is in the store -/
theorem Told.push (T : Told g a kS n ds h ks) (nk : g.get? kS = none) (ne : a ≠ kS) {v : Value} {d : PyData} (l : alike d d = true) {as : List Addr} (r : Reads h v d as) (out : kS ∉ as) :
    Told g a kS n (ds ++ [d]) (h.update kS (Obj.mapSeq fun xs => xs.push v)) (ks.push v) := by
  obtain ⟨c, hc⟩ := T.store
  have same := Heap.SameBut.update h kS (Obj.mapSeq fun xs => xs.push v)
  have other : ∀ b o, b ≠ kS → h.get? b = some o → (h.update kS (Obj.mapSeq fun xs => xs.push v)).get? b = some o := fun b o hb e => (same.2 b hb).trans e
  have on : ∀ {u : Value} {e : PyData} {bs : List Addr}, alike e e = true → Reads h u e bs → kS ∉ bs → Reads (h.update kS (Obj.mapSeq fun xs => xs.push v)) u e bs := fun le ru ob =>
    Reads.keepBut other (fun o e => by cases hc.symm.trans e; rfl) _ _ _ le ru ob
  refine ⟨T.stands.same same (.inr nk), ⟨_, get?_update_seq hc fun xs => xs.push v⟩, other a _ ne T.empty, ?_⟩
  rw [Array.toList_push]
  exact each_snoc (R := fun v d => alike d d = true ∧ ∃ as, Reads _ v d as ∧ kS ∉ as) ⟨l, as, on l r out, out⟩ (T.are.mono fun u e ⟨le, bs, ru, ob⟩ => ⟨le, bs, on le ru ob, ob⟩)
end
section
variable {prog : Program} {w : World} {A : Around} {E : Value → Shared → Prop} {s : Shared} {f : Value} {vs : List Value} {ds : List PyData}
/-- the keys are told in turn, then the library sorts by them -/
theorem keys_told {g g0 : Heap} {a kS : Addr} {n : Nat} {P : PySem.Fin → Shared → Prop} (T : Told g a kS n [] s.heap #[]) (nk : g.get? kS = none) (nk0 : g0.get? kS = none) (ne : a ≠ kS) (len : ds.length = vs.length) (small : vs.length ≤ sizeLine)
    (al : AllAlike ds) (so : Sortable ds) (deep : ∀ d ∈ ds, A.units + d.depth < cLine)
    (key : ∀ (i : Nat) (v : Value) (d : PyData), vs[i]? = some v → ds[i]? = some d → ∀ (h : Heap) (tk : Nat), KeepsBut a g h → wpAny (model prog w) A (call f [v]) (KeyFrom g0 d { s with heap := h, toks := tk }) (fun _ _ => False) { s with heap := h, toks := tk })
    (done : ∀ h tk out c, KeepsBut a g h → h.get? a = some (seqObj "list" (List.toArray out) c) → KeyedOut false ds vs out → P (.done (.ret .none)) { s with heap := h, toks := tk }) :
    wpAny (model prog w) A (ksk_rest a f false vs.toArray n (.ref kS)) P E s := by
  simp only [ksk_rest, List.forIn_toArray]
  refine wpAny_bind (wpAny_rule (wpAny_bind (ksk_fold (fun i s' => ∃ h tk ks, s' = { s with heap := h, toks := tk } ∧ Told g a kS n (ds.take i) h ks) vs 0 s ⟨s.heap, s.toks, #[], rfl, T⟩ (fun i v s' hv now => ?turn) fun s' now => ?last)))
  case turn =>
    rw [Nat.zero_add] at now ⊢
    obtain ⟨h, tk, ks, rfl, U⟩ := now
    have hi : i < ds.length := len ▸ (List.getElem?_eq_some_iff.mp hv).1
    have hd : ds[i]? = some ds[i] := List.getElem?_eq_getElem hi
    have room : ks.size ≤ sizeLine := by
      have q := U.size
      rw [List.length_take] at q
      omega
    refine wpAny_bind (wpAny_attempt (wpAny_mono (key i v _ hv hd h tk U.stands) (fun u s2 K => ?_) fun _ _ no => no.elim))
    obtain ⟨⟨h2, tk2, rfl⟩, kept, as, r, old⟩ := K
    obtain ⟨c, hc⟩ := (U.more kept).store
    have V := (U.more kept).push nk ne (al _ (List.getElem_mem hi) _ (List.getElem_mem hi)) r fun z => old kS z nk0
    rw [List.take_append_getElem hi] at V
    exact wpAny_bind (listUpdate_at hc rfl (wpAny_pure ⟨rfl, _, _, _, rfl, V⟩) room (by rw [Array.size_push]; exact Nat.succ_le_succ room))
  case last =>
    obtain ⟨h, tk, ks, rfl, U⟩ := now
    rw [Nat.zero_add, ← len, List.take_length] at U
    obtain ⟨c, hc⟩ := U.store
    have reads : EachIs (fun v d => ∃ as, Reads h v d as) ks.toList ds := U.are.mono fun v d ⟨_, as, r, _⟩ => ⟨as, r⟩
    exact wpAny_bind (listItems_at hc rfl (keyH_end (κ := dataKind h ds) U.stands nk hc U.empty ne.symm (SortsAt.data (s := { s with heap := h, toks := tk }) reads al so deep) (U.size.trans len) small
      fun h3 tk3 c3 k3 e3 => done h3 tk3 _ c3 k3 e3 ⟨h, ks.toList, al, rfl, reads⟩))
/-- sorted(xs, key=f), f an object -/
theorem sorted_from {l q : Addr} {Q : Value → Shared → Prop} (hl : s.heap.IsList l vs.toArray) (len : ds.length = vs.length) (small : vs.length ≤ sizeLine) (al : AllAlike ds) (so : Sortable ds) (deep : ∀ d ∈ ds, A.units + 2 + d.depth < cLine)
    (key : ∀ (i : Nat) (v : Value) (d : PyData), vs[i]? = some v → ds[i]? = some d → ∀ (h : Heap) (tk : Nat), (∀ b o, s.heap.get? b = some o → h.get? b = some o) →
      wpAny (model prog w) A.in1.in1 (call (.ref q) [v]) (KeyFrom s.heap d { s with heap := h, toks := tk }) (fun _ _ => False) { s with heap := h, toks := tk })
    (done : ∀ out h tk c, (∀ b o, s.heap.get? b = some o → h.get? b = some o) → h.get? (s.heap.objs.size + 1) = some (seqObj "list" (List.toArray out) c) → KeyedOut false ds vs out → Q (.ref (s.heap.objs.size + 1)) { s with heap := h, toks := tk }) :
    wpAny (model prog w) A (call (.builtin "sorted") [.ref l] [(Str.ofString "key", .ref q)]) Q E s := by
  refine sorted_of_sort hl small (ksk_s1 _ _) (fun x => ksk_l1 _ _) fun E' => ?_
  rw [ksk_t1]
  have at_ := copyHeap_at s.heap vs
  have below : ∀ {b o}, s.heap.get? b = some o → b ≠ s.heap.objs.size + 1 := fun e => Nat.ne_of_lt (Nat.lt_succ_of_lt (Heap.lt_size e))
  have past : ∀ {h : Heap}, KeepsBut (s.heap.objs.size + 1) (copyHeap s.heap vs) h → ∀ b o, s.heap.get? b = some o → h.get? b = some o := fun k b o e => k b o (below e) (copyHeap_old e)
  obtain ⟨n, none_⟩ : ∃ n, ((copyHeap s.heap vs).update (s.heap.objs.size + 1) (Obj.mapSeq fun _ => #[])).get? (s.heap.objs.size + 1) = some (seqObj "list" #[] n) := ⟨_, get?_update_seq at_ fun _ => #[]⟩
  have big : s.heap.objs.size + 1 < (copyHeap s.heap vs).objs.size := Heap.lt_size at_
  have wide : (((copyHeap s.heap vs).update (s.heap.objs.size + 1) (Obj.mapSeq fun _ => #[])).push (seqObj "tuple" vs.toArray 0)).objs.size = (copyHeap s.heap vs).objs.size + 1 := by
    rw [size_push', Heap.size_update]
  have T : Told (copyHeap s.heap vs) (s.heap.objs.size + 1) (((copyHeap s.heap vs).update (s.heap.objs.size + 1) (Obj.mapSeq fun _ => #[])).push (seqObj "tuple" vs.toArray 0)).objs.size n [] (sortingHeap (copyHeap s.heap vs) (s.heap.objs.size + 1) vs) #[] :=
    ⟨fun b o => sortingHeap_old, ⟨0, Heap.get?_push_size _ rfl⟩, Heap.get?_push_of_some _ (Heap.get?_push_of_some _ none_), .nil⟩
  have rest := keys_told (prog := prog) (w := w) (A := A.in1.in1) (E := E') (f := .ref q) (P := fun r s' => r = .done (.ret .none) ∧ Q (.ref (s.heap.objs.size + 1)) s') (s := { s with heap := sortingHeap (copyHeap s.heap vs) (s.heap.objs.size + 1) vs }) (g0 := s.heap) T
    (Heap.get?_none_of_le (by omega)) (Heap.get?_none_of_le (by omega)) (Nat.ne_of_lt (by omega)) len small al so deep (fun i v d hv hd h tk k => key i v d hv hd h tk (past k)) fun h tk out c k e o => ⟨rfl, done out h tk c (past k) e o⟩
  exact wpAny_bind (listItems_at at_ rfl (wpAny_bind (listUpdate_at at_ rfl (wpAny_bind (seqEpoch_at none_ rfl (wpAny_bind (wpAny_newTuple (wpAny_bind (wpAny_newList (wpAny_holding rest) (Nat.zero_le _))) small)))) (by rw [List.size_toArray]; exact small) (Nat.zero_le _))))
end
end K70
end
section
set_option maxHeartbeats 4000000
/-! A lambda made; the key (len(lot), lot). -/
namespace K70
open PySem PySem.Spec PyProof.Rows L2
variable [Tbs]
/-! ### a code object more in its table -/
/-- H, and a new code object at c, told by the table at P -/
def withCode (H : Hp) (P : Addr) (ps : Array Value) (pos : Pos) (c : Addr) (q : Str) : Hp := upd (upd H P (.tbl (ps ++ #[rawInt pos.line, rawInt pos.col, .ref c]))) c (LamX.CodeO c q)
section
variable {H : Hp} {P c : Addr} {ps : Array Value} {pos : Pos} {q : Str}
theorem withCode_else {b : Addr} (h1 : b ≠ P) (h2 : b ≠ c) : withCode H P ps pos c q b = H b := (upd_ne h2).trans (upd_ne h1)
theorem withCode_tab (h : P ≠ c) : withCode H P ps pos c q P = some (.tbl (ps ++ #[rawInt pos.line, rawInt pos.col, .ref c])) := (upd_ne h).trans upd_same
theorem withCode_old (hP : H P = some (.tbl ps)) (hc : H c = none) {b : Addr} {o : HO} (e : H b = some o) (n : ∀ xs, o ≠ .tbl xs) : withCode H P ps pos c q b = some o := by
  rw [withCode_else _ (ne_of_none e hc), e]
  rintro rfl
  cases hP.symm.trans e
  exact n ps rfl
theorem withCode_tabs (hP : H P = some (.tbl ps)) (hc : H c = none) (one : ∀ p ∈ Tbs.tabs, p.1 = P → p.2 = q) (hT : LamX.Tabs Tbs.tabs H) : LamX.Tabs Tbs.tabs (withCode H P ps pos c q) := by
  intro p hp
  obtain ⟨xs, e, ok, am⟩ := hT p hp
  have on : ∀ {p' : Pos} {cv : Value}, codeAmong p' xs.toList = some cv → ∃ d, cv = .ref d ∧ withCode H P ps pos c q d = some (LamX.CodeO d p.2) := fun h => (am _ _ h).imp fun d z => ⟨z.1, withCode_old hP hc z.2 LamX.codeO_ne⟩
  by_cases hb : p.1 = P
  · rw [hb, hP] at e
    cases e
    have eq : (ps ++ #[rawInt pos.line, rawInt pos.col, .ref c]).toList = ps.toList ++ [rawInt pos.line, rawInt pos.col, .ref c] := Array.toList_append
    refine ⟨_, (congrArg _ hb).trans (withCode_tab (ne_of_none hP hc)), eq ▸ TriplesOk_snoc _ _ _ _ ok, fun p' cv h => ?_⟩
    rw [eq] at h
    exact (LamX.among_app _ ok h).elim on fun z => ⟨c, z, one p hp hb ▸ upd_same⟩
  · exact ⟨xs, (withCode_else hb (ne_of_none e hc)).trans e, ok, fun _ _ => on⟩
theorem withCode_ex (hP : H P = some (.tbl ps)) (hc : H c = none) (one : ∀ p ∈ Tbs.tabs, p.1 = P → p.2 = q) (A : List Addr) : Ex A H (withCode H P ps pos c q) where
  old b o e := by
    obtain ⟨n, e, t⟩ := wo_iff.mp e
    exact wo_iff.mpr ⟨n, withCode_old hP hc e t, t⟩
  tab := withCode_tabs hP hc one
  dom b n := by
    by_cases h1 : b = P
    · rw [h1, withCode_tab (ne_of_none hP hc)]
      simp
    · rw [withCode_else h1 fun z => n (z ▸ hc)]
      exact n
end
/-! ### the making of a lambda -/
/-- X's code object is at c, its table at P, and that table tells lambdas of X alone -/
structure LamAt (X : Cx) (c P : Addr) : Prop where
  boot : LamX.TabB X.base X.mg c P
  here : X.env.code = .ref c
  told : (P, X.env.qual ++ "<lambda>") ∈ Tbs.tabs
  one : ∀ p ∈ Tbs.tabs, p.1 = P → p.2 = X.env.qual ++ "<lambda>"
abbrev lamO (X : Cx) (params : Arguments) (body : Expr) (scope : Scope) (c : Addr) (pm ctv : Value) : Obj := PySem.W.kla_obj "<lambda>" (X.env.qual ++ "<lambda>") params body scope (cloFrom X.env.cells scope.names []) pm c ctv
/-- the lambda stands at f, its code object at c -/
structure LamMade (X : Cx) (pins : List (Addr × Obj)) (σ : L2.St) (H : Hp) (params : Arguments) (body : Expr) (scope : Scope) (f c : Addr) (pm ctv : Value) (H1 : Hp) (s : Shared) : Prop where
  inv : Inv X pins σ H1 s
  ex : ∀ A, Ex A H H1
  tabs : LamX.Tabs Tbs.tabs H1
  obj : s.heap.get? f = some (lamO X params body scope c pm ctv)
  free : H1 f = none
  out : f ∉ frs X.stack
  code : H1 c = some (LamX.CodeO c (X.env.qual ++ "<lambda>"))
section
variable {X : Cx} {s : Shared} {H : Hp} {σ : L2.St} {pins : List (Addr × Obj)}
/-- what is new is no frame -/
theorem frs_out (I : Inv X pins σ H s) {f : Addr} (h : s.heap.objs.size ≤ f) : f ∉ frs X.stack := fun z =>
  (List.mem_cons.mp (I.stkSub f z)).elim (fun e => Nat.not_lt.mpr h (e ▸ I.lt)) (I.nofs h)
theorem lam_new {c P : Addr} {params : Arguments} {body : Expr} {scope : Scope} {at_ : Pos} {E Q : Value → Shared → Prop} (I : Inv X pins σ H s) (W : LamAt X c P) (hT : LamX.Tabs Tbs.tabs H) (plain : defaultsOf params X.env = ([], []))
    (free : ∀ y ∈ scope.names, y.2 = .free → ∃ c, X.env.cells.lookup y.1 = some c) (q : ∀ f d pm ctv H1 s1, LamMade X pins σ H params body scope f d pm ctv H1 s1 → Q (.ref f) s1) :
    wpAny (model X.prog X.w) X.A (eval (.Lambda params body scope at_) X.env) Q E s := by
  obtain ⟨ps, hP, ok, am⟩ := hT _ W.told
  have tab : s.heap.get? P = some { cls := .none, data := .fields ps } := I.hok P _ hP
  have globs := I.mod.glob.keeps I.bk
  refine PySem.W.kla_eval plain ?_
  cases known : codeAmong at_ ps.toList with
  | some cv =>
    obtain ⟨d, rfl, hd⟩ := am at_ cv known
    refine PySem.W.kla_makeFunctionHit (closure_ok free) I.ok.glob globs W.here (W.boot.code.keeps I.bk) tab ok known (W.boot.bm.keeps I.bk) fun ctv h tk grown big => q _ d ((X.mg "__name__").getD .none) ctv H _ ?_
    exact ⟨I.kept fun b o e => Heap.get?_push_of_some _ (grown b o e), fun A => .refl A H, hT, Heap.get?_push_size _ rfl, I.hok.fresh big, frs_out I big, hd⟩
  | none =>
    refine PySem.W.kla_makeFunction (closure_ok free) I.ok.glob globs W.here (W.boot.code.keeps I.bk) tab ok known W.boot.gP (W.boot.bm.keeps I.bk) fun d ctv h tk grown young below rec_ now => q _ d ((X.mg "__name__").getD .none) ctv (withCode H P ps at_ d (X.env.qual ++ "<lambda>")) _ ?_
    obtain ⟨_, oc, vs, t, er, hoc, hdt, hv⟩ := rec_
    cases er
    have hd : H d = none := I.hok.fresh young
    have big : s.heap.objs.size ≤ h.objs.size := Nat.le_trans young (Nat.le_of_lt below)
    have x := withCode_ex (pos := at_) hP hd W.one
    refine ⟨LamX.inv_table I hP (fun b o hb e => Heap.get?_push_of_some _ (grown b o hb e)) (Heap.get?_push_of_some _ now) young ⟨oc, vs, t, Heap.get?_push_of_some _ hoc, hdt, hv⟩, x, (x []).tab hT, Heap.get?_push_size _ rfl, ?_, frs_out I big, upd_same⟩
    rw [withCode_else (Nat.ne_of_gt (Nat.lt_of_lt_of_le (Heap.lt_size tab) big)) (Nat.ne_of_gt below)]
    exact I.hok.fresh big
/-! ### the key -/
def keyD (z : Lot) : PyData := .tuple [.int (z.length : Nat), ls z]
theorem reads_strs {h : Heap} : ∀ {z : Lot} {its : List Value}, Vals (z.map V.str) its → ReadsAll h its (z.map PyData.str) []
  | [], _, r => by
    cases r
    exact .nil
  | x :: z, _, r => by
    cases r with
    | cons r rr =>
      obtain ⟨t, rfl⟩ := r
      exact ReadsAll.cons (as := []) (bs := []) (.str x t) (reads_strs rr)
theorem lam_key (I : Inv X pins σ H s) {A : Around} (hdep : A.depth < recursionLimit) {h : Heap} {tk : Nat} (kp : ∀ b o, s.heap.get? b = some o → h.get? b = some o) {f c' : Addr} {pm ctv : Value} {q : Str} {params : Arguments} {scope : Scope} {cl : List (Str × Addr)} {p1 p2 p3 p4 p5 : Pos} {x1}
    (hf : s.heap.get? f = some (PySem.W.kla_obj "<lambda>" q params (.Tuple [.Call (.Name "len" p1) [.Name "lot" p2] [] p3, .Name "lot" p4] x1 p5) scope cl pm c' ctv)) (hc : H c' = some (LamX.CodeO c' q))
    (hbind : ∀ v : Value, bindArgs (PySem.W.kla_fn "<lambda>" q params (.Tuple [.Call (.Name "len" p1) [.Name "lot" p2] [] p3, .Name "lot" p4] x1 p5) scope cl pm (.ref c') ctv) ⟨[v], []⟩ = pure [(("lot" : Str), v)])
    (hk : scope.kind = .function) (co : scope.isCoroutine = false) (gen : scope.isGenerator = false) (hl : scope.names.lookup ("lot" : Str) = some .local) (hg : scope.names.lookup ("len" : Str) = some .globalImplicit) (nc : ∀ x ∈ scope.names, x.2 ≠ .cell) (hm : X.mg "len" = none)
    {b : Addr} {z : Lot} (hb : H b = some (.lst (z.map V.str))) :
    wpAny (model X.prog X.w) A (call (.ref f) [.ref b]) (KeyFrom s.heap (keyD z) { s with heap := h, toks := tk }) (fun _ _ => False) { s with heap := h, toks := tk } := by
  obtain ⟨zz, its, n, rv, hob⟩ := I.hok b _ hb
  obtain ⟨oc, vs, t, hoc, hdc, hvc⟩ := (I.hok c' _ hc).1
  obtain ⟨mb, hb1, hb2⟩ := I.mod.blt
  have kb : ∀ b o, X.base.get? b = some o → h.get? b = some o := fun b o e => kp b o (I.bk b o e)
  refine wpAny_call (PySem.W.kla_callFunE hdep (kp _ _ hf) rfl co gen rfl ⟨c', oc, vs, t, rfl, kp _ _ hoc, hdc, hvc⟩ ?_)
  rw [hbind]
  refine wpAny_pure (wpAny_newFunctionEnv nc (fun y hy => by rw [List.mem_singleton.mp hy]; exact hl) (fun h₁ hns hsb => ⟨(I.nolimit.keeps kp).fresh _ hsb, ?_⟩) hk)
  show codeAny _ _ (.expr _ (PySem.W.envX q scope h.objs.size f (.ref c') cl)) _ _
  have kp1 : ∀ b o, h.get? b = some o → h₁.get? b = some o := fun b o e => hsb.extBut b o (Nat.ne_of_lt (Heap.lt_size e)) (Heap.get?_push_of_some _ e)
  refine PySem.W.kla_codeExpr ?_
  have hlot : ∀ {A : Around} {E : Value → Shared → Prop} {pos : Pos} {tk : Nat} {Q : Value → Shared → Prop}, Q (.ref b) { s with heap := h₁, toks := tk } → wpAny (model X.prog X.w) A (eval (.Name "lot" pos) (PySem.W.envX q scope h.objs.size f (.ref c') cl)) Q E { s with heap := h₁, toks := tk } := fun hq =>
    wpAny_Name (wpAny_loadName_local (m := fun x => [(("lot" : Str), Value.ref b)].reverse.lookup x) hk hl hns rfl hq) (by decide)
  refine wpAny_Tuple_spliced (Calls.spliced_cons ?_)
  refine wpAny_Call_Name_kw (Calls.Name_function_global hk hg (Calls.loadGlobal_builtin (I.mod.glob.keeps fun b o e => kp1 b o (kb b o e)) hm (hb1.keeps fun b o e => kp1 b o (kb b o e)) ((hb2 "len" (by decide)).trans (by rfl : bootBuiltins "len" = some (.builtin "len"))) ?_) (by decide))
  refine PyProof.Rows.callWith_builtin1 (Calls.spliced_cons (hlot (Calls.spliced_nil ?_))) rfl rfl
  have hsz : its.length = z.length := by
    have := rv.length
    rw [List.length_map] at this
    exact this.symm
  have hob1 : h₁.get? b = some { cls := .type "list", data := .seq its.toArray n } := kp1 _ _ (kp _ _ hob)
  refine Calls.call_len_list (items := its.toArray) ⟨_, hob1, rfl, n, rfl⟩ (by
    have hn := line63
    rw [List.length_map] at zz
    rw [List.size_toArray, hsz]
    omega) ?_
  refine Calls.spliced_cons (hlot (Calls.spliced_nil ⟨by show 2 ≤ sizeLine; decide, ?_⟩))
  refine ⟨⟨_, _, rfl⟩, fun c o e => Heap.get?_push_of_some _ (kp1 _ _ e), [] ++ ([b] ++ []), ?_, fun x hx => ?_⟩
  · refine .tuple (Heap.get?_push_size _ rfl) rfl rfl ?_
    have e1 : ((its.toArray.size : Nat) : Int) = (z.length : Nat) := by rw [List.size_toArray, hsz]
    show ReadsAll _ [_, _] [_, _] _
    rw [e1]
    exact .cons (.int _ _) (.cons (.list (Heap.get?_push_of_some _ hob1) rfl rfl (reads_strs rv)) .nil)
  · have : x = b := by simpa using hx
    rw [this, hob]
    simp
end
theorem alike_strs : ∀ xs ys : Lot, PySem.W.alikeAll (xs.map .str) (ys.map .str) = true
  | [], _ => by simp [PySem.W.alikeAll]
  | _ :: _, [] => by simp [PySem.W.alikeAll]
  | x :: xs, y :: ys => by
    show PySem.W.alikeAll (.str x :: xs.map .str) (.str y :: ys.map .str) = true
    rw [PySem.W.alikeAll, alike_strs xs ys]
    simp [PySem.W.alike]
theorem depth_strs : ∀ xs : Lot, PyData.depthAll (xs.map .str) = 0
  | [] => (by simp [PyData.depthAll])
  | x :: xs => by
    show PyData.depthAll (.str x :: xs.map .str) = 0
    rw [PyData.depthAll, depth_strs xs]
    simp [PyData.depth]
theorem alike_keyD (x y : Lot) : PySem.W.alike (keyD x) (keyD y) = true := by
  unfold keyD
  simp [PySem.W.alike, PySem.W.alikeAll, alike_strs]
theorem depth_keyD (x : Lot) : (keyD x).depth ≤ 5 := by
  unfold keyD
  simp [PyData.depth, PyData.depthAll, depth_strs]
def leK (x y : Lot) : Bool := !(PySem.W.dataLt (keyD y) (keyD x))
/-- sorted(e, key=lambda lot: (len(lot), lot)) -/
def tSortKey (te : TE) : TE := fun σ H Q => te σ H fun v H1 => ∃ (a : Addr) (bs : List (Addr × Lot)), v = .ref a ∧ H1 a = some (.lst (bs.map fun b => V.ref b.1)) ∧ (∀ b ∈ bs, H1 b.1 = some (.lst (b.2.map V.str))) ∧ LamX.Tabs Tbs.tabs H1 ∧
  ∀ H2 p, (∀ A, Ex A H1 H2) → H2 p = none → Q (.ref p) (upd H2 p (.lst ((bs.mergeSort fun x y => leK x.2 y.2).map fun b => V.ref b.1)))
/-! ### sorted by that key -/
theorem each_refs {α : Type} (g : α → Addr) : ∀ {bs : List α} {its : List Value}, Vals (bs.map fun b => V.ref (g b)) its → PySem.W.EachIs (fun u b => u = .ref (g b)) its bs
  | [], _, r => by
    cases r
    exact .nil
  | b :: bs, _, r => by
    cases r with
    | cons r rs => exact .cons r (each_refs g rs)
theorem refs_each {α : Type} (g : α → Addr) : ∀ {bs : List α} {its : List Value}, PySem.W.EachIs (fun u b => u = .ref (g b)) its bs → Vals (bs.map fun b => V.ref (g b)) its
  | [], _, r => by
    cases r
    exact .nil
  | b :: bs, _, r => by
    cases r with
    | cons r rs => exact .cons r (refs_each g rs)
/-- the i-th of the items is the i-th address -/
theorem refs_at {α : Type} (g : α → Addr) {bs : List α} {its : List Value} (r : Vals (bs.map fun b => V.ref (g b)) its) {i : Nat} {u : Value} (h : its[i]? = some u) : ∃ b, bs[i]? = some b ∧ u = .ref (g b) := by
  induction bs generalizing its i with
  | nil =>
    cases r
    simp at h
  | cons b bs ih =>
    cases r with
    | cons r rs =>
      cases i with
      | zero =>
        cases h
        exact ⟨b, rfl, r⟩
      | succ i => exact ih rs h
section
variable {X : Cx}
/-- lambda lot: (len(lot), lot) -/
abbrev keyE (p1 p2 p3 p4 : Pos) (x1 : Nat) (p5 : Pos) : Expr := .Tuple [.Call (.Name "len" p1) [.Name "lot" p2] [] p3, .Name "lot" p4] x1 p5
/-- its names: lot its own, len the library's; no cells -/
structure KeyS (scope : Scope) : Prop where
  kind : scope.kind = .function
  noCo : scope.isCoroutine = false
  noGen : scope.isGenerator = false
  lot : scope.names.lookup ("lot" : Str) = some .local
  len : scope.names.lookup ("len" : Str) = some .globalImplicit
  flat : ∀ x ∈ scope.names, x.2 ≠ .cell ∧ x.2 ≠ .free
theorem pe_sortKey {c P : Addr} {params : Arguments} {scope : Scope} {p p1 p2 p3 p4 p5 lpos kpos pos : Pos} {x1 : Nat} {e : Expr} {te : TE} (hg : Gl X "sorted") (ms : X.mg "sorted" = none) (ml : X.mg "len" = none) (hr : Room 2 X.A) (he : PE X e te) (W : LamAt X c P) (S : KeyS scope) (plain : defaultsOf params X.env = ([], []))
    (takes : ∀ (q : Str) (cl : List (Str × Addr)) (pm cv ctv v : Value), bindArgs (PySem.W.kla_fn "<lambda>" q params (keyE p1 p2 p3 p4 x1 p5) scope cl pm cv ctv) ⟨[v], []⟩ = pure [(("lot" : Str), v)])
    (one : backTo pos (starEach [e] X.env) = (false, eval e X.env) :: backTo pos (starEach [] X.env) := by rfl) :
    PE X (.Call (.Name "sorted" p) [e] [⟨some "key", .Lambda params (keyE p1 p2 p3 p4 x1 p5) scope lpos, kpos⟩] pos) (tSortKey te) where
  run pins s σ H Q I h := by
    refine wpAny_Call_Name_kw (ld_blt I hg ms boot_sorted (PyProof.Rows.callWith_kw ?_ one (by rw [one]; rfl) rfl rfl))
    rw [one]
    refine Calls.spliced_cons (thn (he.run pins s σ H _ I h) fun u s1 ⟨v, H1, I1, r1, a, bs, ev, ha, hbs, hT, q⟩ => Calls.spliced_nil ?_)
    rw [ev] at r1
    cases r1
    refine wpAny_evalAll_cons (x := do let v ← eval (.Lambda params (keyE p1 p2 p3 p4 x1 p5) scope lpos) X.env; standAt pos; pure v) (wpAny_bind (lam_new I1 W hT plain (fun y hy z => absurd z (S.flat y hy).2) fun f d pm ctv H2 s2 M =>
      wpAny_bind (wpAny_standAt (wpAny_pure (wpAny_evalAll_nil ?_)))))
    obtain ⟨room, its, n, rv, hob⟩ := M.inv.hok a _ ((M.ex []).at ha)
    rw [List.length_map] at room
    have size : its.length = bs.length := by simpa using rv.length.symm
    have fresh := M.inv.hok.fresh (Nat.le_succ s2.heap.objs.size)
    refine sorted_from (ds := bs.map fun b => keyD b.2) (vs := its) ⟨_, hob, rfl, n, rfl⟩ (by rw [List.length_map, size]) (size ▸ room) (PySem.W.AllAlike.of fun x y => alike_keyD _ _) (PySem.W.Sortable.tuples fun b => ⟨_, _, rfl⟩) (fun d hd => ?deep) (fun i v d hv hd h tk k => ?key) fun out h tk c k hD ko => ?done
    case deep =>
      obtain ⟨b, _, rfl⟩ := List.mem_map.1 hd
      have h1 := hr.un
      have h2 := depth_keyD b.2
      omega
    case key =>
      obtain ⟨b, hb, rfl⟩ := refs_at (fun b : Addr × Lot => b.1) rv hv
      rw [List.getElem?_map, hb] at hd
      cases hd
      exact lam_key M.inv (A := X.A.in1.in1) hr.depth k M.obj M.code (fun v => takes _ _ _ _ _ v) S.kind S.noCo S.noGen S.lot S.len (fun x hx => (S.flat x hx).1) ml ((M.ex []).at (hbs b (List.mem_of_getElem? hb)))
    case done =>
      have sorted_ := PySem.W.keyedOut_each (fun b : Addr × Lot => keyD b.2) ko (each_refs (fun b : Addr × Lot => b.1) rv)
      exact ⟨.ref (s2.heap.objs.size + 1), upd H2 (s2.heap.objs.size + 1) (.lst ((bs.mergeSort fun x y => leK x.2 y.2).map fun b => V.ref b.1)), M.inv.laid (t' := tk) k (Nat.le_succ _) ⟨by
        rw [List.length_map, List.length_mergeSort]
        exact room, out, c, refs_each (fun b : Addr × Lot => b.1) sorted_, hD⟩, rfl, q H2 _ M.ex fresh⟩
end
/-- a def whose code object is known by its place -/
theorem ok_code {P : Program} {w : World} {K : PySem.W.Frag} {mg : Str → Option Value} {base : Heap} {x qual : Str} {params : Arguments} {body : List Stmt} {scope : Scope} {dvs : List V} {kws : List (Str × V)} {f : Addr} {fd : FuncData} {CX : CXT} {N ps : List Str} {k : Nat} {sp : Sp} (F : L2.FunD K x qual params body scope dvs kws f fd) {p : He.Defn} (hp : He.fAd K p = f) (S : FnScope N ps scope) (len : ∀ vs H Q E, sp vs H Q E → vs.length = ps.length)
    (hbody : ∀ (A : Around) (outer : List Env) (s : Shared) (H : Hp) (vs : List V) (Q : VK) (E : XK), Room k (A.deeper (envOfC qual scope s.heap.objs.size f (.ref (He.cT K p).1))) → sp vs H Q E →
      ∃ t, PSs (cxOf CX P w K mg base N qual scope f (.ref (He.cT K p).1) A outer s H E) body t ∧ t { nx := fun _ H' => Q .non H', rt := Q } (L2.start N vs) H) : FnOk P w K mg base CX (k + 1) f fd ps sp := by
  obtain ⟨_, _, _, _, _, _, _, cdv, _, _, rfl, lk, hcd, -, -⟩ := F.ex
  obtain ⟨c, rfl⟩ := He.codeIn_ref hcd
  have e : He.codeOf K p = c := He.codeOf_eq (by rw [hp]; exact lk) rfl
  subst e
  exact fn_of lk hcd S len fun A outer s H vs Q E hr hsp => hbody A outer s H vs Q E hr hsp
theorem hu64 {A : Around} {k : Nat} (hr : Room k A) : A.units + 64 < cLine := hr.units
theorem hu65 {A : Around} {k : Nat} (hr : Room k A) : A.units + 65 < cLine := by have := hr.un; omega
end K70
end
section
set_option maxHeartbeats 4000000
/-! sorted of a list or a tuple of texts; sorted of pairs (length, list). -/
namespace K70
open PySem PySem.Spec PyProof.Rows L2
variable [Tbs]
section
variable {prog : Program} {w : World} {A : Around} {E : Value → Shared → Prop} {s : Shared} {t : Addr} {vs : List Value}
/-- the heap in which a new list has taken the items vs -/
abbrev tookH (h : Heap) (vs : List Value) : Heap := (h.push (seqObj "list" #[] 0)).update h.objs.size (Obj.mapSeq (· ++ vs.toArray))
/-- collect(t), t a tuple: the items, by way of a new list -/
theorem collect_tup {Q : List Value → Shared → Prop} (ht : s.heap.IsTuple t vs.toArray) (room : vs.length ≤ sizeLine) (q : Q vs { s with heap := tookH s.heap vs }) : wpAny (model prog w) A (collect (.ref t)) Q E s := by
  obtain ⟨o, at_, cls, n, data⟩ := ht
  have mine : (s.heap.push (seqObj "list" #[] 0)).get? s.heap.objs.size = some (seqObj "list" #[] 0) := Heap.get?_push_size _ rfl
  have its := Heap.get?_push_of_some (seqObj "list" #[] 0) at_
  have all_ : ((#[] : Array Value) ++ vs.toArray).toList = vs := by simp
  have small : ((#[] : Array Value) ++ vs.toArray).size ≤ sizeLine + 1 := by
    rw [← Array.length_toList, all_]
    exact Nat.le_succ_of_le room
  have done : wpAny (model prog w) A (pure ((#[] : Array Value) ++ vs.toArray).toList) Q E { s with heap := tookH s.heap vs } := wpAny_pure (all_.symm ▸ q)
  have extend : ∀ {A' : Around} {R : Fin → Shared → Prop} {E' : Value → Shared → Prop}, R (.done (.ret (.ref s.heap.objs.size))) { s with heap := tookH s.heap vs } →
      wpAny (model prog w) A' (Builtin.List.listExtendWith (.ref s.heap.objs.size) (.ref t) (.ref s.heap.objs.size)) R E' { s with heap := s.heap.push (seqObj "list" #[] 0) } := fun r =>
    wpAny_bind (wpAny_typeOf (T := "tuple") ⟨o, its, cls⟩ (by
      simp only [beq_self_eq_true, Bool.or_true, if_true]
      exact wpAny_bind (listItems_at its data (wpAny_bind (listItems_at mine rfl (wpAny_bind (listUpdate_at mine rfl (wpAny_pure r) (Nat.zero_le _) small)))))))
  unfold collect
  refine wpAny_bind (wpAny_runValue (codeAny_builtin entry_proto_collect' (?_ : wpAny _ _ (newList [] >>= fun l => again (.builtin "list.__iadd__" ⟨[l, .ref t], []⟩)) _ _ s)))
  exact wpAny_bind (wpAny_newList (wpAny_pure ⟨Code.quiet_builtin _ (by decide +kernel), codeAny_builtin entry_list_iadd' (extend (wpAny_bind (wpAny_load (get?_update_seq mine _) done)))⟩) (Nat.zero_le _))
/-- sorted(t), t a tuple of texts -/
theorem sorted_tup {ss : List Str} {Q : Value → Shared → Prop} (ht : s.heap.IsTuple t vs.toArray) (are : StrsAre vs ss) (room : vs.length ≤ sizeLine)
    (q : ∀ (out : Array Value) (zs : List Str), StrsAre out.toList zs → zs.Perm ss → sortedS zs = true → Q (.ref (s.heap.objs.size + 1)) { s with heap := sortedAll s.heap vs out }) : wpAny (model prog w) A (call (.builtin "sorted") [.ref t]) Q E s := by
  have at_ : (PySem.W.copyHeap s.heap vs).get? (s.heap.objs.size + 1) = some (seqObj "list" vs.toArray 0) := PySem.W.copyHeap_at s.heap vs
  have next : (tookH s.heap vs).objs.size = s.heap.objs.size + 1 := (Heap.size_update ..).trans (Heap.size_push ..)
  have sort : ∀ {A' : Around} {E' : Value → Shared → Prop}, wpAny (model prog w) A' (Builtin.«list.sort» ⟨[.ref (s.heap.objs.size + 1)], []⟩) (fun r s' => r = .done (.ret .none) ∧ Q (.ref (s.heap.objs.size + 1)) s') E' { s with heap := PySem.W.copyHeap s.heap vs } := fun {A' E'} =>
    list_sort_treeKAny strKind_oneLt at_ are.keysOf (fun x y r e => keyKind_strs (e ▸ are)) room fun st p o => by
      obtain ⟨zs, h1, h2, h3⟩ := sorted_out_str are p o
      exact ⟨rfl, q _ zs h1 h2 h3⟩
  refine Calls.call_function_entry kind_sorted plain_sorted entry_sorted (args_sorted1 _) (wpAny_bind (m := checkCount "sorted" 1 1 _) (wpAny_pure (wpAny_bind (collect_tup ht room (wpAny_bind (wpAny_newList ?_ room))))))
  rw [next]
  exact wpAny_bind (wpAny_holding (wpAny_call_entry slot_list_sort ⟨_, at_, rfl⟩ entry_list_sort (wpAny_mono sort (fun r s' h => ⟨.none, h.1, wpAny_pure ⟨_, rfl, h.2⟩⟩) fun _ _ e => e) (args_list_sort _)))
end
section
variable {X : Cx}
/-- a new list in the place where sorted puts its own -/
theorem sorted_laid {pins : List (Addr × Obj)} {σ : L2.St} {H : Hp} {s : Shared} (I : Inv X pins σ H s) {vs : List V} {its out : List Value} (room : vs.length ≤ sizeLine) (r : Vals vs out) {Q : VK} (q : ∀ p, H p = none → Q (.ref p) (upd H p (.lst vs))) :
    EP X pins σ Q (.ref (s.heap.objs.size + 1)) { s with heap := sortedAll s.heap its out.toArray } := by
  obtain ⟨n, at_⟩ := sortedAll_at s.heap its out.toArray
  exact ⟨.ref (s.heap.objs.size + 1), _, I.laid (t' := s.toks) (o := .lst vs) (fun _ _ => sortedAll_old) (Nat.le_succ _) ⟨room, out, n, r, at_⟩, rfl, q _ (I.hok.fresh (Nat.le_succ _))⟩
theorem cr_sortedQ : CallR X (.builtin "sorted") (fun vs H Q => ∃ (a : Addr) (zs : Lot), vs = [.ref a] ∧ SeqAt H a (zs.map V.str) ∧ ∀ p, H p = none → Q (.ref p) (upd H p (.lst ((srt zs).map V.str)))) := by
  rintro pins s σ H _ us Q I r ⟨a, zs, rfl, at_, q⟩
  rw [Vals.ref1 r]
  have fin : ∀ {its : List Value}, (zs.map V.str).length ≤ sizeLine → ∀ (out : Array Value) (ys : List Str), StrsAre out.toList ys → ys.Perm zs → sortedS ys = true → EP X pins σ Q (.ref (s.heap.objs.size + 1)) { s with heap := sortedAll s.heap its out } := fun room out ys h1 h2 h3 => by
    cases srt_of h2 h3
    rw [List.length_map, ← h2.length_eq] at room
    exact sorted_laid (out := out.toList) I (by rw [List.length_map]; exact room) (vals_of_strs h1) q
  rcases at_ with z | z
  · obtain ⟨its, rv, p, room⟩ := I.list (SqL.of (K := X.K) z)
    exact sorted_strsAny p.isList rv.strs (rv.length ▸ room) (fin room)
  · obtain ⟨its, rv, p, room⟩ := I.tuple (SqT.of (K := X.K) z)
    exact sorted_tup (vs := its) p rv.strs (rv.length ▸ room) (fin room)
/-- sorted(ps), each a pair of the length and the list -/
theorem cr_sortedP (hr : Room 1 X.A) : CallR X (.builtin "sorted") (fun vs H Q => ∃ (a : Addr) (bs : List (Addr × Addr × Lot)), vs = [.ref a] ∧ H a = some (.lst (bs.map fun b => V.ref b.1)) ∧ (∀ b ∈ bs, H b.1 = some (.tup [.int (b.2.2.length : Nat), .ref b.2.1]) ∧ H b.2.1 = some (.lst (b.2.2.map V.str))) ∧
    ∀ p, H p = none → Q (.ref p) (upd H p (.lst ((bs.mergeSort fun x y => leK x.2.2 y.2.2).map fun b => V.ref b.1)))) := by
  rintro pins s σ H _ us Q I r ⟨a, bs, rfl, ha, pairs, q⟩
  rw [Vals.ref1 r]
  obtain ⟨room, its, n, rv, hob⟩ := I.hok a _ ha
  rw [List.length_map] at room
  have reads : ∀ b ∈ bs, ∃ as, Reads s.heap (.ref b.1) (keyD b.2.2) as := fun b hb => by
    obtain ⟨h1, h2⟩ := pairs b hb
    obtain ⟨_, zs, m, rz, oz⟩ := I.hok _ _ h2
    obtain ⟨two, r2, ⟨o, ho, hc, k, hd⟩, _⟩ := I.tuple (SqT.of (K := X.K) h1)
    match two, r2 with
    | _, .cons ⟨t, rfl⟩ (.cons rfl .nil) => exact ⟨_, .tuple ho hc hd (.cons (.int _ t) (.cons (.list oz rfl rfl (reads_strs rz)) .nil))⟩
  have each := each_refs (fun b : Addr × Addr × Lot => b.1) rv
  have told : PySem.W.EachIs (fun u (b : Addr × Addr × Lot) => ∃ as, Reads s.heap u (keyD b.2.2) as) its bs := (PySem.W.each_mem each).mono fun u b ⟨e, hb⟩ => e ▸ reads b hb
  refine PySem.W.sorted_data (enc := fun b : Addr × Addr × Lot => keyD b.2.2) ⟨_, hob, rfl, n, rfl⟩ each told (PySem.W.AllAlike.of fun x y => alike_keyD _ _) (PySem.W.Sortable.tuples fun b => ⟨_, _, rfl⟩) room (fun b _ => ?_) fun out _ o => ?_
  · have h1 := hr.un
    have h2 := depth_keyD b.2.2
    omega
  · exact sorted_laid (out := out) I (by rw [List.length_map, List.length_mergeSort]; exact room) (refs_each (fun b : Addr × Addr × Lot => b.1) (bs := bs.mergeSort fun x y => leK x.2.2 y.2.2) o) q
end
end K70
end
section
set_option maxHeartbeats 4000000
/-! Rules whose readings name the heap alone. -/
namespace K70
open PySem PySem.Spec PyProof.Rows L2
variable [Tbs]
/-- x is the data d, which == and in may walk -/
def DatAt (H : Hp) (d : PyData) (x : V) : Prop := (∃ A, Rep (wo A H) d x) ∧ pure_ d = true ∧ SeqAt.shaped d = true
theorem DatAt.dp {K : PySem.W.Frag} {H : Hp} {d : PyData} {x : V} (h : DatAt H d x) : Dp K H x d := h.1.elim fun A r => r.dp h.2.1
theorem seq_or {K : PySem.W.Frag} {H : Hp} {a : Addr} {vs : List V} (h : SeqAt H a vs) : SqL K H a vs ∨ SqT K H a vs := h.elim (fun h => .inl (SqL.of h)) (fun h => .inr (SqT.of h))
section
variable {X : Cx}
def rInS (neg : Bool) : R2 := fun x y H Q => ∃ p xs, y = .ref p ∧ SeqAt H p xs ∧ flatV x = true ∧ xs.all flatV = true ∧ Q (.bl (if neg then !inV x xs else inV x xs)) H
theorem op_inS : OpR X (compareOp .In) (rInS false) := fun pins s σ H x y v u Q I rx ry ⟨p, xs, e, h, f, fs, q⟩ => op_in_seq pins s σ H x y v u Q I rx ry ⟨p, xs, e, seq_or h, f, fs, q⟩
theorem op_notInS : OpR X (compareOp .NotIn) (rInS true) := fun pins s σ H x y v u Q I rx ry ⟨p, xs, e, h, f, fs, q⟩ => op_notIn_seq pins s σ H x y v u Q I rx ry ⟨p, xs, e, seq_or h, f, fs, q⟩
def rEqR (neg : Bool) : R2 := fun x y H Q => ∃ d e, DatAt H d x ∧ DatAt H e y ∧ Q (.bl (if neg then !PyData.eqv d e else PyData.eqv d e)) H
theorem op_eqR (hu : X.A.units + 64 < cLine) : OpR X (compareOp .Eq) (rEqR false) := fun pins s σ H x y v u Q I rx ry ⟨d, e, h1, h2, q⟩ => op_eqD hu pins s σ H x y v u Q I rx ry ⟨d, e, h1.dp, h2.dp, h1.2.2, h2.2.2, q⟩
theorem op_neR (hu : X.A.units + 64 < cLine) : OpR X (compareOp .NotEq) (rEqR true) := fun pins s σ H x y v u Q I rx ry ⟨d, e, h1, h2, q⟩ => op_neD hu pins s σ H x y v u Q I rx ry ⟨d, e, h1.dp, h2.dp, h1.2.2, h2.2.2, q⟩
def rInR (neg : Bool) : R2 := fun x y H Q => ∃ d ds, DatAt H d x ∧ DatAt H (.list ds) y ∧ Q (.bl (if neg then !(ds.any fun z => PyData.eqv z d) else ds.any fun z => PyData.eqv z d)) H
theorem op_inR (hu : X.A.units + 65 < cLine) : OpR X (compareOp .In) (rInR false) := fun pins s σ H x y v u Q I rx ry ⟨d, e, h1, h2, q⟩ => op_inD hu pins s σ H x y v u Q I rx ry ⟨d, e, h1.dp, h2.dp, h1.2.2, h2.2.2, q⟩
theorem op_notInR (hu : X.A.units + 65 < cLine) : OpR X (compareOp .NotIn) (rInR true) := fun pins s σ H x y v u Q I rx ry ⟨d, e, h1, h2, q⟩ => op_notInD hu pins s σ H x y v u Q I rx ry ⟨d, e, h1.dp, h2.dp, h1.2.2, h2.2.2, q⟩
theorem call_lenS : CallR X (.builtin "len") (fun xs H Q => ∃ p ys, xs = [.ref p] ∧ SeqAt H p ys ∧ Q (.int ys.length) H) := fun pins s σ H xs us Q I r ⟨p, ys, e, h, q⟩ => call_len_seq pins s σ H xs us Q I r ⟨p, ys, e, seq_or h, q⟩
theorem call_listS : CallR X (.type "list") (fun xs H Q => ∃ p ys, xs = [.ref p] ∧ SeqAt H p ys ∧ ∀ l, H l = none → Q (.ref l) (upd H l (.lst ys))) := fun pins s σ H xs us Q I r ⟨p, ys, e, h, q⟩ => call_list_of pins s σ H xs us Q I r ⟨p, ys, e, seq_or h, q⟩
theorem call_tupleS : CallR X (.type "tuple") (fun xs H Q => ∃ p ys, xs = [.ref p] ∧ H p = some (.lst ys) ∧ ∀ l, H l = none → Q (.ref l) (upd H l (.tup ys))) := fun pins s σ H xs us Q I r ⟨p, ys, e, h, q⟩ => call_tuple_of pins s σ H xs us Q I r ⟨p, ys, e, .inl ⟨SqL.of h, q⟩⟩
theorem cr_allS (hc : X.calm = true) : CallR X (.builtin "all") (fun vs H Q => ∃ (a : Addr) (bs : List Bool), vs = [V.ref a] ∧ H a = some (.lst (bs.map V.bl)) ∧ Q (.bl (bs.all id)) H) := fun pins s σ H xs us Q I r ⟨a, bs, e, h, q⟩ => cr_all hc pins s σ H xs us Q I r ⟨a, bs, e, SqL.of h, q⟩
theorem cr_anyS (hc : X.calm = true) : CallR X (.builtin "any") (fun vs H Q => ∃ (a : Addr) (bs : List Bool), vs = [V.ref a] ∧ H a = some (.lst (bs.map V.bl)) ∧ Q (.bl (bs.any id)) H) := fun pins s σ H xs us Q I r ⟨a, bs, e, h, q⟩ => cr_any hc pins s σ H xs us Q I r ⟨a, bs, e, SqL.of h, q⟩
def rIxS : R2 := fun x y H Q => ∃ p xs i v, x = .ref p ∧ y = .int i ∧ H p = some (.lst xs) ∧ atI xs i = some v ∧ Q v H
theorem ix_listS : IxR X rIxS := fun vl sl pins s σ H x y v u Q I rx ry ⟨p, xs, i, z, e1, e2, h, a, q⟩ hs => ix_list vl sl pins s σ H x y v u Q I rx ry ⟨p, xs, i, z, e1, e2, SqL.of h, a, q⟩ hs
def rSlS : V → Option Int → Option Int → Hp → VK → Prop := fun x lo hi H Q => ∃ a xs, x = .ref a ∧ H a = some (.lst xs) ∧ ∀ p, H p = none → Q (.ref p) (upd H p (.lst (cutV xs lo hi)))
theorem sl_listS : SlR X rSlS := fun pins s σ H x v vl vu lo hi sl Q I rx hs pl pu ⟨a, xs, e, h, q⟩ => sl_list pins s σ H x v vl vu lo hi sl Q I rx hs pl pu ⟨a, xs, e, SqL.of h, q⟩
end
/-! ### slices -/
theorem cut_to {xs : List V} (n : Nat) : cutV xs none (some (n : Int)) = xs.take n := by
  unfold cutV
  rw [HT.sIx_none, HT.sIx_nat, List.drop_zero, Nat.sub_zero]
  rcases Nat.le_total n xs.length with h | h
  · rw [Nat.min_eq_left h]
  · rw [Nat.min_eq_right h, List.take_length, List.take_of_length_le h]
theorem cut_from {xs : List V} (n : Nat) : cutV xs (some (n : Int)) none = xs.drop n := by
  unfold cutV
  rw [HT.sIx_none, HT.sIx_nat]
  rcases Nat.le_total n xs.length with h | h
  · rw [Nat.min_eq_left h]
    exact List.take_of_length_le (by simp only [List.length_drop]; omega)
  · rw [Nat.min_eq_right h, List.drop_length, List.drop_of_length_le h]
    simp
/-! ### data that == and in may walk -/
def okLot (z : Lot) : Prop := ∀ y ∈ z, PyData.strOk y = true
theorem pureL_strs : ∀ z : Lot, pureL (z.map .str) = true
  | [] => rfl
  | _ :: z => pureL_strs z
theorem lay_strs : ∀ {z : Lot}, okLot z → PyData.canLayAll0 (z.map .str) = true
  | [], _ => rfl
  | x :: z, h => by
    show (PyData.canLay0 (.str x) && PyData.canLayAll0 (z.map .str)) = true
    rw [lay_strs (fun y hy => h y (List.mem_cons_of_mem _ hy))]
    have := h x (List.mem_cons_self ..)
    simp [PyData.canLay0, this]
theorem depth_ls (z : Lot) : (ls z).depth ≤ 1 := by simp [PyData.depth, depth_strs]
theorem pureL_lss : ∀ bs : List Lot, pureL (bs.map ls) = true
  | [] => rfl
  | b :: bs => by
    show (pure_ (ls b) && pureL (bs.map ls)) = true
    rw [pureL_lss bs, show pure_ (ls b) = pureL (b.map .str) from rfl, pureL_strs]
    rfl
theorem lay_lss : ∀ {bs : List Lot}, (∀ b ∈ bs, okLot b) → PyData.canLayAll0 (bs.map ls) = true
  | [], _ => rfl
  | b :: bs, h => by
    show (PyData.canLay0 (ls b) && PyData.canLayAll0 (bs.map ls)) = true
    rw [lay_lss (fun y hy => h y (List.mem_cons_of_mem _ hy)), show PyData.canLay0 (ls b) = PyData.canLayAll0 (b.map .str) by simp [PyData.canLay0], lay_strs (h b (List.mem_cons_self ..))]
    rfl
theorem depth_lss : ∀ bs : List Lot, PyData.depthAll (bs.map ls) ≤ 1
  | [] => (by simp [PyData.depthAll])
  | b :: bs => by
    show PyData.depthAll (ls b :: bs.map ls) ≤ 1
    rw [PyData.depthAll]
    have h1 := depth_ls b
    have h2 := depth_lss bs
    omega
theorem shaped_ls {z : Lot} (h : okLot z) : SeqAt.shaped (ls z) = true := by
  unfold SeqAt.shaped
  rw [show PyData.canLay0 (ls z) = PyData.canLayAll0 (z.map .str) by simp [PyData.canLay0], lay_strs h]
  have := depth_ls z
  simp only [Bool.true_and, decide_eq_true_eq]
  omega
theorem shaped_lls {bs : List Lot} (h : ∀ b ∈ bs, okLot b) : SeqAt.shaped (lls bs) = true := by
  unfold SeqAt.shaped
  rw [show PyData.canLay0 (lls bs) = PyData.canLayAll0 (bs.map ls) by simp [PyData.canLay0], lay_lss h]
  have := depth_lss bs
  have e : (lls bs).depth = PyData.depthAll (bs.map ls) + 1 := by simp [PyData.depth]
  simp only [Bool.true_and, decide_eq_true_eq]
  rw [e]
  omega
theorem datAt_ls {A : List Addr} {H : Hp} {z : Lot} {v : V} (r : Rep (wo A H) (ls z) v) (h : okLot z) : DatAt H (ls z) v := ⟨⟨A, r⟩, pureL_strs z, shaped_ls h⟩
theorem datAt_lls {A : List Addr} {H : Hp} {bs : List Lot} {v : V} (r : Rep (wo A H) (lls bs) v) (h : ∀ b ∈ bs, okLot b) : DatAt H (lls bs) v := ⟨⟨A, r⟩, pureL_lss bs, shaped_lls h⟩
theorem eqv_strs : ∀ x y : Lot, PyData.eqvAll (x.map .str) (y.map .str) = decide (x = y)
  | [], [] => (by simp [PyData.eqvAll])
  | [], _ :: _ => (by simp [PyData.eqvAll])
  | _ :: _, [] => (by simp [PyData.eqvAll])
  | a :: x, b :: y => by
    show PyData.eqvAll (.str a :: x.map .str) (.str b :: y.map .str) = _
    rw [PyData.eqvAll, eqv_strs x y]
    have e : PyData.eqv (.str a) (.str b) = decide (a = b) := by
      simp only [PyData.eqv]
      by_cases h : a = b <;> simp [h]
    rw [e]
    by_cases h : a = b <;> by_cases h2 : x = y <;> simp [h, h2]
theorem eqv_ls (x y : Lot) : PyData.eqv (ls x) (ls y) = decide (x = y) := by
  show PyData.eqv (.list _) (.list _) = _
  simp only [PyData.eqv]
  exact eqv_strs x y
theorem eqv_lss : ∀ x y : List Lot, PyData.eqvAll (x.map ls) (y.map ls) = decide (x = y)
  | [], [] => (by simp [PyData.eqvAll])
  | [], _ :: _ => (by simp [PyData.eqvAll])
  | _ :: _, [] => (by simp [PyData.eqvAll])
  | a :: x, b :: y => by
    show PyData.eqvAll (ls a :: x.map ls) (ls b :: y.map ls) = _
    rw [PyData.eqvAll, eqv_lss x y, eqv_ls]
    by_cases h : a = b <;> by_cases h2 : x = y <;> simp [h, h2]
theorem eqv_lls (x y : List Lot) : PyData.eqv (lls x) (lls y) = decide (x = y) := by
  show PyData.eqv (.list _) (.list _) = _
  simp only [PyData.eqv]
  exact eqv_lss x y
theorem any_lss (bs : List Lot) (z : Lot) : ((bs.map ls).any fun d => PyData.eqv d (ls z)) = decide (z ∈ bs) := by
  rw [List.any_map]
  induction bs with
  | nil => simp
  | cons b bs ih =>
    rw [List.any_cons, ih]
    show (PyData.eqv (ls b) (ls z) || _) = _
    rw [eqv_ls, show decide (b = z) = decide (z = b) from decide_eq_decide.mpr ⟨fun e => e.symm, fun e => e.symm⟩]
    by_cases h : z = b <;> by_cases h2 : z ∈ bs <;> simp [h, h2]
end K70
end
section
set_option maxHeartbeats 4000000
/-! == and != by a class's own __eq__, both answers. -/
namespace K70
open PySem PySem.Spec PyProof.Rows L2
variable [Tbs]
/-! ### != of an object whose class has an __eq__ of its own and object's __ne__ -/
section
variable {prog : Program} {w : World} {A : Around} {E : Value → Shared → Prop} {s : Shared} {K : PySem.W.Frag} {x C f : Addr} {ox : Obj} {od : Option Obj} {b tb : Value}
/-- what is known of x and its class -/
structure OwnEq (K : PySem.W.Frag) (s : Shared) (x C f : Addr) (ox : Obj) (od : Option Obj) : Prop where
  frag : K.In s.heap
  inst : PySem.W.InstAt s.heap x ox C od
  eq : PySem.W.findIn K (.ref C) "__eq__" = some (some (.ref f))
  isfn : PySem.W.isFn K (.ref f) = true
  ne : PySem.W.findIn K (.ref C) "__ne__" = some (some (.builtin "object.__ne__"))
  over : PySem.W.mroIn K C (.type "object") = some true
/-- object.__ne__: the other way round of what __eq__ says -/
theorem OwnEq.entry (o : OwnEq K s x C f ox od) (room : A.units < cLine) {Q : Fin → Shared → Prop} (h : wpAny (model prog w) A (call (.ref f) [.ref x, b]) (fun v s' => ∃ k, v = .bool k ∧ Q (.done (.ret (.bool (!k)))) s') E s) :
    wpAny (model prog w) A (Builtin.«object.__ne__» ⟨[.ref x, b], []⟩) Q E s := by
  refine wpAny_bind (wpAny_pure (wpAny_bind (wpAny_cRoomFor room (wpAny_bind (PySem.W.ifBound_K o.frag o.inst o.eq o.isfn (wpAny_mono h ?_ fun _ _ e => e))))))
  rintro _ s' ⟨k, rfl, q⟩
  exact wpAny_bind (wpAny_truthy_bool (wpAny_pure q))
/-- x's __ne__ is object's, bound to x -/
theorem OwnEq.bound {M : Model} (o : OwnEq K s x C f ox od) {Q : Option (Value × List Value) → Shared → Prop} (q : Q (some (.builtin "object.__ne__", [.ref x])) s) : wpAny M A (bindSpecialIfBound? (.ref x) "__ne__") Q E s := by
  have bind : ∀ {E' : Value → Shared → Prop}, wpAny M A (bindSpecial (.builtin "object.__ne__") (.ref x) >>= fun r => pure (some r)) Q E' s := wpAny_bind (wpAny_of_eq (F.cmp_object.ne.bind _) (wpAny_pure q))
  have special : PySem.W.Looks M s.heap (specialOf (.ref x) "__ne__") (some (.builtin "object.__ne__")) := o.inst.type.andThen (PySem.W.looks_findIn o.frag o.ne)
  refine wpAny_bind (special.here (wpAny_bind (wpAny_askSetting (wpAny_ite ?_))))
  split
  · exact bind
  · exact wpAny_tryCatch bind
/-- x.__ne__(b) tried -/
theorem OwnEq.tried (o : OwnEq K s x C f ox od) (room : A.units + 1 < cLine) {Q : Option Value → Shared → Prop} (h : wpAny (model prog w) A.in1 (call (.ref f) [.ref x, b]) (fun v s' => ∃ k, v = .bool k ∧ Q (some (.bool (!k))) s') E s) : wpAny (model prog w) A (tryCompare (.ref x) "__ne__" b) Q E s := by
  have called : wpAny (model prog w) A (call (.builtin "object.__ne__") [.ref x, b]) (fun v s' => ∃ k, v = .bool k ∧ Q (some (.bool k)) s') E s :=
    wpAny_call (codeAny_call_builtin F.cmp_object.ne.plain F.cmpEntry_ne (PySem.W.check_slot F.cmpKind_ne F.cmpSplit_ne (o.inst.type.andThen (PySem.W.looks_mroIn o.frag o.over)) (F.cmpArgs_ne _ _) (o.entry (A := A.in1) (Nat.lt_of_le_of_lt (Nat.le_refl _) room) (wpAny_mono h (fun v s' ⟨k, e, q⟩ => ⟨k, e, _, rfl, q⟩) fun _ _ e => e))))
  refine wpAny_bind (wpAny_holding (wpAny_bind (o.bound (wpAny_bind (wpAny_mono called ?_ fun _ _ e => e)))))
  rintro _ s' ⟨k, rfl, q⟩
  exact wpAny_pure (wpAny_pure q)
/-- the right side does not go first -/
theorem left_first (X : K.In s.heap) (n : PySem.W.notFirst K C tb = true) (c : (Value.ref C != tb) = true) : PySem.W.Looks (model prog w) s.heap (isSubtype tb (.ref C)) false := by
  refine PySem.W.looks_subIn X (eq_of_beq ((Bool.or_eq_true_iff.mp n).resolve_left fun e => ?_))
  rw [eq_of_beq e] at c
  exact absurd c (by simp)
theorem OwnEq.differs (o : OwnEq K s x C f ox od) (type : PySem.W.Looks (model prog w) s.heap (typeOf b) tb) (n : PySem.W.notFirst K C tb = true) (room : A.units + 1 < cLine) {Q : Value → Shared → Prop}
    (h : wpAny (model prog w) A.in1 (call (.ref f) [.ref x, b]) (fun v s' => ∃ k, v = .bool k ∧ Q (.bool (!k)) s') E s) : wpAny (model prog w) A (richCompare .NotEq (.ref x) b) Q E s := by
  have answer := o.tried (Q := fun r s' => ∃ k, r = some (.bool k) ∧ Q (.bool k) s') room (wpAny_mono h (fun v s' ⟨k, e, q⟩ => ⟨k, e, _, rfl, q⟩) fun _ _ e => e)
  simp only [richCompare, oneThing_ref]
  refine wpAny_holding (wpAny_bind (wpAny_cRoomFor (Nat.lt_of_succ_lt room) (wpAny_bind (o.inst.type.here (wpAny_bind (type.here ?_))))))
  split
  case isTrue c => refine wpAny_bind ((left_first o.frag n c).here (wpAny_bind (m := tryCompare (.ref x) "__ne__" b) (wpAny_mono answer ?_ fun _ _ e => e)))
                   rintro _ s' ⟨k, rfl, q⟩
                   exact wpAny_pure q
  case isFalse c => refine wpAny_bind (wpAny_pure (wpAny_bind (m := tryCompare (.ref x) "__ne__" b) (wpAny_mono answer ?_ fun _ _ e => e)))
                    rintro _ s' ⟨k, rfl, q⟩
                    exact wpAny_pure q
end
/-! ### by what __eq__ promises -/
section
variable {X : Cx} {n : Nat} {CX : CXT} {C f : Addr} {fd : FuncData} {ps : List Str} {sp : Sp} {E : XK}
/-- the call of __eq__ at the comparison's depth -/
theorem own_call (F : FnOk X.prog X.w X.K X.mg X.base CX n f fd ps sp) (hb : Binds X.K fd ps []) (hx : Passes CX X E) {A : Around} (hr : Room n A) (hA : A.frames = X.A.frames) {pins : List (Addr × Obj)} {s : Shared} {σ : L2.St} {H : Hp} (I : Inv X pins σ H s) {a : Addr} {y : V} {u : Value} (ry : RelV y u) {Q : VK} (hsp : sp [.ref a, y] H Q E) :
    wpAny (model X.prog X.w) A (call (.ref f) [.ref a, u]) (EP X pins σ Q) X.xe s := by
  have e := I.env0
  have binds := hb s [.ref a, u] I.kIn (by simpa using F.len _ _ _ _ hsp)
  rw [List.append_nil] at binds
  refine wpAny_call (codeAny_mono (F.run A X.stack s H ⟨[.ref a, u], []⟩ _ [.ref a, y] Q E hr ⟨hA.trans e.frames, e.mod, e.bs, e.bsz, e.funs, e.frf, e.hok, e.bare⟩ binds (.cons rfl (.cons ry .nil)) hsp) fun r s' got => ?_)
  match r, got with
  | .error e, got => exact hx pins σ H s e s' I got
  | .ok (.ret _), got => exact I.after got
def rOwn (C : Addr) (sp : Sp) (E : XK) (neg : Bool) : R2 := fun x y H Q => ∃ (a dx : Addr) (fs : List (Str × V)), x = .ref a ∧ H a = some (.ins C dx fs) ∧ ((∃ (b dy : Addr) (gs : List (Str × V)), y = .ref b ∧ H b = some (.ins C dy gs)) ∨ ∃ (b : Addr) (xs : List V), y = .ref b ∧ H b = some (.lst xs)) ∧
  sp [x, y] H (fun v H' => ∃ k, v = .bl k ∧ Q (.bl (if neg then !k else k)) H') E
/-- an object of the layer, as the heap shows it -/
theorem inst_of {pins : List (Addr × Obj)} {s : Shared} {σ : L2.St} {H : Hp} (I : Inv X pins σ H s) {a dx : Addr} {fs : List (Str × V)} (h : H a = some (.ins C dx fs)) : ∃ ox od, PySem.W.InstAt s.heap a ox C od := by
  obtain ⟨_, J, _⟩ := ins_get I.hok h
  obtain ⟨od, J, _⟩ := J.look
  exact ⟨_, _, J⟩
theorem typ_of {pins : List (Addr × Obj)} {s : Shared} {σ : L2.St} {H : Hp} (I : Inv X pins σ H s) (hl : PySem.W.subIn X.K (.type "list") (.ref C) = some false) {y : V} {u : Value} (ry : RelV y u)
    (h : (∃ (b dy : Addr) (gs : List (Str × V)), y = .ref b ∧ H b = some (.ins C dy gs)) ∨ ∃ (b : Addr) (xs : List V), y = .ref b ∧ H b = some (.lst xs)) : ∃ tb, PySem.W.Looks (model X.prog X.w) s.heap (typeOf u) tb ∧ PySem.W.notFirst X.K C tb = true := by
  rcases h with ⟨b, dy, gs, rfl, hb⟩ | ⟨b, xs, rfl, hb⟩
  · cases ry
    obtain ⟨_, _, J⟩ := inst_of I hb
    exact ⟨_, J.type, Bool.or_eq_true_iff.mpr (.inl (beq_self_eq_true _))⟩
  · cases ry
    obtain ⟨_, _, _, _, at_⟩ := I.hok b _ hb
    exact ⟨.type "list", (PySem.W.Looks.ld (part := none) at_).andThen .now, Bool.or_eq_true_iff.mpr (.inr (hl ▸ beq_self_eq_true _))⟩
theorem op_eqOwn (F : FnOk X.prog X.w X.K X.mg X.base CX n f fd ps sp) (hb : Binds X.K fd ps []) (hx : Passes CX X E) (hr : Room n X.A) (hs : PySem.W.findIn X.K (.ref C) "__eq__" = some (some (.ref f))) (hf : PySem.W.isFn X.K (.ref f) = true) (hl : PySem.W.subIn X.K (.type "list") (.ref C) = some false) : OpR X (compareOp .Eq) (rOwn C sp E false) := by
  rintro pins s σ H _ y v u Q I rx ry ⟨a, dx, fs, rfl, ha, ht, q⟩
  cases rx
  obtain ⟨tb, L, nf⟩ := typ_of I hl ry ht
  obtain ⟨_, _, J⟩ := inst_of I ha
  obtain ⟨m, fr⟩ := I.fr
  refine PySem.W.cmp_ofEq (PySem.W.cmp_K (op := .Eq) hr.units0 fr I.ok.mod.kin J L nf hs hf (wpAny_mono (own_call F hb hx hr rfl I ry q) ?_ fun _ _ e => e))
  rintro _ s' ⟨_, H', I', rz, k, rfl, q⟩
  cases rz
  exact ⟨.bl k, H', I', rfl, q⟩
theorem op_neOwn (F : FnOk X.prog X.w X.K X.mg X.base CX n f fd ps sp) (hb : Binds X.K fd ps []) (hx : Passes CX X E) (hr : Room (n + 1) X.A) (hs : PySem.W.findIn X.K (.ref C) "__eq__" = some (some (.ref f))) (hf : PySem.W.isFn X.K (.ref f) = true) (hl : PySem.W.subIn X.K (.type "list") (.ref C) = some false)
    (hne : PySem.W.findIn X.K (.ref C) "__ne__" = some (some (.builtin "object.__ne__"))) (hm : PySem.W.mroIn X.K C (.type "object") = some true) : OpR X (compareOp .NotEq) (rOwn C sp E true) := by
  rintro pins s σ H _ y v u Q I rx ry ⟨a, dx, fs, rfl, ha, ht, q⟩
  cases rx
  obtain ⟨tb, L, nf⟩ := typ_of I hl ry ht
  obtain ⟨_, _, J⟩ := inst_of I ha
  have units := hr.units
  refine PySem.W.cmp_ofNotEq (OwnEq.differs ⟨I.kIn, J, hs, hf, hne, hm⟩ L nf (by omega) (wpAny_mono (own_call F hb hx hr.in1 rfl I ry q) ?_ fun _ _ e => e))
  rintro _ s' ⟨_, H', I', rz, k, rfl, q⟩
  exact ⟨k, rz, .bl (!k), H', I', rfl, q⟩
end
end K70
end
section
set_option maxHeartbeats 4000000
/-! The greatest lots. No program here. -/
namespace K70
open PySem PySem.Spec PyProof.Rows
/-! ### the order -/
theorem toks_all_strs_inj : ∀ {x y : Lot}, PySem.W.keyToksAll (x.map .str) = PySem.W.keyToksAll (y.map .str) → x = y
  | [], [], _ => rfl
  | [], b :: y, h => by
    rw [show ((b :: y).map PyData.str) = .str b :: y.map .str from rfl, PySem.W.toks_all_cons] at h
    simp [PySem.W.keyToksAll] at h
  | a :: x, [], h => by
    rw [show ((a :: x).map PyData.str) = .str a :: x.map .str from rfl, PySem.W.toks_all_cons] at h
    simp [PySem.W.keyToksAll] at h
  | a :: x, b :: y, h => by
    rw [show ((a :: x).map PyData.str) = .str a :: x.map .str from rfl, show ((b :: y).map PyData.str) = .str b :: y.map .str from rfl, PySem.W.toks_all_cons, PySem.W.toks_all_cons] at h
    simp only [PySem.W.keyToks, List.cons_append, List.nil_append, List.cons.injEq, Sum.inr.injEq, true_and] at h
    obtain ⟨h1, h2⟩ := h
    have e : a = b := by
      obtain ⟨a⟩ := a
      obtain ⟨b⟩ := b
      exact congrArg Str.mk (Array.ext' h1)
    rw [e, toks_all_strs_inj h2]
theorem keyD_inj {x y : Lot} (h : PySem.W.keyToks (keyD x) = PySem.W.keyToks (keyD y)) : x = y := by
  unfold keyD at h
  simp only [PySem.W.keyToks] at h
  rw [PySem.W.toks_all_cons, PySem.W.toks_all_cons, PySem.W.toks_all_cons, PySem.W.toks_all_cons] at h
  simp only [PySem.W.keyToks, List.cons_append, List.nil_append, List.cons.injEq, Sum.inl.injEq, true_and] at h
  obtain ⟨h1, h2⟩ := h
  have h3 := List.append_cancel_right h2
  exact toks_all_strs_inj h3
theorem leK_total (x y : Lot) : (leK x y || leK y x) = true := by
  unfold leK
  cases h : PySem.W.dataLt (keyD y) (keyD x) with
  | false => rfl
  | true =>
    cases h2 : PySem.W.dataLt (keyD x) (keyD y) with
    | false => rfl
    | true =>
      have h3 := lex_trans _ _ _ h h2
      rw [lex_irrefl] at h3
      cases h3
theorem leK_trans (x y z : Lot) (a : leK x y = true) (b : leK y z = true) : leK x z = true := by
  unfold leK at a b ⊢
  cases h : PySem.W.dataLt (keyD z) (keyD x) with
  | false => rfl
  | true =>
    rcases lex_negTrans _ (PySem.W.keyToks (keyD y)) _ h with h2 | h2
    · rw [show PySem.W.dataLt (keyD z) (keyD y) = true from h2] at b
      cases b
    · rw [show PySem.W.dataLt (keyD y) (keyD x) = true from h2] at a
      cases a
theorem leK_anti {x y : Lot} (a : leK x y = true) (b : leK y x = true) : x = y := by
  unfold leK at a b
  simp only [Bool.not_eq_true'] at a b
  exact keyD_inj (lex_total _ _ b a)
def srtK (bs : List Lot) : List Lot := bs.mergeSort leK
theorem srtK_perm (bs : List Lot) : (srtK bs).Perm bs := List.mergeSort_perm bs leK
theorem srtK_sorted (bs : List Lot) : (srtK bs).Pairwise fun a b => leK a b = true := List.pairwise_mergeSort leK_trans leK_total bs
theorem srtK_one {xs ys : List Lot} (p : xs.Perm ys) (h : xs.Pairwise fun a b => leK a b = true) : xs = srtK ys :=
  (p.trans (srtK_perm ys).symm).eq_of_pairwise (fun a b _ _ h1 h2 => leK_anti h1 h2) h (srtK_sorted ys)
theorem srtK_of_perm {xs ys : List Lot} (p : xs.Perm ys) : srtK xs = srtK ys := srtK_one ((srtK_perm xs).trans p) (srtK_sorted xs)
theorem mem_srtK {x : Lot} {bs : List Lot} : x ∈ srtK bs ↔ x ∈ bs := (srtK_perm bs).mem_iff
theorem srtK_map {β : Type} (g : β → Lot) (bs : List β) : (bs.mergeSort fun x y => leK (g x) (g y)).map g = srtK (bs.map g) := by
  refine srtK_one ((List.mergeSort_perm bs _).map g) ?_
  rw [List.pairwise_map]
  exact List.pairwise_mergeSort (le := fun x y => leK (g x) (g y)) (fun a b c => leK_trans (g a) (g b) (g c)) (fun a b => leK_total (g a) (g b)) bs
/-! ### each once -/
def onceStep (acc : List Lot) (x : Lot) : List Lot := if x ∈ acc then acc else acc ++ [x]
def once (bs : List Lot) : List Lot := bs.foldl onceStep []
theorem once_snoc (bs : List Lot) (x : Lot) : once (bs ++ [x]) = onceStep (once bs) x := by
  unfold once
  rw [List.foldl_append]
  rfl
theorem once_spec (bs : List Lot) : (once bs).Nodup ∧ (∀ x, x ∈ once bs ↔ x ∈ bs) ∧ (once bs).length ≤ bs.length := by
  suffices h : ∀ rs : List Lot, (once rs.reverse).Nodup ∧ (∀ x, x ∈ once rs.reverse ↔ x ∈ rs) ∧ (once rs.reverse).length ≤ rs.length by
    have q := h bs.reverse
    rw [List.reverse_reverse, List.length_reverse] at q
    exact ⟨q.1, fun x => by rw [q.2.1]; simp, q.2.2⟩
  intro rs
  induction rs with
  | nil => exact ⟨List.nodup_nil, fun x => by simp [once], Nat.le_refl _⟩
  | cons r rs ih =>
    rw [List.reverse_cons, once_snoc]
    unfold onceStep
    by_cases h : r ∈ once rs.reverse
    · rw [if_pos h]
      refine ⟨ih.1, fun x => ?_, Nat.le_trans ih.2.2 (Nat.le_succ _)⟩
      rw [ih.2.1, List.mem_cons]
      constructor
      · exact fun q => .inr q
      · rintro (q | q)
        · rw [q]; exact (ih.2.1 r).mp h
        · exact q
    · rw [if_neg h]
      refine ⟨?_, fun x => ?_, by rw [List.length_append, List.length_singleton, List.length_cons]; omega⟩
      · rw [List.nodup_append]
        refine ⟨ih.1, by simp, fun a ha b hb => ?_⟩
        rw [List.mem_singleton.mp hb]
        exact fun z => h (by rw [← z]; exact ha)
      · rw [List.mem_append, List.mem_singleton, ih.2.1, List.mem_cons]
        exact ⟨fun q => q.elim .inr .inl, fun q => q.elim .inr .inl⟩
theorem once_mem {x : Lot} {bs : List Lot} : x ∈ once bs ↔ x ∈ bs := (once_spec bs).2.1 x
/-! ### the greatest -/
/-- each of the one in the other -/
def liesB (x y : Lot) : Bool := (x.map fun a => decide (a ∈ y)).all id
theorem liesB_iff {x y : Lot} : liesB x y = true ↔ ∀ a ∈ x, a ∈ y := by
  unfold liesB
  rw [List.all_map, List.all_eq_true]
  simp
/-- no longer lot of bs holds x -/
def big (bs : List Lot) (x : Lot) : Bool := !(bs.map fun o => decide (x.length < o.length) && liesB x o).any id
theorem big_iff {bs : List Lot} {x : Lot} : big bs x = true ↔ ∀ o ∈ bs, x.length < o.length → liesB x o = false := by
  unfold big
  rw [List.any_map, Bool.not_eq_true', List.any_eq_false]
  constructor
  · intro h o ho hl
    have := h o ho
    simp only [Function.comp, id_eq, Bool.and_eq_true, decide_eq_true_eq, not_and] at this
    exact Bool.not_eq_true _ |>.mp (this hl)
  · intro h o ho
    simp only [Function.comp, id_eq, Bool.and_eq_true, decide_eq_true_eq, not_and]
    intro hl
    rw [h o ho hl]
    simp
theorem big_ext {as bs : List Lot} (h : ∀ x, x ∈ as ↔ x ∈ bs) (x : Lot) : big as x = big bs x := by
  rw [Bool.eq_iff_iff, big_iff, big_iff]
  exact ⟨fun q o ho => q o ((h o).mpr ho), fun q o ho => q o ((h o).mp ho)⟩
def great (bs : List Lot) : List Lot := srtK (once (bs.filter (big bs)))
theorem mem_great {bs : List Lot} {x : Lot} : x ∈ great bs ↔ x ∈ bs ∧ big bs x = true := by
  unfold great
  rw [mem_srtK, once_mem, List.mem_filter]
theorem nodup_great (bs : List Lot) : (great bs).Nodup := (srtK_perm _).nodup_iff.mpr (once_spec _).1
theorem sorted_great (bs : List Lot) : (great bs).Pairwise fun a b => leK a b = true := srtK_sorted _
/-- two sorted lists without doubles, of one membership -/
theorem srtK_ext {as bs : List Lot} (h1 : as.Nodup) (h2 : bs.Nodup) (h : ∀ x, x ∈ as ↔ x ∈ bs) : srtK as = srtK bs := srtK_of_perm ((List.perm_ext_iff_of_nodup h1 h2).mpr h)
theorem great_ext {as bs : List Lot} (h : ∀ x, x ∈ as ↔ x ∈ bs) : great as = great bs := by
  refine srtK_ext (once_spec _).1 (once_spec _).1 fun x => ?_
  rw [once_mem, once_mem, List.mem_filter, List.mem_filter, h x, big_ext h]
/-- the law's own way -/
def ogs (bs : List Lot) : List Lot := once (bs.map srt ++ [[]])
theorem og_great (bs : List Lot) : srtK ((ogs bs).filter (big (ogs bs))) = great ([] :: bs.map srt) := by
  have hm : ∀ x, x ∈ ogs bs ↔ x ∈ [] :: bs.map srt := fun x => by
    unfold ogs
    rw [once_mem, List.mem_append, List.mem_singleton, List.mem_cons]
    exact ⟨fun q => q.elim .inr .inl, fun q => q.elim .inr .inl⟩
  refine srtK_ext ((once_spec _).1.filter _) (once_spec _).1 fun x => ?_
  rw [once_mem, List.mem_filter, List.mem_filter, hm, big_ext hm]
theorem sum_le_of_mem {bs : List Lot} {x : Lot} (h : x ∈ bs) : x.length ≤ (bs.map List.length).sum := by
  induction bs with
  | nil => cases h
  | cons b bs ih =>
    simp only [List.map_cons, List.sum_cons]
    rcases List.mem_cons.1 h with e | h
    · rw [e]; omega
    · have := ih h; omega
theorem liesB_trans {x y z : Lot} (a : liesB x y = true) (b : liesB y z = true) : liesB x z = true := liesB_iff.mpr fun c hc => liesB_iff.mp b c (liesB_iff.mp a c hc)
theorem liesB_refl (x : Lot) : liesB x x = true := liesB_iff.mpr fun _ h => h
/-- each lot lies in a greatest one -/
theorem up_great {bs : List Lot} : ∀ (n : Nat) {x : Lot}, x ∈ bs → (bs.map List.length).sum - x.length ≤ n → ∃ y ∈ great bs, liesB x y = true := by
  intro n
  induction n with
  | zero =>
    intro x hx hn
    refine ⟨x, mem_great.mpr ⟨hx, big_iff.mpr fun o ho hl => ?_⟩, liesB_refl x⟩
    have := sum_le_of_mem ho
    omega
  | succ n ih =>
    intro x hx hn
    by_cases hb : big bs x = true
    · exact ⟨x, mem_great.mpr ⟨hx, hb⟩, liesB_refl x⟩
    · have : ¬ ∀ o ∈ bs, x.length < o.length → liesB x o = false := fun q => hb (big_iff.mpr q)
      simp only [Classical.not_forall] at this
      obtain ⟨o, ho, hl, hx2⟩ := this
      have h1 := sum_le_of_mem ho
      obtain ⟨y, hy, h2⟩ := ih ho (by omega)
      exact ⟨y, hy, liesB_trans (Bool.not_eq_false _ |>.mp hx2) h2⟩
theorem in_great {bs : List Lot} {x : Lot} (h : x ∈ bs) : ∃ y ∈ great bs, liesB x y = true := up_great _ h (Nat.le_refl _)
/-- the greatest of the greatest -/
theorem great_great {bs : List Lot} : great ([] :: great ([] :: bs)) = great ([] :: bs) := by
  refine (srtK_ext (once_spec _).1 (nodup_great _) fun x => ?_).trans (srtK_one (List.Perm.refl _) (sorted_great _)).symm
  rw [once_mem, List.mem_filter]
  constructor
  · rintro ⟨hx, hb⟩
    rcases List.mem_cons.1 hx with e | hx
    · subst e
      refine mem_great.mpr ⟨List.mem_cons_self .., big_iff.mpr fun o ho hl => ?_⟩
      obtain ⟨y, hy, h2⟩ := in_great ho
      have hy2 : 0 < y.length := by
        cases y with
        | nil =>
          cases o with
          | nil => simp at hl
          | cons a o => exact absurd (liesB_iff.mp h2 a (List.mem_cons_self ..)) (by simp)
        | cons a y => exact Nat.succ_pos _
      have q := big_iff.mp hb y (List.mem_cons_of_mem _ hy) hy2
      rw [show liesB [] y = true from rfl] at q
      cases q
    · exact hx
  · intro hx
    obtain ⟨h1, h2⟩ := mem_great.mp hx
    refine ⟨List.mem_cons_of_mem _ hx, big_iff.mpr fun o ho hl => ?_⟩
    rcases List.mem_cons.1 ho with e | ho
    · rw [e] at hl
      simp at hl
    · exact big_iff.mp h2 o (mem_great.mp ho).1 hl
end K70
end
section
set_option maxHeartbeats 4000000
/-! The text: each def by its place, its names by slot; what the top has left. -/
namespace K70
open PySem PySem.Spec PyProof.Rows L2
variable [Tbs]
def top (i : Nat) : Stmt := PySem.Challenge.pw_breakplans_k70_whole_who_may_stop.main.body.getD i (.Pass ⟨0, 0, 0, 0⟩)
def SMZ : Str := "abcdefghijklmnopqrstuvwxyz"
def FGZ : Str := "0123456789"
def fdOf (K : PySem.W.Frag) (f : Addr) : FuncData := match K.lookup f with
  | some ⟨_, _, .func fd, _⟩ => fd
  | _ => default
theorem FunD.fd {K : PySem.W.Frag} {x qual : Str} {params : Arguments} {body : List Stmt} {scope : Scope} {dvs : List V} {kws : List (Str × V)} {f : Addr} {fd : FuncData} (F : L2.FunD K x qual params body scope dvs kws f fd) : fd = fdOf K f := by
  obtain ⟨oc, od, dV, kV, doc, pm, an, cdv, ct, osl, _, lk, _⟩ := F.ex
  unfold fdOf
  rw [lk]
abbrev FnT (K : PySem.W.Frag) (x qual : Str) (st : Stmt) (f : Addr) : Prop := L2.FunD K x qual (defArgs st) (defBody st) (defScope st) [] [] f (fdOf K f)
/-- the class Stops -/
abbrev cS (K : PySem.W.Frag) : Addr := He.ga K "Stops"
abbrev aS (K : PySem.W.Frag) (m : Str) : Addr := He.ma K (He.ga K "Stops") m
abbrev aI (K : PySem.W.Frag) (c : Str) : Addr := He.ma K (He.ga K c) "__init__"
abbrev s_BadBandXinit : Stmt := inClass (top 2) 0
abbrev s_BadHandsXinit : Stmt := inClass (top 3) 0
abbrev s_BadNumberXinit : Stmt := inClass (top 4) 0
abbrev s_NoHandXinit : Stmt := inClass (top 5) 0
abbrev s_isXlist : Stmt := top 9
abbrev s_isXinteger : Stmt := top 10
abbrev s_isXname : Stmt := top 11
abbrev s_checkedXhands : Stmt := top 12
abbrev s_isXhandXof : Stmt := top 13
abbrev s_isXlot : Stmt := top 15
abbrev s_liesXin : Stmt := top 16
abbrev s_greatestXof : Stmt := top 17
abbrev s_StopsXinit : Stmt := inClass (top 18) 0
abbrev s_StopsXhands : Stmt := inClass (top 18) 1
abbrev s_StopsXbands : Stmt := inClass (top 18) 2
abbrev s_StopsXisXband : Stmt := inClass (top 18) 3
abbrev s_StopsXeq : Stmt := inClass (top 18) 4
abbrev s_holdXall : Stmt := top 19
abbrev s_twoXbands : Stmt := top 20
abbrev s_freeXhands : Stmt := top 21
abbrev s_checkXphases : Stmt := top 22
abbrev s_canXstore : Stmt := top 23
abbrev s_checkXpair : Stmt := top 24
abbrev s_halves : Stmt := top 25
abbrev s_qXliesXin : Stmt := top 27
abbrev s_qXjoined : Stmt := top 28
abbrev s_qXlists : Stmt := top 29
abbrev s_qXgreatest : Stmt := top 30
abbrev s_qXquorums : Stmt := top 31
abbrev s_wXstart : Stmt := top 32
abbrev s_wXdraw : Stmt := top 33
abbrev s_wXpick : Stmt := top 34
abbrev s_wXmixed : Stmt := top 35
abbrev s_wXsame : Stmt := top 36
abbrev s_wXeachXonce : Stmt := top 37
abbrev s_wXhands : Stmt := top 38
abbrev s_wXloose : Stmt := top 39
abbrev s_wXmet : Stmt := top 40
abbrev s_wXdoXmeet : Stmt := top 41
abbrev s_wXfirstXpair : Stmt := top 42
abbrev s_wXpairsXright : Stmt := top 43
abbrev s_wXrefusedXright : Stmt := top 44
abbrev s_law : Stmt := top 45
theorem sc_BadBandXinit : FnScope ["self", "index"] ["self", "index"] (defScope s_BadBandXinit) := ⟨rfl, rfl, rfl, by decide +kernel, rfl, by decide +kernel, by decide +kernel⟩
theorem sc_BadHandsXinit : FnScope ["self", "index"] ["self", "index"] (defScope s_BadHandsXinit) := ⟨rfl, rfl, rfl, by decide +kernel, rfl, by decide +kernel, by decide +kernel⟩
theorem sc_BadNumberXinit : FnScope ["self", "thing"] ["self", "thing"] (defScope s_BadNumberXinit) := ⟨rfl, rfl, rfl, by decide +kernel, rfl, by decide +kernel, by decide +kernel⟩
theorem sc_NoHandXinit : FnScope ["self", "thing"] ["self", "thing"] (defScope s_NoHandXinit) := ⟨rfl, rfl, rfl, by decide +kernel, rfl, by decide +kernel, by decide +kernel⟩
theorem sc_isXlist : FnScope ["thing"] ["thing"] (defScope s_isXlist) := ⟨rfl, rfl, rfl, by decide +kernel, rfl, by decide +kernel, by decide +kernel⟩
theorem sc_isXinteger : FnScope ["thing"] ["thing"] (defScope s_isXinteger) := ⟨rfl, rfl, rfl, by decide +kernel, rfl, by decide +kernel, by decide +kernel⟩
theorem sc_isXname : FnScope ["thing", "sign"] ["thing"] (defScope s_isXname) := ⟨rfl, rfl, rfl, by decide +kernel, rfl, by decide +kernel, by decide +kernel⟩
theorem sc_checkedXhands : FnScope ["hands", "found", "index", "hand"] ["hands"] (defScope s_checkedXhands) := ⟨rfl, rfl, rfl, by decide +kernel, rfl, by decide +kernel, by decide +kernel⟩
theorem sc_isXhandXof : FnScope ["thing", "hands"] ["thing", "hands"] (defScope s_isXhandXof) := ⟨rfl, rfl, rfl, by decide +kernel, rfl, by decide +kernel, by decide +kernel⟩
theorem sc_isXlot : FnScope ["thing", "hands", "one"] ["thing", "hands"] (defScope s_isXlot) := ⟨rfl, rfl, rfl, by decide +kernel, rfl, by decide +kernel, by decide +kernel⟩
theorem sc_liesXin : FnScope ["lot", "other", "one"] ["lot", "other"] (defScope s_liesXin) := ⟨rfl, rfl, rfl, by decide +kernel, rfl, by decide +kernel, by decide +kernel⟩
theorem sc_greatestXof : FnScope ["lots", "found", "lot", "other"] ["lots"] (defScope s_greatestXof) := ⟨rfl, rfl, rfl, by decide +kernel, rfl, by decide +kernel, by decide +kernel⟩
theorem sc_StopsXinit : FnScope ["self", "hands", "bands", "index", "band"] ["self", "hands", "bands"] (defScope s_StopsXinit) := ⟨rfl, rfl, rfl, by decide +kernel, rfl, by decide +kernel, by decide +kernel⟩
theorem sc_StopsXhands : FnScope ["self"] ["self"] (defScope s_StopsXhands) := ⟨rfl, rfl, rfl, by decide +kernel, rfl, by decide +kernel, by decide +kernel⟩
theorem sc_StopsXbands : FnScope ["self", "band"] ["self"] (defScope s_StopsXbands) := ⟨rfl, rfl, rfl, by decide +kernel, rfl, by decide +kernel, by decide +kernel⟩
theorem sc_StopsXisXband : FnScope ["self", "thing", "band"] ["self", "thing"] (defScope s_StopsXisXband) := ⟨rfl, rfl, rfl, by decide +kernel, rfl, by decide +kernel, by decide +kernel⟩
theorem sc_StopsXeq : FnScope ["self", "other"] ["self", "other"] (defScope s_StopsXeq) := ⟨rfl, rfl, rfl, by decide +kernel, rfl, by decide +kernel, by decide +kernel⟩
theorem sc_holdXall : FnScope ["stops", "one", "other", "hand"] ["stops", "one", "other"] (defScope s_holdXall) := ⟨rfl, rfl, rfl, by decide +kernel, rfl, by decide +kernel, by decide +kernel⟩
theorem sc_twoXbands : FnScope ["stops", "one", "other"] ["stops"] (defScope s_twoXbands) := ⟨rfl, rfl, rfl, by decide +kernel, rfl, by decide +kernel, by decide +kernel⟩
theorem sc_freeXhands : FnScope ["stops", "hand", "band"] ["stops"] (defScope s_freeXhands) := ⟨rfl, rfl, rfl, by decide +kernel, rfl, by decide +kernel, by decide +kernel⟩
theorem sc_checkXphases : FnScope ["phases"] ["phases"] (defScope s_checkXphases) := ⟨rfl, rfl, rfl, by decide +kernel, rfl, by decide +kernel, by decide +kernel⟩
theorem sc_canXstore : FnScope ["stops", "phases"] ["stops", "phases"] (defScope s_canXstore) := ⟨rfl, rfl, rfl, by decide +kernel, rfl, by decide +kernel, by decide +kernel⟩
theorem sc_checkXpair : FnScope ["stops", "writer", "reader", "thing"] ["stops", "writer", "reader"] (defScope s_checkXpair) := ⟨rfl, rfl, rfl, by decide +kernel, rfl, by decide +kernel, by decide +kernel⟩
theorem sc_halves : FnScope ["stops", "writer", "reader", "one", "other", "mine", "theirs", "hand"] ["stops", "writer", "reader"] (defScope s_halves) := ⟨rfl, rfl, rfl, by decide +kernel, rfl, by decide +kernel, by decide +kernel⟩
theorem sc_qXliesXin : FnScope ["_law_lot", "_law_other", "_law_one"] ["_law_lot", "_law_other"] (defScope s_qXliesXin) := ⟨rfl, rfl, rfl, by decide +kernel, rfl, by decide +kernel, by decide +kernel⟩
theorem sc_qXjoined : FnScope ["_law_lots", "_law_found", "_law_lot", "_law_one"] ["_law_lots"] (defScope s_qXjoined) := ⟨rfl, rfl, rfl, by decide +kernel, rfl, by decide +kernel, by decide +kernel⟩
theorem sc_qXlists : FnScope ["_law_stream", "_law_hands_here", "_law_way", "_law_found", "_law_k", "_law_hand"] ["_law_stream", "_law_hands_here"] (defScope s_qXlists) := ⟨rfl, rfl, rfl, by decide +kernel, rfl, by decide +kernel, by decide +kernel⟩
theorem sc_qXgreatest : FnScope ["_law_bands", "_law_some", "_law_found", "_law_x", "_law_many", "_law_band", "_law_other"] ["_law_bands"] (defScope s_qXgreatest) := ⟨rfl, rfl, rfl, by decide +kernel, rfl, by decide +kernel, by decide +kernel⟩
theorem sc_qXquorums : FnScope ["_law_hands_here", "_law_bands", "_law_hand", "_law_found", "_law_bits", "_law_lot", "_law_rest", "_law_at", "_law_one", "_law_band"] ["_law_hands_here", "_law_bands", "_law_hand"] (defScope s_qXquorums) := ⟨rfl, rfl, rfl, by decide +kernel, rfl, by decide +kernel, by decide +kernel⟩
theorem sc_wXstart : FnScope ["_law_script"] ["_law_script"] (defScope s_wXstart) := ⟨rfl, rfl, rfl, by decide +kernel, rfl, by decide +kernel, by decide +kernel⟩
theorem sc_wXdraw : FnScope ["_law_stream", "_law_many", "_law_cell", "_law_digit", "_law_mixed_here"] ["_law_stream", "_law_many"] (defScope s_wXdraw) := ⟨rfl, rfl, rfl, by decide +kernel, rfl, by decide +kernel, by decide +kernel⟩
theorem sc_wXpick : FnScope ["_law_stream", "_law_some"] ["_law_stream", "_law_some"] (defScope s_wXpick) := ⟨rfl, rfl, rfl, by decide +kernel, rfl, by decide +kernel, by decide +kernel⟩
theorem sc_wXmixed : FnScope ["_law_stream", "_law_some", "_law_left", "_law_k"] ["_law_stream", "_law_some"] (defScope s_wXmixed) := ⟨rfl, rfl, rfl, by decide +kernel, rfl, by decide +kernel, by decide +kernel⟩
theorem sc_wXsame : FnScope ["_law_found", "_law_due", "_law_x", "_law_y"] ["_law_found", "_law_due"] (defScope s_wXsame) := ⟨rfl, rfl, rfl, by decide +kernel, rfl, by decide +kernel, by decide +kernel⟩
theorem sc_wXeachXonce : FnScope ["_law_things", "_law_found", "_law_thing"] ["_law_things"] (defScope s_wXeachXonce) := ⟨rfl, rfl, rfl, by decide +kernel, rfl, by decide +kernel, by decide +kernel⟩
theorem sc_wXhands : FnScope ["_law_stream", "_law_many"] ["_law_stream", "_law_many"] (defScope s_wXhands) := ⟨rfl, rfl, rfl, by decide +kernel, rfl, by decide +kernel, by decide +kernel⟩
theorem sc_wXloose : FnScope ["_law_stream", "_law_thing", "_law_found", "_law_part"] ["_law_stream", "_law_thing"] (defScope s_wXloose) := ⟨rfl, rfl, rfl, by decide +kernel, rfl, by decide +kernel, by decide +kernel⟩
theorem sc_wXmet : FnScope ["_law_ask", "e"] ["_law_ask"] (defScope s_wXmet) := ⟨rfl, rfl, rfl, by decide +kernel, rfl, by decide +kernel, by decide +kernel⟩
theorem sc_wXdoXmeet : FnScope ["_law_some", "_law_others", "_law_one", "_law_other", "_law_hand"] ["_law_some", "_law_others"] (defScope s_wXdoXmeet) := ⟨rfl, rfl, rfl, by decide +kernel, rfl, by decide +kernel, by decide +kernel⟩
theorem sc_wXfirstXpair : FnScope ["_law_hands_here", "_law_bands", "_law_writer", "_law_reader", "_law_one", "_law_other", "_law_x"] ["_law_hands_here", "_law_bands", "_law_writer", "_law_reader"] (defScope s_wXfirstXpair) := ⟨rfl, rfl, rfl, by decide +kernel, rfl, by decide +kernel, by decide +kernel⟩
theorem sc_wXpairsXright : FnScope ["_law_stops", "_law_hands_here", "_law_bands", "_law_lots", "_law_every", "_law_due", "_law_free", "_law_writer", "_law_reader", "_law_pair", "_law_found", "_law_hand", "_law_phases", "_law_lot"] ["_law_stops", "_law_hands_here", "_law_bands"] (defScope s_wXpairsXright) := ⟨rfl, rfl, rfl, by decide +kernel, rfl, by decide +kernel, by decide +kernel⟩
theorem sc_wXrefusedXright : FnScope ["_law_stream", "_law_stops", "_law_hands_here", "_law_lists", "_law_found", "_law_due", "_law_at", "_law_hand", "_law_number", "_law_odd", "_law_thing"] ["_law_stream", "_law_stops", "_law_hands_here", "_law_lists"] (defScope s_wXrefusedXright) := ⟨rfl, rfl, rfl, by decide +kernel, rfl, by decide +kernel, by decide +kernel⟩
theorem sc_law : FnScope ["_law_script", "_law_stream", "_law_turn", "_law_hands_here", "_law_lists", "_law_band", "_law_handed", "_law_passed", "_law_stops", "_law_bands", "_law_some", "_law_thing", "_law_due", "_law_other", "_law_k", "_law_one"] ["_law_script"] (defScope s_law) := ⟨rfl, rfl, rfl, by decide +kernel, rfl, by decide +kernel, by decide +kernel⟩
/-- what the top has left, as the defs' proofs take it -/
structure Top (K : PySem.W.Frag) (mg : Str → Option Value) (base : Heap) : Prop where
  n_len : mg "len" = none
  n_all : mg "all" = none
  n_any : mg "any" = none
  n_isinstance : mg "isinstance" = none
  n_sorted : mg "sorted" = none
  n_range : mg "range" = none
  n_enumerate : mg "enumerate" = none
  n_zip : mg "zip" = none
  n_list : mg "list" = none
  n_tuple : mg "tuple" = none
  n_int : mg "int" = none
  n_dict : mg "dict" = none
  n_str : mg "str" = none
  n_bool : mg "bool" = none
  g_SMALL : ∃ t, mg "SMALL" = some (.str SMZ t)
  g_FIGURES : ∃ t, mg "FIGURES" = some (.str FGZ t)
  d_BadBandXinit : FnT K "__init__" "BadBand.__init__" s_BadBandXinit (He.ma K (He.ga K "BadBand") "__init__")
  d_BadHandsXinit : FnT K "__init__" "BadHands.__init__" s_BadHandsXinit (He.ma K (He.ga K "BadHands") "__init__")
  d_BadNumberXinit : FnT K "__init__" "BadNumber.__init__" s_BadNumberXinit (He.ma K (He.ga K "BadNumber") "__init__")
  d_NoHandXinit : FnT K "__init__" "NoHand.__init__" s_NoHandXinit (He.ma K (He.ga K "NoHand") "__init__")
  g_isXlist : mg "is_list" = some (.ref (He.ga K "is_list"))
  d_isXlist : FnT K "is_list" "is_list" s_isXlist (He.ga K "is_list")
  g_isXinteger : mg "is_integer" = some (.ref (He.ga K "is_integer"))
  d_isXinteger : FnT K "is_integer" "is_integer" s_isXinteger (He.ga K "is_integer")
  g_isXname : mg "is_name" = some (.ref (He.ga K "is_name"))
  d_isXname : FnT K "is_name" "is_name" s_isXname (He.ga K "is_name")
  g_checkedXhands : mg "checked_hands" = some (.ref (He.ga K "checked_hands"))
  d_checkedXhands : FnT K "checked_hands" "checked_hands" s_checkedXhands (He.ga K "checked_hands")
  g_isXhandXof : mg "is_hand_of" = some (.ref (He.ga K "is_hand_of"))
  d_isXhandXof : FnT K "is_hand_of" "is_hand_of" s_isXhandXof (He.ga K "is_hand_of")
  g_isXlot : mg "is_lot" = some (.ref (He.ga K "is_lot"))
  d_isXlot : FnT K "is_lot" "is_lot" s_isXlot (He.ga K "is_lot")
  g_liesXin : mg "lies_in" = some (.ref (He.ga K "lies_in"))
  d_liesXin : FnT K "lies_in" "lies_in" s_liesXin (He.ga K "lies_in")
  g_greatestXof : mg "greatest_of" = some (.ref (He.ga K "greatest_of"))
  d_greatestXof : FnT K "greatest_of" "greatest_of" s_greatestXof (He.ga K "greatest_of")
  d_StopsXinit : FnT K "__init__" "Stops.__init__" s_StopsXinit (He.ma K (He.ga K "Stops") "__init__")
  d_StopsXhands : FnT K "hands" "Stops.hands" s_StopsXhands (He.ma K (He.ga K "Stops") "hands")
  m_StopsXhands : Meth K (cS K) "hands" (aS K "hands")
  d_StopsXbands : FnT K "bands" "Stops.bands" s_StopsXbands (He.ma K (He.ga K "Stops") "bands")
  m_StopsXbands : Meth K (cS K) "bands" (aS K "bands")
  d_StopsXisXband : FnT K "is_band" "Stops.is_band" s_StopsXisXband (He.ma K (He.ga K "Stops") "is_band")
  m_StopsXisXband : Meth K (cS K) "is_band" (aS K "is_band")
  d_StopsXeq : FnT K "__eq__" "Stops.__eq__" s_StopsXeq (He.ma K (He.ga K "Stops") "__eq__")
  m_StopsXeq : Meth K (cS K) "__eq__" (aS K "__eq__")
  g_holdXall : mg "hold_all" = some (.ref (He.ga K "hold_all"))
  d_holdXall : FnT K "hold_all" "hold_all" s_holdXall (He.ga K "hold_all")
  g_twoXbands : mg "two_bands" = some (.ref (He.ga K "two_bands"))
  d_twoXbands : FnT K "two_bands" "two_bands" s_twoXbands (He.ga K "two_bands")
  g_freeXhands : mg "free_hands" = some (.ref (He.ga K "free_hands"))
  d_freeXhands : FnT K "free_hands" "free_hands" s_freeXhands (He.ga K "free_hands")
  g_checkXphases : mg "check_phases" = some (.ref (He.ga K "check_phases"))
  d_checkXphases : FnT K "check_phases" "check_phases" s_checkXphases (He.ga K "check_phases")
  g_canXstore : mg "can_store" = some (.ref (He.ga K "can_store"))
  d_canXstore : FnT K "can_store" "can_store" s_canXstore (He.ga K "can_store")
  g_checkXpair : mg "check_pair" = some (.ref (He.ga K "check_pair"))
  d_checkXpair : FnT K "check_pair" "check_pair" s_checkXpair (He.ga K "check_pair")
  g_halves : mg "halves" = some (.ref (He.ga K "halves"))
  d_halves : FnT K "halves" "halves" s_halves (He.ga K "halves")
  g_qXliesXin : mg "_law_o_lies_in" = some (.ref (He.ga K "_law_o_lies_in"))
  d_qXliesXin : FnT K "_law_o_lies_in" "_law_o_lies_in" s_qXliesXin (He.ga K "_law_o_lies_in")
  g_qXjoined : mg "_law_o_joined" = some (.ref (He.ga K "_law_o_joined"))
  d_qXjoined : FnT K "_law_o_joined" "_law_o_joined" s_qXjoined (He.ga K "_law_o_joined")
  g_qXlists : mg "_law_o_lists" = some (.ref (He.ga K "_law_o_lists"))
  d_qXlists : FnT K "_law_o_lists" "_law_o_lists" s_qXlists (He.ga K "_law_o_lists")
  g_qXgreatest : mg "_law_o_greatest" = some (.ref (He.ga K "_law_o_greatest"))
  d_qXgreatest : FnT K "_law_o_greatest" "_law_o_greatest" s_qXgreatest (He.ga K "_law_o_greatest")
  g_qXquorums : mg "_law_o_quorums" = some (.ref (He.ga K "_law_o_quorums"))
  d_qXquorums : FnT K "_law_o_quorums" "_law_o_quorums" s_qXquorums (He.ga K "_law_o_quorums")
  g_wXstart : mg "_law_start" = some (.ref (He.ga K "_law_start"))
  d_wXstart : FnT K "_law_start" "_law_start" s_wXstart (He.ga K "_law_start")
  g_wXdraw : mg "_law_draw" = some (.ref (He.ga K "_law_draw"))
  d_wXdraw : FnT K "_law_draw" "_law_draw" s_wXdraw (He.ga K "_law_draw")
  g_wXpick : mg "_law_pick" = some (.ref (He.ga K "_law_pick"))
  d_wXpick : FnT K "_law_pick" "_law_pick" s_wXpick (He.ga K "_law_pick")
  g_wXmixed : mg "_law_mixed" = some (.ref (He.ga K "_law_mixed"))
  d_wXmixed : FnT K "_law_mixed" "_law_mixed" s_wXmixed (He.ga K "_law_mixed")
  g_wXsame : mg "_law_same" = some (.ref (He.ga K "_law_same"))
  d_wXsame : FnT K "_law_same" "_law_same" s_wXsame (He.ga K "_law_same")
  g_wXeachXonce : mg "_law_each_once" = some (.ref (He.ga K "_law_each_once"))
  d_wXeachXonce : FnT K "_law_each_once" "_law_each_once" s_wXeachXonce (He.ga K "_law_each_once")
  g_wXhands : mg "_law_hands" = some (.ref (He.ga K "_law_hands"))
  d_wXhands : FnT K "_law_hands" "_law_hands" s_wXhands (He.ga K "_law_hands")
  g_wXloose : mg "_law_loose" = some (.ref (He.ga K "_law_loose"))
  d_wXloose : FnT K "_law_loose" "_law_loose" s_wXloose (He.ga K "_law_loose")
  g_wXmet : mg "_law_met" = some (.ref (He.ga K "_law_met"))
  d_wXmet : FnT K "_law_met" "_law_met" s_wXmet (He.ga K "_law_met")
  g_wXdoXmeet : mg "_law_do_meet" = some (.ref (He.ga K "_law_do_meet"))
  d_wXdoXmeet : FnT K "_law_do_meet" "_law_do_meet" s_wXdoXmeet (He.ga K "_law_do_meet")
  g_wXfirstXpair : mg "_law_first_pair" = some (.ref (He.ga K "_law_first_pair"))
  d_wXfirstXpair : FnT K "_law_first_pair" "_law_first_pair" s_wXfirstXpair (He.ga K "_law_first_pair")
  g_wXpairsXright : mg "_law_pairs_right" = some (.ref (He.ga K "_law_pairs_right"))
  d_wXpairsXright : FnT K "_law_pairs_right" "_law_pairs_right" s_wXpairsXright (He.ga K "_law_pairs_right")
  g_wXrefusedXright : mg "_law_refused_right" = some (.ref (He.ga K "_law_refused_right"))
  d_wXrefusedXright : FnT K "_law_refused_right" "_law_refused_right" s_wXrefusedXright (He.ga K "_law_refused_right")
  g_law : mg "law" = some (.ref (He.ga K "law"))
  d_law : FnT K "law" "law" s_law (He.ga K "law")
  g_Stops : mg "Stops" = some (.ref (cS K))
  c_Stops : Cls K (cS K)
  mk_Stops : Mk K (cS K) (aI K "Stops")
  na_hands : NoAttr K (cS K) "own_hands"
  na_bands : NoAttr K (cS K) "own_bands"
  ic_class : PySem.W.findIn K (.ref (cS K)) "__class__" = some (some (.builtin "object.__class__"))
  ic_get : PySem.W.specialIn K (.builtin "object.__class__") "__get__" = some (some (.builtin "getset_descriptor.__get__"))
  ic_take : PySem.W.takesIn K (.builtin "object.__class__") = some true
  ic_mro : PySem.W.mroIn K (cS K) (.type "object") = some true
  eq_f : PySem.W.findIn K (.ref (cS K)) "__eq__" = some (some (.ref (aS K "__eq__")))
  eq_fn : PySem.W.isFn K (.ref (aS K "__eq__")) = true
  sub_l : PySem.W.subIn K (.type "list") (.ref (cS K)) = some false
  ne_f : PySem.W.findIn K (.ref (cS K)) "__ne__" = some (some (.builtin "object.__ne__"))
  is_yes : PySem.W.kitOne K (.ref (cS K)) (.ref (cS K)) = some true
  is_no : PySem.W.kitOne K (.type "list") (.ref (cS K)) = some false
  g_BadBand : mg "BadBand" = some (.ref (He.ga K "BadBand"))
  x_BadBand : OexC K (He.ga K "BadBand")
  i_BadBand : PySem.W.findIn K (.ref (He.ga K "BadBand")) "__init__" = some (some (.ref (aI K "BadBand")))
  t_BadBand : PySem.W.typeIn K (.ref (aI K "BadBand")) = some (.type "function")
  f_BadBand : XfC K (He.ga K "BadBand")
  no_BadBand : PySem.W.findIn K (.ref (He.ga K "BadBand")) "index" = some none
  g_BadHands : mg "BadHands" = some (.ref (He.ga K "BadHands"))
  x_BadHands : OexC K (He.ga K "BadHands")
  i_BadHands : PySem.W.findIn K (.ref (He.ga K "BadHands")) "__init__" = some (some (.ref (aI K "BadHands")))
  t_BadHands : PySem.W.typeIn K (.ref (aI K "BadHands")) = some (.type "function")
  f_BadHands : XfC K (He.ga K "BadHands")
  no_BadHands : PySem.W.findIn K (.ref (He.ga K "BadHands")) "index" = some none
  g_BadNumber : mg "BadNumber" = some (.ref (He.ga K "BadNumber"))
  x_BadNumber : OexC K (He.ga K "BadNumber")
  i_BadNumber : PySem.W.findIn K (.ref (He.ga K "BadNumber")) "__init__" = some (some (.ref (aI K "BadNumber")))
  t_BadNumber : PySem.W.typeIn K (.ref (aI K "BadNumber")) = some (.type "function")
  f_BadNumber : XfC K (He.ga K "BadNumber")
  no_BadNumber : PySem.W.findIn K (.ref (He.ga K "BadNumber")) "thing" = some none
  g_NoHand : mg "NoHand" = some (.ref (He.ga K "NoHand"))
  x_NoHand : OexC K (He.ga K "NoHand")
  i_NoHand : PySem.W.findIn K (.ref (He.ga K "NoHand")) "__init__" = some (some (.ref (aI K "NoHand")))
  t_NoHand : PySem.W.typeIn K (.ref (aI K "NoHand")) = some (.type "function")
  f_NoHand : XfC K (He.ga K "NoHand")
  no_NoHand : PySem.W.findIn K (.ref (He.ga K "NoHand")) "thing" = some none
  e_BadHands_BadHands : PySem.W.exmOne K (.ref (He.ga K "BadHands")) (.ref (He.ga K "BadHands")) = some true
  e_BadHands_BadBand : PySem.W.exmOne K (.ref (He.ga K "BadHands")) (.ref (He.ga K "BadBand")) = some false
  e_BadHands_NoHand : PySem.W.exmOne K (.ref (He.ga K "BadHands")) (.ref (He.ga K "NoHand")) = some false
  e_BadHands_BadNumber : PySem.W.exmOne K (.ref (He.ga K "BadHands")) (.ref (He.ga K "BadNumber")) = some false
  e_BadBand_BadHands : PySem.W.exmOne K (.ref (He.ga K "BadBand")) (.ref (He.ga K "BadHands")) = some false
  e_BadBand_BadBand : PySem.W.exmOne K (.ref (He.ga K "BadBand")) (.ref (He.ga K "BadBand")) = some true
  e_BadBand_NoHand : PySem.W.exmOne K (.ref (He.ga K "BadBand")) (.ref (He.ga K "NoHand")) = some false
  e_BadBand_BadNumber : PySem.W.exmOne K (.ref (He.ga K "BadBand")) (.ref (He.ga K "BadNumber")) = some false
  e_NoHand_BadHands : PySem.W.exmOne K (.ref (He.ga K "NoHand")) (.ref (He.ga K "BadHands")) = some false
  e_NoHand_BadBand : PySem.W.exmOne K (.ref (He.ga K "NoHand")) (.ref (He.ga K "BadBand")) = some false
  e_NoHand_NoHand : PySem.W.exmOne K (.ref (He.ga K "NoHand")) (.ref (He.ga K "NoHand")) = some true
  e_NoHand_BadNumber : PySem.W.exmOne K (.ref (He.ga K "NoHand")) (.ref (He.ga K "BadNumber")) = some false
  e_BadNumber_BadHands : PySem.W.exmOne K (.ref (He.ga K "BadNumber")) (.ref (He.ga K "BadHands")) = some false
  e_BadNumber_BadBand : PySem.W.exmOne K (.ref (He.ga K "BadNumber")) (.ref (He.ga K "BadBand")) = some false
  e_BadNumber_NoHand : PySem.W.exmOne K (.ref (He.ga K "BadNumber")) (.ref (He.ga K "NoHand")) = some false
  e_BadNumber_BadNumber : PySem.W.exmOne K (.ref (He.ga K "BadNumber")) (.ref (He.ga K "BadNumber")) = some true
  tt : Tbs.tabs = [((He.cT K ("greatest_of", none)).2, (("greatest_of" : Str) ++ ".<locals>.") ++ "<lambda>"), ((He.cT K ("_law_refused_right", none)).2, (("_law_refused_right" : Str) ++ ".<locals>.") ++ "<lambda>")]
  t12 : (He.cT K ("greatest_of", none)).2 ≠ (He.cT K ("_law_refused_right", none)).2
  tb1 : LamX.TabB base mg (He.cT K ("greatest_of", none)).1 (He.cT K ("greatest_of", none)).2
  tb2 : LamX.TabB base mg (He.cT K ("_law_refused_right", none)).1 (He.cT K ("_law_refused_right", none)).2
section
variable {K : PySem.W.Frag} {mg : Str → Option Value} {base : Heap}
theorem bd_BadBandXinit (T : Top K mg base) : Binds K (fdOf K (He.ma K (He.ga K "BadBand") "__init__")) ["self", "index"] [] := T.d_BadBandXinit.bindsN fun _ _ _ _ _ _ us hl => match us, hl with | [_, _], _ => rfl
theorem bd_BadHandsXinit (T : Top K mg base) : Binds K (fdOf K (He.ma K (He.ga K "BadHands") "__init__")) ["self", "index"] [] := T.d_BadHandsXinit.bindsN fun _ _ _ _ _ _ us hl => match us, hl with | [_, _], _ => rfl
theorem bd_BadNumberXinit (T : Top K mg base) : Binds K (fdOf K (He.ma K (He.ga K "BadNumber") "__init__")) ["self", "thing"] [] := T.d_BadNumberXinit.bindsN fun _ _ _ _ _ _ us hl => match us, hl with | [_, _], _ => rfl
theorem bd_NoHandXinit (T : Top K mg base) : Binds K (fdOf K (He.ma K (He.ga K "NoHand") "__init__")) ["self", "thing"] [] := T.d_NoHandXinit.bindsN fun _ _ _ _ _ _ us hl => match us, hl with | [_, _], _ => rfl
theorem bd_isXlist (T : Top K mg base) : Binds K (fdOf K (He.ga K "is_list")) ["thing"] [] := T.d_isXlist.bindsN fun _ _ _ _ _ _ us hl => match us, hl with | [_], _ => rfl
theorem bd_isXinteger (T : Top K mg base) : Binds K (fdOf K (He.ga K "is_integer")) ["thing"] [] := T.d_isXinteger.bindsN fun _ _ _ _ _ _ us hl => match us, hl with | [_], _ => rfl
theorem bd_isXname (T : Top K mg base) : Binds K (fdOf K (He.ga K "is_name")) ["thing"] [] := T.d_isXname.bindsN fun _ _ _ _ _ _ us hl => match us, hl with | [_], _ => rfl
theorem bd_checkedXhands (T : Top K mg base) : Binds K (fdOf K (He.ga K "checked_hands")) ["hands"] [] := T.d_checkedXhands.bindsN fun _ _ _ _ _ _ us hl => match us, hl with | [_], _ => rfl
theorem bd_isXhandXof (T : Top K mg base) : Binds K (fdOf K (He.ga K "is_hand_of")) ["thing", "hands"] [] := T.d_isXhandXof.bindsN fun _ _ _ _ _ _ us hl => match us, hl with | [_, _], _ => rfl
theorem bd_isXlot (T : Top K mg base) : Binds K (fdOf K (He.ga K "is_lot")) ["thing", "hands"] [] := T.d_isXlot.bindsN fun _ _ _ _ _ _ us hl => match us, hl with | [_, _], _ => rfl
theorem bd_liesXin (T : Top K mg base) : Binds K (fdOf K (He.ga K "lies_in")) ["lot", "other"] [] := T.d_liesXin.bindsN fun _ _ _ _ _ _ us hl => match us, hl with | [_, _], _ => rfl
theorem bd_greatestXof (T : Top K mg base) : Binds K (fdOf K (He.ga K "greatest_of")) ["lots"] [] := T.d_greatestXof.bindsN fun _ _ _ _ _ _ us hl => match us, hl with | [_], _ => rfl
theorem bd_StopsXinit (T : Top K mg base) : Binds K (fdOf K (He.ma K (He.ga K "Stops") "__init__")) ["self", "hands", "bands"] [] := T.d_StopsXinit.bindsN fun _ _ _ _ _ _ us hl => match us, hl with | [_, _, _], _ => rfl
theorem bd_StopsXhands (T : Top K mg base) : Binds K (fdOf K (He.ma K (He.ga K "Stops") "hands")) ["self"] [] := T.d_StopsXhands.bindsN fun _ _ _ _ _ _ us hl => match us, hl with | [_], _ => rfl
theorem bd_StopsXbands (T : Top K mg base) : Binds K (fdOf K (He.ma K (He.ga K "Stops") "bands")) ["self"] [] := T.d_StopsXbands.bindsN fun _ _ _ _ _ _ us hl => match us, hl with | [_], _ => rfl
theorem bd_StopsXisXband (T : Top K mg base) : Binds K (fdOf K (He.ma K (He.ga K "Stops") "is_band")) ["self", "thing"] [] := T.d_StopsXisXband.bindsN fun _ _ _ _ _ _ us hl => match us, hl with | [_, _], _ => rfl
theorem bd_StopsXeq (T : Top K mg base) : Binds K (fdOf K (He.ma K (He.ga K "Stops") "__eq__")) ["self", "other"] [] := T.d_StopsXeq.bindsN fun _ _ _ _ _ _ us hl => match us, hl with | [_, _], _ => rfl
theorem bd_holdXall (T : Top K mg base) : Binds K (fdOf K (He.ga K "hold_all")) ["stops", "one", "other"] [] := T.d_holdXall.bindsN fun _ _ _ _ _ _ us hl => match us, hl with | [_, _, _], _ => rfl
theorem bd_twoXbands (T : Top K mg base) : Binds K (fdOf K (He.ga K "two_bands")) ["stops"] [] := T.d_twoXbands.bindsN fun _ _ _ _ _ _ us hl => match us, hl with | [_], _ => rfl
theorem bd_freeXhands (T : Top K mg base) : Binds K (fdOf K (He.ga K "free_hands")) ["stops"] [] := T.d_freeXhands.bindsN fun _ _ _ _ _ _ us hl => match us, hl with | [_], _ => rfl
theorem bd_checkXphases (T : Top K mg base) : Binds K (fdOf K (He.ga K "check_phases")) ["phases"] [] := T.d_checkXphases.bindsN fun _ _ _ _ _ _ us hl => match us, hl with | [_], _ => rfl
theorem bd_canXstore (T : Top K mg base) : Binds K (fdOf K (He.ga K "can_store")) ["stops", "phases"] [] := T.d_canXstore.bindsN fun _ _ _ _ _ _ us hl => match us, hl with | [_, _], _ => rfl
theorem bd_checkXpair (T : Top K mg base) : Binds K (fdOf K (He.ga K "check_pair")) ["stops", "writer", "reader"] [] := T.d_checkXpair.bindsN fun _ _ _ _ _ _ us hl => match us, hl with | [_, _, _], _ => rfl
theorem bd_halves (T : Top K mg base) : Binds K (fdOf K (He.ga K "halves")) ["stops", "writer", "reader"] [] := T.d_halves.bindsN fun _ _ _ _ _ _ us hl => match us, hl with | [_, _, _], _ => rfl
theorem bd_qXliesXin (T : Top K mg base) : Binds K (fdOf K (He.ga K "_law_o_lies_in")) ["_law_lot", "_law_other"] [] := T.d_qXliesXin.bindsN fun _ _ _ _ _ _ us hl => match us, hl with | [_, _], _ => rfl
theorem bd_qXjoined (T : Top K mg base) : Binds K (fdOf K (He.ga K "_law_o_joined")) ["_law_lots"] [] := T.d_qXjoined.bindsN fun _ _ _ _ _ _ us hl => match us, hl with | [_], _ => rfl
theorem bd_qXlists (T : Top K mg base) : Binds K (fdOf K (He.ga K "_law_o_lists")) ["_law_stream", "_law_hands_here"] [] := T.d_qXlists.bindsN fun _ _ _ _ _ _ us hl => match us, hl with | [_, _], _ => rfl
theorem bd_qXgreatest (T : Top K mg base) : Binds K (fdOf K (He.ga K "_law_o_greatest")) ["_law_bands"] [] := T.d_qXgreatest.bindsN fun _ _ _ _ _ _ us hl => match us, hl with | [_], _ => rfl
theorem bd_qXquorums (T : Top K mg base) : Binds K (fdOf K (He.ga K "_law_o_quorums")) ["_law_hands_here", "_law_bands", "_law_hand"] [] := T.d_qXquorums.bindsN fun _ _ _ _ _ _ us hl => match us, hl with | [_, _, _], _ => rfl
theorem bd_wXstart (T : Top K mg base) : Binds K (fdOf K (He.ga K "_law_start")) ["_law_script"] [] := T.d_wXstart.bindsN fun _ _ _ _ _ _ us hl => match us, hl with | [_], _ => rfl
theorem bd_wXdraw (T : Top K mg base) : Binds K (fdOf K (He.ga K "_law_draw")) ["_law_stream", "_law_many"] [] := T.d_wXdraw.bindsN fun _ _ _ _ _ _ us hl => match us, hl with | [_, _], _ => rfl
theorem bd_wXpick (T : Top K mg base) : Binds K (fdOf K (He.ga K "_law_pick")) ["_law_stream", "_law_some"] [] := T.d_wXpick.bindsN fun _ _ _ _ _ _ us hl => match us, hl with | [_, _], _ => rfl
theorem bd_wXmixed (T : Top K mg base) : Binds K (fdOf K (He.ga K "_law_mixed")) ["_law_stream", "_law_some"] [] := T.d_wXmixed.bindsN fun _ _ _ _ _ _ us hl => match us, hl with | [_, _], _ => rfl
theorem bd_wXsame (T : Top K mg base) : Binds K (fdOf K (He.ga K "_law_same")) ["_law_found", "_law_due"] [] := T.d_wXsame.bindsN fun _ _ _ _ _ _ us hl => match us, hl with | [_, _], _ => rfl
theorem bd_wXeachXonce (T : Top K mg base) : Binds K (fdOf K (He.ga K "_law_each_once")) ["_law_things"] [] := T.d_wXeachXonce.bindsN fun _ _ _ _ _ _ us hl => match us, hl with | [_], _ => rfl
theorem bd_wXhands (T : Top K mg base) : Binds K (fdOf K (He.ga K "_law_hands")) ["_law_stream", "_law_many"] [] := T.d_wXhands.bindsN fun _ _ _ _ _ _ us hl => match us, hl with | [_, _], _ => rfl
theorem bd_wXloose (T : Top K mg base) : Binds K (fdOf K (He.ga K "_law_loose")) ["_law_stream", "_law_thing"] [] := T.d_wXloose.bindsN fun _ _ _ _ _ _ us hl => match us, hl with | [_, _], _ => rfl
theorem bd_wXmet (T : Top K mg base) : Binds K (fdOf K (He.ga K "_law_met")) ["_law_ask"] [] := T.d_wXmet.bindsN fun _ _ _ _ _ _ us hl => match us, hl with | [_], _ => rfl
theorem bd_wXdoXmeet (T : Top K mg base) : Binds K (fdOf K (He.ga K "_law_do_meet")) ["_law_some", "_law_others"] [] := T.d_wXdoXmeet.bindsN fun _ _ _ _ _ _ us hl => match us, hl with | [_, _], _ => rfl
theorem bd_wXfirstXpair (T : Top K mg base) : Binds K (fdOf K (He.ga K "_law_first_pair")) ["_law_hands_here", "_law_bands", "_law_writer", "_law_reader"] [] := T.d_wXfirstXpair.bindsN fun _ _ _ _ _ _ us hl => match us, hl with | [_, _, _, _], _ => rfl
theorem bd_wXpairsXright (T : Top K mg base) : Binds K (fdOf K (He.ga K "_law_pairs_right")) ["_law_stops", "_law_hands_here", "_law_bands"] [] := T.d_wXpairsXright.bindsN fun _ _ _ _ _ _ us hl => match us, hl with | [_, _, _], _ => rfl
theorem bd_wXrefusedXright (T : Top K mg base) : Binds K (fdOf K (He.ga K "_law_refused_right")) ["_law_stream", "_law_stops", "_law_hands_here", "_law_lists"] [] := T.d_wXrefusedXright.bindsN fun _ _ _ _ _ _ us hl => match us, hl with | [_, _, _, _], _ => rfl
theorem bd_law (T : Top K mg base) : Binds K (fdOf K (He.ga K "law")) ["_law_script"] [] := T.d_law.bindsN fun _ _ _ _ _ _ us hl => match us, hl with | [_], _ => rfl
end
end K70
end
section
set_option maxHeartbeats 4000000
/-! names.py: the small tests. -/
namespace K70
open PySem PySem.Spec PyProof.Rows L2
variable [Tbs]
/-- is a list or a tuple | an integer -/
def isL : PyData → Bool
  | .list _ => true
  | .tuple _ => true
  | _ => false
def isI : PyData → Bool
  | .int _ => true
  | _ => false
/-- data in, data out, nothing written -/
def spD (n : Nat) (pre : List PyData → Prop) (f : List PyData → PyData) : Sp := fun vs H Q _ => ∃ A ds, Dom A H ∧ RepL (wo A H) ds vs ∧ ds.length = n ∧ pre ds ∧ ∀ v H', Ex [] H H' → Rep (wo A H') (f ds) v → Q v H'
theorem spD.len {n : Nat} {pre : List PyData → Prop} {f : List PyData → PyData} {vs : List V} {H : Hp} {Q : VK} {E : XK} (h : spD n pre f vs H Q E) : vs.length = n := by
  obtain ⟨A, ds, _, r, e, _⟩ := h
  rw [r.len, e]
theorem dat1 {n : Nat} {ds : List PyData} (e : ds.length = 1) : ∃ d, ds = [d] := by
  match ds, e with
  | [d], _ => exact ⟨d, rfl⟩
theorem dat2 {ds : List PyData} (e : ds.length = 2) : ∃ d d', ds = [d, d'] := by
  match ds, e with
  | [d, d'], _ => exact ⟨d, d', rfl⟩
theorem RepL.one {G : Hp} {d : PyData} {vs : List V} (h : RepL G [d] vs) : ∃ v, vs = [v] ∧ Rep G d v := by
  obtain ⟨v, r, e, h, t⟩ := h
  rw [show r = [] from t] at e
  exact ⟨v, e, h⟩
theorem RepL.two {G : Hp} {d d' : PyData} {vs : List V} (h : RepL G [d, d'] vs) : ∃ v u, vs = [v, u] ∧ Rep G d v ∧ Rep G d' u := by
  obtain ⟨v, r, e, h, t⟩ := h
  obtain ⟨u, e2, h2⟩ := RepL.one t
  rw [e2] at e
  exact ⟨v, u, e, h, h2⟩
/-- a built-in type among some -/
def anyB (a : String) : List String → Option Bool
  | [] => some false
  | c :: r => match kitB a c with
    | some true => some true
    | some false => anyB a r
    | none => none
theorem kit_any {K : PySem.W.Frag} {a : String} : ∀ {cs : List String} {b : Bool}, anyB a cs = some b → PySem.W.kitAny K (.type a) (cs.map Value.type) = some b
  | [], b, h => by
    cases h
    exact kitAny_nil
  | c :: r, b, h => by
    unfold anyB at h
    cases q : kitB a c with
    | none => rw [q] at h; cases h
    | some x =>
      rw [q] at h
      cases x with
      | true =>
        cases h
        exact kitAny_cons (b := true) (kit_ty q) (fun z => nomatch z) (fun _ => rfl)
      | false => exact kitAny_cons (b := false) (kit_ty q) (fun _ => kit_any h) (fun z => nomatch z)
theorem kit_isL {K : PySem.W.Frag} (d : PyData) : PySem.W.kitAny K (.type (tyn d)) [.type "list", .type "tuple"] = some (isL d) := by
  refine kit_any (cs := ["list", "tuple"]) ?_
  cases d with
  | none => exact (by decide +kernel : anyB "NoneType" ["list", "tuple"] = some false)
  | bool b => exact (by decide +kernel : anyB "bool" ["list", "tuple"] = some false)
  | int b => exact (by decide +kernel : anyB "int" ["list", "tuple"] = some false)
  | str b => exact (by decide +kernel : anyB "str" ["list", "tuple"] = some false)
  | list b => exact (by decide +kernel : anyB "list" ["list", "tuple"] = some true)
  | tuple b => exact (by decide +kernel : anyB "tuple" ["list", "tuple"] = some true)
  | dict b => exact (by decide +kernel : anyB "dict" ["list", "tuple"] = some false)
section
variable {P : Program} {w : World} {K : PySem.W.Frag} {mg : Str → Option Value} {base : Heap}
abbrev spIsList : Sp := spD 1 (fun _ => True) fun ds => .bool (isL (ds.getD 0 .none))
theorem ok_isXlist (T : Top K mg base) : FnOk P w K mg base CX0 2 (He.ga K "is_list") (fdOf K (He.ga K "is_list")) ["thing"] spIsList := by
  refine T.d_isXlist.ok sc_isXlist (fun vs H Q E h => ?len) (fun cdv A outer s H vs Q E hr h => ⟨_, PSs.nox (pss_one (ps_ret (pe_callB call_isiT (by rfl) T.n_isinstance (by decide +kernel) (pa_cons (pv 0) (pa_cons (pe_tup (pa_cons (pe_bltn (v := .ty "list") (by rfl) T.n_list (by decide +kernel) rfl) (pa_cons (pe_bltn (v := .ty "tuple") (by rfl) T.n_tuple (by decide +kernel) rfl) pa_nil))) pa_nil))))), ?go⟩)
  case len => exact h.len
  case go =>
    obtain ⟨A, ds, dA, r, e, _, k⟩ := h
    obtain ⟨d, rfl⟩ := dat1 (n := 0) e
    obtain ⟨v, rfl, rv⟩ := r.one
    refine ⟨_, rfl, (by show 2 ≤ sizeLine; decide), fun p hp => ?_⟩
    have ex : Ex [] H (upd H p (.tup [.ty "list", .ty "tuple"])) := Ex.new hp
    exact ⟨v, p, [.ty "list", .ty "tuple"], _, [.type "list", .type "tuple"], _, rfl, upd_same, .cons (.ty _) (.cons (.ty _) .nil), (rv.mono ex.any.old).ty, kit_isL d, k _ _ ex rfl⟩

theorem kit_tyn {K : PySem.W.Frag} {d : PyData} {T : String} {b : Bool} (h : kitB (tyn d) T = some b) : PySem.W.kitOne K (.type (tyn d)) (.type T) = some b := kit_ty h
def isIB : PyData → Bool
  | .int _ => true
  | .bool _ => true
  | _ => false
def isB : PyData → Bool
  | .bool _ => true
  | _ => false
def isS : PyData → Bool
  | .str _ => true
  | _ => false
theorem kit_int (d : PyData) : kitB (tyn d) "int" = some (isIB d) := by
  cases d with
  | none => exact (by decide +kernel : kitB "NoneType" "int" = some false)
  | bool b => exact (by decide +kernel : kitB "bool" "int" = some true)
  | int b => exact (by decide +kernel : kitB "int" "int" = some true)
  | str b => exact (by decide +kernel : kitB "str" "int" = some false)
  | list b => exact (by decide +kernel : kitB "list" "int" = some false)
  | tuple b => exact (by decide +kernel : kitB "tuple" "int" = some false)
  | dict b => exact (by decide +kernel : kitB "dict" "int" = some false)
theorem kit_bool (d : PyData) : kitB (tyn d) "bool" = some (isB d) := by
  cases d with
  | none => exact (by decide +kernel : kitB "NoneType" "bool" = some false)
  | bool b => exact (by decide +kernel : kitB "bool" "bool" = some true)
  | int b => exact (by decide +kernel : kitB "int" "bool" = some false)
  | str b => exact (by decide +kernel : kitB "str" "bool" = some false)
  | list b => exact (by decide +kernel : kitB "list" "bool" = some false)
  | tuple b => exact (by decide +kernel : kitB "tuple" "bool" = some false)
  | dict b => exact (by decide +kernel : kitB "dict" "bool" = some false)
theorem kit_str (d : PyData) : kitB (tyn d) "str" = some (isS d) := by
  cases d with
  | none => exact (by decide +kernel : kitB "NoneType" "str" = some false)
  | bool b => exact (by decide +kernel : kitB "bool" "str" = some false)
  | int b => exact (by decide +kernel : kitB "int" "str" = some false)
  | str b => exact (by decide +kernel : kitB "str" "str" = some true)
  | list b => exact (by decide +kernel : kitB "list" "str" = some false)
  | tuple b => exact (by decide +kernel : kitB "tuple" "str" = some false)
  | dict b => exact (by decide +kernel : kitB "dict" "str" = some false)
abbrev spIsInt : Sp := spD 1 (fun _ => True) fun ds => .bool (isI (ds.getD 0 .none))
theorem ok_isXinteger (T : Top K mg base) : FnOk P w K mg base CX0 2 (He.ga K "is_integer") (fdOf K (He.ga K "is_integer")) ["thing"] spIsInt := by
  refine T.d_isXinteger.ok sc_isXinteger (fun vs H Q E h => ?len) (fun cdv A outer s H vs Q E hr h => ⟨_, PSs.nox (pss_one (ps_ret (pe_and (pe_callB call_isi (by rfl) T.n_isinstance (by decide +kernel) (pa_cons (pv 0) (pa_cons (pe_bltn (v := .ty "int") (by rfl) T.n_int (by decide +kernel) rfl) pa_nil))) (pe_one (pe_not (pe_callB call_isi (by rfl) T.n_isinstance (by decide +kernel) (pa_cons (pv 0) (pa_cons (pe_bltn (v := .ty "bool") (by rfl) T.n_bool (by decide +kernel) rfl) pa_nil)))))))), ?go⟩)
  case len => exact h.len
  case go =>
    obtain ⟨A, ds, dA, r, e, _, k⟩ := h
    obtain ⟨d, rfl⟩ := dat1 (n := 0) e
    obtain ⟨v, rfl, rv⟩ := r.one
    refine ⟨_, rfl, v, _, _, _, _, rfl, .ty _, rv.ty, kit_tyn (kit_int d), _, rfl, ?_⟩
    have fin : Q (.bl (isI d)) H := k _ _ (Ex.refl _ _) rfl
    refine ite2 (fun c => ?_) (fun c => ?_)
    · refine ⟨_, rfl, v, _, _, _, _, rfl, .ty _, rv.ty, kit_tyn (kit_bool d), _, rfl, ?_⟩
      cases d <;> first | exact fin | cases c
    · cases d <;> first | exact fin | exact absurd rfl c
/-- the letters, the figures -/
abbrev SM : List Nat := SMZ.cps.toList
abbrev FG : List Nat := FGZ.cps.toList
def okC (c : Nat) : Bool := decide (c ∈ SM) || decide (c ∈ FG)
def isNm (z : Str) : Bool := decide ((1 : Int) ≤ (z.length : Nat)) && decide (((z.length : Nat) : Int) ≤ 8) && (match z.cps.toList with
  | c :: _ => decide (c ∈ SM)
  | [] => false) && z.cps.toList.all okC
def nameD : PyData → Bool
  | .str z => isNm z
  | _ => false
/-- a text of reasonable length, or no text -/
def shrt : PyData → Prop
  | .str z => z.length ≤ 1000
  | _ => True
abbrev spIsName : Sp := spD 1 (fun ds => shrt (ds.getD 0 .none)) fun ds => .bool (nameD (ds.getD 0 .none))
theorem ok_isXname (T : Top K mg base) : FnOk P w K mg base CX0 2 (He.ga K "is_name") (fdOf K (He.ga K "is_name")) ["thing"] spIsName := by
  refine T.d_isXname.ok sc_isXname (fun vs H Q E h => ?len) (fun cdv A outer s H vs Q E hr h => ⟨_, PSs.nox (pss_cons (ps_if (PW.pt (pw_or (pt_not (pt_val (pe_callB call_isi (by rfl) T.n_isinstance (by decide +kernel) (pa_cons (pv 0) (pa_cons (pe_bltn (v := .ty "str") (by rfl) T.n_str (by decide +kernel) rfl) pa_nil))))) (pw_or (pt_not (pt_chain op_le op_le pe_int (pe_callB call_len_str (by rfl) T.n_len (by decide +kernel) (pa_cons (pv 0) pa_nil)) pe_int)) (pw_or1 (pt_cmpR op_notIn_sign (pe_ix ix_str (pv 0) pe_int (fun _ _ => rfl)) (pe_glob (v := .str SMZ) rfl T.g_SMALL.choose_spec ⟨_, rfl⟩) (by rfl)))))) (pss_one (ps_ret pe_bl)) pss_nil)
    (pss_one (ps_ret (pe_callB (cr_allS rfl) (by rfl) T.n_all (by decide +kernel) (pa_cons (pe_lc (own := [("sign", 1)]) (g := gName 1) (tt := _) rfl sc_isXname.nd (pi_str (pv 0)) (blkOk_by (by kernel_rfl)) (fun _ _ _ _ _ => (pg_name (i := 1) sc_isXname.nd rfl (Or.inl rfl))) (fun _ _ _ _ _ => pts_nil) (fun _ _ _ _ _ => (pe_or (pe_cmpR op_in_sign (pv 1) (pe_glob (v := .str SMZ) rfl T.g_SMALL.choose_spec ⟨_, rfl⟩) (by rfl)) (pe_one (pe_cmpR op_in_sign (pv 1) (pe_glob (v := .str FGZ) rfl T.g_FIGURES.choose_spec ⟨_, rfl⟩) (by rfl)))))) pa_nil))))), ?go⟩)
  case len => exact h.len
  case go =>
    obtain ⟨A, ds, dA, r, e, hs, k⟩ := h
    obtain ⟨d, rfl⟩ := dat1 (n := 0) e
    obtain ⟨v, rfl, rv⟩ := r.one
    have fin : Q (.bl (nameD d)) H := k _ _ (Ex.refl _ _) rfl
    refine ⟨_, rfl, v, _, _, _, _, rfl, .ty _, rv.ty, kit_tyn (kit_str d), _, rfl, ?_⟩
    cases d with
    | str z =>
      obtain rfl : v = .str z := rv
      have hz : z.length ≤ 1000 := hs
      refine iteF ?_
      refine ⟨_, rfl, z, rfl, Nat.le_trans hz (by decide), _, _, rfl, rfl, _, rfl, ?_⟩
      by_cases c1 : (1 : Int) ≤ ((z.length : Nat) : Int)
      · rw [if_pos (decide_eq_true c1)]
        refine ⟨_, _, rfl, rfl, _, rfl, ?_⟩
        by_cases c2 : ((z.length : Nat) : Int) ≤ 8
        · rw [decide_eq_true c2]
          refine iteF ?_
          obtain ⟨c, l, hl⟩ : ∃ c l, z.cps.toList = c :: l := by
            cases q : z.cps.toList with
            | nil =>
              have : z.length = 0 := by
                show z.cps.size = 0
                rw [← Array.length_toList, q]; rfl
              omega
            | cons c l => exact ⟨c, l, rfl⟩
          have ea : atI z.cps.toList 0 = some c := by rw [hl]; exact atI_nat (j := 0) rfl
          refine ⟨_, rfl, z, 0, c, rfl, rfl, Nat.le_trans hz (by decide), ea, c, SMZ, rfl, rfl, _, rfl, ?_⟩
          by_cases c3 : c ∈ SMZ.cps.toList
          · rw [decide_eq_true c3]
            refine iteF ?_
            have en : nameD (.str z) = (z.cps.toList.map okC).all id := by
              show isNm z = _
              unfold isNm
              rw [hl]
              simp only [decide_eq_true c1, decide_eq_true c2, decide_eq_true c3, Bool.true_and, List.all_map]
              rfl
            refine ⟨_, rfl, z, rfl, lc_map (src_str (z := z)) (A := []) z.cps.toList (fun _ => true) (fun c => .bool (okC c)) (by simp) Dom.nil (by have h1 : z.cps.size ≤ 1000 := hz; omega) (fun _ _ => trivial) ?_ ?_⟩
            · rintro i c' x A1 H1 H2 Kt Kf hi _ d1 s1 e1 ⟨rfl, c4, h4, rfl⟩ kt kf
              have e4 : c4 = c' := by
                rw [← Array.getElem?_toList] at h4
                exact Option.some.inj (h4.symm.trans hi)
              subst e4
              refine ⟨rfl, _, rfl, c4, SMZ, rfl, rfl, _, rfl, ?_⟩
              by_cases c5 : c4 ∈ SMZ.cps.toList
              · rw [decide_eq_true c5]
                refine iteT (kt rfl _ _ (Ex.refl _ _) ?_)
                show V.bl true = .bl (okC c4)
                unfold okC
                rw [decide_eq_true c5]
                rfl
              · rw [decide_eq_false c5]
                refine iteF ⟨_, rfl, c4, FGZ, rfl, rfl, kt rfl _ _ (Ex.refl _ _) ?_⟩
                show V.bl _ = .bl (okC c4)
                unfold okC
                rw [decide_eq_false c5]
                rfl
            · intro D H' hD e1 r1
              obtain ⟨a, vs, ea, h1, r1⟩ := r1
              obtain rfl : D = a := by cases ea; rfl
              have el : (z.cps.toList.filter fun _ => true).map (fun c => PyData.bool (okC c)) = (z.cps.toList.map okC).map .bool := by
                rw [List.map_map, List.filter_eq_self.mpr (fun _ _ => rfl)]
                rfl
              rw [el] at r1
              rw [RepL.bls.mp r1] at h1
              refine ⟨D, _, rfl, wo_at h1, ?_⟩
              exact k _ _ e1 (show V.bl ((z.cps.toList.map okC).all id) = V.bl (nameD (.str z)) by rw [en])
          · rw [decide_eq_false c3]
            refine iteT ?_
            have en : nameD (.str z) = false := by
              show isNm z = false
              unfold isNm
              rw [hl]
              simp only [decide_eq_false c3, Bool.and_false, Bool.false_and]
            rw [en] at fin
            exact fin
        · rw [decide_eq_false c2]
          refine iteT (iteT ?_)
          have en : nameD (.str z) = false := by
            show isNm z = false
            unfold isNm
            simp only [decide_eq_false c2, Bool.and_false, Bool.false_and]
          rw [en] at fin
          exact fin
      · rw [if_neg (by simpa using c1)]
        refine ⟨_, rfl, iteT (iteT ?_)⟩
        have en : nameD (.str z) = false := by
          show isNm z = false
          unfold isNm
          simp only [decide_eq_false c1, Bool.false_and]
        rw [en] at fin
        exact fin
    | _ => exact iteT (iteT fin)
/-- is one of some hands -/
def handD (d : PyData) (hs : List Str) : Bool := nameD d && (match d with
  | .str z => decide (z ∈ hs)
  | _ => false)
theorem inV_strs {z : Str} : ∀ {hs : List Str}, inV (.str z) (hs.map V.str) = decide (z ∈ hs)
  | [] => rfl
  | h :: hs => by
    have ih := inV_strs (z := z) (hs := hs)
    unfold inV at ih ⊢
    rw [List.map_cons, List.any_cons, ih]
    have e : eqV (.str h) (.str z) = decide (z = h) := by
      show decide (h = z) = decide (z = h)
      exact decide_eq_decide.mpr ⟨fun e => e.symm, fun e => e.symm⟩
    rw [e]
    by_cases q : z = h
    · simp [q]
    · simp [q]
theorem flat_strs {hs : List Str} : (hs.map V.str).all flatV = true := by
  rw [List.all_map]
  exact List.all_eq_true.2 fun _ _ => rfl
def spHandOf : Sp := fun vs H Q _ => ∃ A d hs v a, Dom A H ∧ vs = [v, .ref a] ∧ Rep (wo A H) d v ∧ H a = some (.lst (hs.map V.str)) ∧ shrt d ∧ ∀ H', Ex [] H H' → Q (.bl (handD d hs)) H'
theorem ok_isXhandXof (T : Top K mg base) : FnOk P w K mg base CX0 3 (He.ga K "is_hand_of") (fdOf K (He.ga K "is_hand_of")) ["thing", "hands"] spHandOf := by
  have G_isXname := ok_isXname (P := P) (w := w) T
  have b_isXname := bd_isXname T
  refine T.d_isXhandXof.ok sc_isXhandXof (fun vs H Q E h => ?len) (fun cdv A outer s H vs Q E hr h => ⟨_, PSs.nox (pss_one (ps_ret (pe_and (pe_call G_isXname (hr.mono (by decide)) rfl T.g_isXname T.d_isXname.kp b_isXname .nil pass0 (pa_cons (pv 0) pa_nil)) (pe_one (pe_cmpR op_inS (pv 0) (pv 1) (by rfl)))))), ?go⟩)
  case len =>
    obtain ⟨A, d, hs, v, a, _, rfl, _⟩ := h
    rfl
  case go =>
    obtain ⟨A, d, hs, v, a, dA, rfl, rv, ha, sh, k⟩ := h
    refine ⟨_, rfl, A, [d], dA, .cons rv .nil, rfl, sh, fun u H1 e1 ru => ?_⟩
    obtain rfl : u = .bl (nameD d) := ru
    refine ⟨_, rfl, ?_⟩
    by_cases c : nameD d = true
    · rw [if_pos c]
      cases d with
      | str z =>
        obtain rfl : v = .str z := rv
        refine ⟨_, rfl, _, rfl, a, hs.map V.str, rfl, .inl (e1.at ha), rfl, flat_strs, ?_⟩
        have q := k H1 e1
        have en : handD (.str z) hs = inV (.str z) (hs.map V.str) := by
          rw [inV_strs]
          unfold handD
          rw [c, Bool.true_and]
        rw [en] at q
        exact q
      | _ => cases c
    · rw [if_neg c]
      have q := k H1 e1
      have en : handD d hs = false := by
        unfold handD
        rw [Bool.not_eq_true _ |>.mp c, Bool.false_and]
      rw [en] at q
      exact q
end
end K70
end
section
set_option maxHeartbeats 4000000
/-! The errors; checked_hands. -/
namespace K70
open PySem PySem.Spec PyProof.Rows L2
variable [Tbs]
/-- __init__ of an error: its one field -/
def spInitX (C : Addr) (f : Str) : Sp := fun vs H Q _ => ∃ a y, vs = [.ref a, y] ∧ H a = some (exo a C none) ∧ ∀ dx, H dx = none → dx ≠ a → Q .non (upd (upd H dx (exd dx [(f, y)])) a (exo a C (some dx)))
theorem mkErr {C : Addr} {f : Str} {y : V} {H1 : Hp} {Q : XK} (h : ∀ d, H1 d = none → Q (.ref C) (some d) (upd H1 d (.xd [(f, y)]))) :
    tMkO C (spInitX C f) [] (fun _ _ R => R [y] H1) [] H1 Q := by
  refine ⟨by show 1 ≤ 1000; decide, fun a ha => ⟨a, y, rfl, upd_same, fun dx hd ne => ⟨rfl, dx, [(f, y)], upd_same, ?_, ?_, ?_⟩⟩⟩
  · rw [upd_ne ne, upd_same]
  · rw [upd_ne ne] at hd
    exact hd
  · rw [upd_ne ne] at hd
    have e : upd (del (upd (upd (upd H1 a (exo a C none)) dx (exd dx [(f, y)])) a (exo a C (some dx))) a) dx (.xd [(f, y)]) = upd H1 dx (.xd [(f, y)]) := by
      funext b
      by_cases h1 : b = dx
      · rw [h1, upd_same, upd_same]
      · rw [upd_ne h1, upd_ne h1]
        by_cases h2 : b = a
        · rw [h2, del_same, ha]
        · rw [del_ne h2, upd_ne h2, upd_ne h1, upd_ne h2]
    rw [e]
    exact h dx hd
/-- an error of the class x with the field f is let out -/
def Err (K : PySem.W.Frag) (x f : Str) (H : Hp) (E : XK) (y : V) : Prop := ∀ e H', Ex [] H H' → H' e = some (.xd [(f, y)]) → E (.ref (He.ga K x)) (some e) H'
section
variable {P : Program} {w : World} {K : PySem.W.Frag} {mg : Str → Option Value} {base : Heap}
theorem ok_BadBandXinit (T : Top K mg base) : FnOk P w K mg base CX0 2 (He.ma K (He.ga K "BadBand") "__init__") (fdOf K (He.ma K (He.ga K "BadBand") "__init__")) ["self", "index"] (spInitX (He.ga K "BadBand") "index") := by
  refine T.d_BadBandXinit.ok sc_BadBandXinit (fun vs H Q E h => ?len) (fun cdv A outer s H vs Q E hr h => ⟨_, PSs.nox (pss_one (ps_ost (pv 0) (pv 1))), ?go⟩)
  case len =>
    obtain ⟨a, y, rfl, _⟩ := h
    rfl
  case go =>
    obtain ⟨a, y, rfl, ha, k⟩ := h
    exact ⟨_, rfl, _, rfl, a, _, rfl, T.x_BadBand, T.no_BadBand, .inl ⟨ha, k⟩⟩
theorem ok_BadHandsXinit (T : Top K mg base) : FnOk P w K mg base CX0 2 (He.ma K (He.ga K "BadHands") "__init__") (fdOf K (He.ma K (He.ga K "BadHands") "__init__")) ["self", "index"] (spInitX (He.ga K "BadHands") "index") := by
  refine T.d_BadHandsXinit.ok sc_BadHandsXinit (fun vs H Q E h => ?len) (fun cdv A outer s H vs Q E hr h => ⟨_, PSs.nox (pss_one (ps_ost (pv 0) (pv 1))), ?go⟩)
  case len =>
    obtain ⟨a, y, rfl, _⟩ := h
    rfl
  case go =>
    obtain ⟨a, y, rfl, ha, k⟩ := h
    exact ⟨_, rfl, _, rfl, a, _, rfl, T.x_BadHands, T.no_BadHands, .inl ⟨ha, k⟩⟩
theorem ok_BadNumberXinit (T : Top K mg base) : FnOk P w K mg base CX0 2 (He.ma K (He.ga K "BadNumber") "__init__") (fdOf K (He.ma K (He.ga K "BadNumber") "__init__")) ["self", "thing"] (spInitX (He.ga K "BadNumber") "thing") := by
  refine T.d_BadNumberXinit.ok sc_BadNumberXinit (fun vs H Q E h => ?len) (fun cdv A outer s H vs Q E hr h => ⟨_, PSs.nox (pss_one (ps_ost (pv 0) (pv 1))), ?go⟩)
  case len =>
    obtain ⟨a, y, rfl, _⟩ := h
    rfl
  case go =>
    obtain ⟨a, y, rfl, ha, k⟩ := h
    exact ⟨_, rfl, _, rfl, a, _, rfl, T.x_BadNumber, T.no_BadNumber, .inl ⟨ha, k⟩⟩
theorem ok_NoHandXinit (T : Top K mg base) : FnOk P w K mg base CX0 2 (He.ma K (He.ga K "NoHand") "__init__") (fdOf K (He.ma K (He.ga K "NoHand") "__init__")) ["self", "thing"] (spInitX (He.ga K "NoHand") "thing") := by
  refine T.d_NoHandXinit.ok sc_NoHandXinit (fun vs H Q E h => ?len) (fun cdv A outer s H vs Q E hr h => ⟨_, PSs.nox (pss_one (ps_ost (pv 0) (pv 1))), ?go⟩)
  case len =>
    obtain ⟨a, y, rfl, _⟩ := h
    rfl
  case go =>
    obtain ⟨a, y, rfl, ha, k⟩ := h
    exact ⟨_, rfl, _, rfl, a, _, rfl, T.x_NoHand, T.no_NoHand, .inl ⟨ha, k⟩⟩
/-- what checked_hands makes of data -/
def okN (d : PyData) (acc : Lot) : Option Str := match d with
  | .str z => if isNm z = true ∧ z ∉ acc then some z else none
  | _ => none
def chkGo : Nat → List PyData → Lot → Except Nat Lot
  | _, [], acc => .ok acc
  | i, d :: r, acc => match okN d acc with
    | some z => chkGo (i + 1) r (acc ++ [z])
    | none => .error i
def chkL (ds : List PyData) : Except Nat Lot := match chkGo 0 ds [] with
  | .ok acc => if acc.length < 2 then .error acc.length else .ok (srt acc)
  | .error i => .error i
def chk : PyData → Except Nat Lot
  | .list ds => chkL ds
  | .tuple ds => chkL ds
  | _ => .error 0
/-- the items of a list or a tuple -/
def itemsD : PyData → List PyData
  | .list ds => ds
  | .tuple ds => ds
  | _ => []
def spChk (K : PySem.W.Frag) : Sp := fun vs H Q E => ∃ A d v, Dom A H ∧ vs = [v] ∧ Rep (wo A H) d v ∧ (itemsD d).length ≤ 60 ∧ (∀ x ∈ itemsD d, shrt x) ∧
  (∀ hs, chk d = .ok hs → ∀ a H', Ex [] H H' → H a = none → H' a = some (.lst (hs.map V.str)) → Q (.ref a) H') ∧
  (∀ i, chk d = .error i → Err K "BadHands" "index" H E (.int (i : Nat)))
theorem ok_checkedXhands (T : Top K mg base) : FnOk P w K mg base (L2.CX P w) 4 (He.ga K "checked_hands") (fdOf K (He.ga K "checked_hands")) ["hands"] (spChk K) := by
  have G_isXlist := ok_isXlist (P := P) (w := w) T
  have b_isXlist := bd_isXlist T
  have G_BadHandsXinit := ok_BadHandsXinit (P := P) (w := w) T
  have b_BadHandsXinit := bd_BadHandsXinit T
  have G_isXname := ok_isXname (P := P) (w := w) T
  have b_isXname := bd_isXname T
  refine T.d_checkedXhands.ok sc_checkedXhands (fun vs H Q E h => ?len) (fun cdv A outer s H vs Q E hr h =>
    have tk : Takes (cxOf (L2.CX P w) P w K mg base ["hands", "found", "index", "hand"] "checked_hands" (defScope s_checkedXhands) (He.ga K "checked_hands") cdv A outer s H E) (fun cls d _ H => E cls d H) := takes_of rfl rfl rfl rfl
    ⟨_, (pss_cons (ps_if (pt_not (pt_val (pe_call G_isXlist (hr.mono (by decide)) rfl T.g_isXlist T.d_isXlist.kp b_isXlist .nil pass0 (pa_cons (pv 0) pa_nil)))) (pss_one (ps_raise rfl tk (pmk_oex T.x_BadHands T.i_BadHands T.t_BadHands G_BadHandsXinit (hr.mono (by decide)) b_BadHandsXinit .nil pass0 rfl T.g_BadHands (pa_cons pe_int pa_nil)))) pss_nil)
    (pss_cons (ps_set (i := 1) sc_checkedXhands.nd rfl (Or.inl rfl) (pe_lst pa_nil))
    (pss_cons (ps_for (passes_of rfl) rfl (pi_enumB rfl T.n_enumerate (pa_cons (pv 0) pa_nil)) (pg_tup rfl (pgs_cons (pg_name (i := 2) sc_checkedXhands.nd rfl (Or.inl rfl)) (pgs_cons (pg_name (i := 3) sc_checkedXhands.nd rfl (Or.inl rfl)) pgs_nil))) (pss_cons (ps_if (PW.pt (pw_or (pt_not (pt_val (pe_call G_isXname (hr.mono (by decide)) rfl T.g_isXname T.d_isXname.kp b_isXname .nil pass0 (pa_cons (pv 3) pa_nil)))) (pw_or1 (pt_cmpR op_inS (pv 3) (pv 1) (by rfl))))) (pss_one (ps_raise rfl tk (pmk_oex T.x_BadHands T.i_BadHands T.t_BadHands G_BadHandsXinit (hr.mono (by decide)) b_BadHandsXinit .nil pass0 rfl T.g_BadHands (pa_cons (pv 2) pa_nil)))) pss_nil)
    (pss_one (ps_expr (pe_bm PySem.F.plainAttrs_list PySem.F.slot_list_append PySem.F.type_list_append mt_append (pv 1) (pa_cons (pv 3) pa_nil))))))
    (pss_cons (ps_if (pt_cmpR op_lt (pe_callB call_lenS (by rfl) T.n_len (by decide +kernel) (pa_cons (pv 1) pa_nil)) pe_int (nomark _)) (pss_one (ps_raise rfl tk (pmk_oex T.x_BadHands T.i_BadHands T.t_BadHands G_BadHandsXinit (hr.mono (by decide)) b_BadHandsXinit .nil pass0 rfl T.g_BadHands (pa_cons (pe_callB call_lenS (by rfl) T.n_len (by decide +kernel) (pa_cons (pv 1) pa_nil)) pa_nil)))) pss_nil)
    (pss_one (ps_ret (pe_callB cr_sortedQ (by rfl) T.n_sorted (by decide +kernel) (pa_cons (pv 1) pa_nil)))))))), ?go⟩)
  case len =>
    obtain ⟨A, d, v, _, rfl, _⟩ := h
    rfl
  case go =>
    obtain ⟨A, d, v, dA, rfl, rv, hl, hs, kq, ke⟩ := h
    refine ⟨_, rfl, A, [d], dA, .cons rv .nil, rfl, trivial, fun u H0 e0 ru => ?_⟩
    obtain rfl : u = .bl (isL d) := ru
    refine ⟨_, rfl, ?_⟩
    by_cases hd : isL d = true
    · rw [hd]
      refine iteF ?_
      have hd2 : (∃ ds, d = .list ds) ∨ ∃ ds, d = .tuple ds := by
        cases d <;> first | exact .inl ⟨_, rfl⟩ | exact .inr ⟨_, rfl⟩ | cases hd
      obtain ⟨a, vs, ds, rfl, ho, rL⟩ := rv.items hd2
      have hi : itemsD d = ds := by rcases ho with ⟨rfl, _⟩ | ⟨rfl, _⟩ <;> rfl
      have hck : chk d = chkL ds := by rcases ho with ⟨rfl, _⟩ | ⟨rfl, _⟩ <;> rfl
      have hO : wo A H0 a = some (.lst vs) ∨ wo A H0 a = some (.tup vs) := by
        rcases ho with ⟨_, ho⟩ | ⟨_, ho⟩
        · exact .inl (e0.any.old _ _ ho)
        · exact .inr (e0.any.old _ _ ho)
      have dA0 : Dom A H0 := dA.ex e0
      have rL0 := rL.mono e0.any.old
      rw [hi] at hl hs
      rw [hck] at kq ke
      clear hd2 hd ho rL hck rv
      refine ⟨by show 0 ≤ sizeLine; decide, fun p hp => ?_⟩
      have hpA : p ∉ A := dA0.not hp
      have hO1 : upd H0 p (.lst []) a = some (.lst vs) ∨ upd H0 p (.lst []) a = some (.tup vs) := by
        rcases hO with h | h
        · exact .inl (by rw [upd_ne (ne_of_none (wo_at h) hp)]; exact wo_at h)
        · exact .inr (by rw [upd_ne (ne_of_none (wo_at h) hp)]; exact wo_at h)
      have hpa : a ≠ p := by
        rcases hO with h | h <;> exact ne_of_none (wo_at h) hp
      refine ⟨_, rfl, a, vs, rfl, hO1, fun J Ok S hok => for_src S (fun i σ H' => ∃ acc x y, σ = [some (.ref a), some (.ref p), x, y] ∧ Ex [] H0 H' ∧ H' p = some (.lst (acc.map V.str)) ∧ acc.length = i ∧ chkGo 0 ds [] = chkGo i (ds.drop i) acc)
        ⟨[], _, _, rfl, Ex.new hp, upd_same, rfl, by simp⟩ (fun i σ H' hi ⟨acc, x, y, _, e1, _⟩ => hok H' ?_) ?_ ?_⟩
      · rw [upd_ne hpa]
        rcases hO with h | h
        · rw [wo_at h]; exact e1.at (wo_at h)
        · rw [wo_at h]; exact e1.at (wo_at h)
      · rintro i x σ H1 H2 hi ⟨acc, x2, y2, rfl, e1, hp1, hlen, hgo⟩ ⟨Tt, y, rfl, hT, rfl, hy⟩
        obtain ⟨dy, hdy, ry⟩ := rL0.get hy
        have e2 : Ex [] H1 (upd H1 Tt (.tup [.int (i : Nat), y])) := Ex.new hT
        have ry2 : Rep (wo A (upd H1 Tt (.tup [.int (i : Nat), y]))) dy y := ry.mono ((e1.trans e2).any.old)
        have hdrop : ds.drop i = dy :: ds.drop (i + 1) := by
          obtain ⟨hlt, e⟩ := List.getElem?_eq_some_iff.mp hdy
          rw [← e]
          exact List.drop_eq_getElem_cons hlt
        rw [hdrop] at hgo
        refine ⟨Tt, _, rfl, SqT.of upd_same, rfl, _, _, rfl, _, _, rfl, rfl, ?_⟩
        refine ⟨_, rfl, A, [dy], (dA0.ex (e1.trans e2)), .cons ry2 .nil, rfl, hs dy (List.mem_of_getElem? hdy), fun u H3 e3 ru => ?_⟩
        obtain rfl : u = .bl (nameD dy) := ru
        have hp3 : H3 p = some (.lst (acc.map V.str)) := (e2.trans e3).at hp1
        have e03 : Ex [] H0 H3 := (e1.trans e2).trans e3
        have bad : okN dy acc = none → E (.ref (He.ga K "BadHands")) = E (.ref (He.ga K "BadHands")) → ∀ dd, H3 dd = none → E (.ref (He.ga K "BadHands")) (some dd) (upd H3 dd (.xd [("index", .int (i : Nat))])) := fun hk _ dd hdd => by
          refine ke i ?_ dd _ (e0.trans (e03.trans (Ex.new hdd))) upd_same
          unfold chkL
          rw [hgo]
          simp only [chkGo, hk]
        refine ⟨_, rfl, ?_⟩
        by_cases c1 : nameD dy = true
        · rw [c1]
          refine iteF ?_
          obtain ⟨z, rfl⟩ : ∃ z, dy = .str z := by
            cases dy <;> first | exact ⟨_, rfl⟩ | cases c1
          obtain rfl : y = .str z := ry
          refine ⟨_, rfl, _, rfl, p, acc.map V.str, rfl, .inl hp3, rfl, flat_strs, _, rfl, ?_⟩
          rw [inV_strs]
          by_cases c2 : z ∈ acc
          · rw [decide_eq_true c2]
            refine iteT ?_
            refine ⟨_, rfl, mkErr (fun dd hdd => bad ?_ rfl dd hdd)⟩
            show (if isNm z = true ∧ z ∉ acc then some z else none) = none
            rw [if_neg (fun q => q.2 c2)]
          · rw [decide_eq_false c2]
            refine iteF ?_
            have hk : okN (.str z) acc = some z := by
              show (if isNm z = true ∧ z ∉ acc then some z else none) = some z
              rw [if_pos ⟨c1, c2⟩]
            refine ⟨_, rfl, .inl ⟨rfl, _, SqL.of hp3⟩, _, rfl, p, _, _, rfl, rfl, hp3, ?_, ?_⟩
            · rw [List.length_map]
              have h1 := rL0.len
              exact Nat.lt_of_le_of_lt (show acc.length ≤ 60 by omega) (by decide)
            · refine ⟨acc ++ [z], _, _, rfl, e03.putNew hp hp3, ?_, ?_, ?_⟩
              · rw [List.map_append]
                exact upd_same
              · rw [List.length_append, hlen]
                rfl
              · rw [hgo]
                simp only [chkGo, hk]
        · rw [Bool.not_eq_true _ |>.mp c1]
          refine iteT (iteT ?_)
          refine ⟨_, rfl, mkErr (fun dd hdd => bad ?_ rfl dd hdd)⟩
          cases dy with
          | str z =>
            show (if isNm z = true ∧ z ∉ acc then some z else none) = none
            rw [if_neg (fun q => c1 q.1)]
          | _ => rfl
      · rintro σ H1 ⟨acc, x2, y2, rfl, e1, hp1, hlen, hgo⟩
        have hl2 := rL0.len
        have hdr : ds.drop vs.length = [] := List.drop_eq_nil_of_le (by omega)
        rw [hdr] at hgo
        have hgo2 : chkGo 0 ds [] = .ok acc := hgo
        refine ⟨_, rfl, p, acc.map V.str, rfl, .inl hp1, _, _, rfl, rfl, _, rfl, ?_⟩
        rw [List.length_map]
        by_cases c3 : acc.length < 2
        · rw [decide_eq_true (show ((acc.length : Nat) : Int) < 2 by omega)]
          refine iteT ?_
          refine ⟨_, rfl, p, acc.map V.str, rfl, .inl hp1, ?_⟩
          rw [List.length_map]
          refine mkErr fun dd hdd => ke acc.length ?_ dd _ (e0.trans (e1.trans (Ex.new hdd))) upd_same
          unfold chkL
          rw [hgo2]
          simp only [if_pos c3]
        · rw [decide_eq_false (show ¬ ((acc.length : Nat) : Int) < 2 by omega)]
          refine iteF ?_
          refine ⟨_, rfl, p, acc, rfl, .inl hp1, fun q hq => ?_⟩
          refine kq (srt acc) ?_ q _ (e0.trans (e1.trans (Ex.new hq))) (e0.back (e1.back hq)) upd_same
          · unfold chkL
            rw [hgo2]
            simp only [if_neg c3]
    · rw [Bool.not_eq_true _ |>.mp hd]
      refine iteT ?_
      refine mkErr fun dd hdd => ke 0 ?_ dd _ (e0.trans (Ex.new hdd)) upd_same
      cases d <;> first | rfl | exact absurd rfl hd
end
end K70
end
section
set_option maxHeartbeats 4000000
/-! lots: lies_in, is_lot. -/
namespace K70
open PySem PySem.Spec PyProof.Rows L2
variable [Tbs]
/-- a name is a good text -/
theorem okC_valid {c : Nat} (h : okC c = true) : c < 123 := by
  unfold okC at h
  have e1 : ∀ c ∈ SM, c < 123 := by decide
  have e2 : ∀ c ∈ FG, c < 123 := by decide
  rcases Bool.or_eq_true_iff.1 h with h | h
  · exact e1 c (of_decide_eq_true h)
  · exact e2 c (of_decide_eq_true h)
theorem nm_ok {z : Str} (h : isNm z = true) : PyData.strOk z = true := by
  unfold isNm at h
  obtain ⟨_, h⟩ := Bool.and_eq_true_iff.mp h
  unfold PyData.strOk
  rw [← Array.all_toList]
  rw [List.all_eq_true]
  intro c hc
  have := okC_valid (List.all_eq_true.mp h c hc)
  simp only [decide_eq_true_eq]
  omega
theorem nm_len {z : Str} (h : isNm z = true) : z.length ≤ 8 := by
  unfold isNm at h
  obtain ⟨h, _⟩ := Bool.and_eq_true_iff.mp h
  obtain ⟨h, _⟩ := Bool.and_eq_true_iff.mp h
  obtain ⟨_, h⟩ := Bool.and_eq_true_iff.mp h
  have := of_decide_eq_true h
  omega
theorem bl_fin {α : Type} {A : List Addr} {H' : Hp} {zs : List α} {f : α → Bool} {D : Addr} (r : Rep (wo A H') (.list ((zs.filter fun _ => true).map fun z => .bool (f z))) (.ref D)) : H' D = some (.lst ((zs.map f).map V.bl)) := by
  obtain ⟨a, vs, ea, h1, r1⟩ := r
  obtain rfl : D = a := by cases ea; rfl
  have el : (zs.filter fun _ => true).map (fun z => PyData.bool (f z)) = (zs.map f).map .bool := by
    rw [List.map_map, List.filter_eq_self.mpr (fun _ _ => rfl)]
    rfl
  rw [el] at r1
  rw [RepL.bls.mp r1] at h1
  exact wo_at h1
theorem str_at {zs : Lot} {i : Nat} {z : Str} {x : V} (h : zs[i]? = some z) (e : (zs.map V.str)[i]? = some x) : x = .str z := by
  rw [List.getElem?_map, h] at e
  exact (Option.some.inj e).symm
section
variable {P : Program} {w : World} {K : PySem.W.Frag} {mg : Str → Option Value} {base : Heap}
def spLies : Sp := fun vs H Q _ => ∃ A a b zs ws, Dom A H ∧ vs = [.ref a, .ref b] ∧ SeqAt (wo A H) a (zs.map V.str) ∧ wo A H b = some (.lst (ws.map V.str)) ∧ zs.length ≤ 1000 ∧ ∀ H', Ex [] H H' → Q (.bl (liesB zs ws)) H'
theorem ok_liesXin (T : Top K mg base) : FnOk P w K mg base CX0 2 (He.ga K "lies_in") (fdOf K (He.ga K "lies_in")) ["lot", "other"] spLies := by
  refine T.d_liesXin.ok sc_liesXin (fun vs H Q E h => ?len) (fun cdv A outer s H vs Q E hr h => ⟨_, PSs.nox (pss_one (ps_ret (pe_callB (cr_allS rfl) (by rfl) T.n_all (by decide +kernel) (pa_cons (pe_lc (own := [("one", 2)]) (g := gName 2) (tt := _) rfl sc_liesXin.nd (pi_seqA (pv 0)) (blkOk_by (by kernel_rfl)) (fun _ _ _ _ _ => (pg_name (i := 2) sc_liesXin.nd rfl (Or.inl rfl))) (fun _ _ _ _ _ => pts_nil) (fun _ _ _ _ _ => (pe_cmpR op_inS (pv 2) (pv 1) (by rfl)))) pa_nil)))), ?go⟩)
  case len =>
    obtain ⟨A, a, b, zs, ws, _, rfl, _⟩ := h
    rfl
  case go =>
    obtain ⟨A, a, b, zs, ws, dA, rfl, ha, hb, hn, k⟩ := h
    refine ⟨_, rfl, a, _, rfl, seqAt_of ha, fun J Ok S hok => lc_map S (A := A) zs (fun _ => true) (fun z => .bool (decide (z ∈ ws))) (by simp) dA (by rw [List.length_map]; omega) (fun H' s => hok H' (seqAt_same ha s)) ?_ ?_⟩
    · rintro i z x A1 H1 H2 Kt Kf hi hA d1 s1 e1 ⟨rfl, hx⟩ kt kf
      obtain rfl := str_at hi hx
      refine ⟨rfl, _, rfl, _, rfl, b, ws.map V.str, rfl, .inl (wo_at (s1 _ _ hb)), rfl, flat_strs, kt rfl _ _ (Ex.refl _ _) ?_⟩
      rw [inV_strs]
      rfl
    · intro D H' hD e1 r1
      exact ⟨D, _, rfl, bl_fin r1, k _ e1⟩
theorem ok_qXliesXin (T : Top K mg base) : FnOk P w K mg base CX0 2 (He.ga K "_law_o_lies_in") (fdOf K (He.ga K "_law_o_lies_in")) ["_law_lot", "_law_other"] spLies := by
  refine T.d_qXliesXin.ok sc_qXliesXin (fun vs H Q E h => ?len) (fun cdv A outer s H vs Q E hr h => ⟨_, PSs.nox (pss_one (ps_ret (pe_callB (cr_allS rfl) (by rfl) T.n_all (by decide +kernel) (pa_cons (pe_lc (own := [("_law_one", 2)]) (g := gName 2) (tt := _) rfl sc_qXliesXin.nd (pi_seqA (pv 0)) (blkOk_by (by kernel_rfl)) (fun _ _ _ _ _ => (pg_name (i := 2) sc_qXliesXin.nd rfl (Or.inl rfl))) (fun _ _ _ _ _ => pts_nil) (fun _ _ _ _ _ => (pe_cmpR op_inS (pv 2) (pv 1) (by rfl)))) pa_nil)))), ?go⟩)
  case len =>
    obtain ⟨A, a, b, zs, ws, _, rfl, _⟩ := h
    rfl
  case go =>
    obtain ⟨A, a, b, zs, ws, dA, rfl, ha, hb, hn, k⟩ := h
    refine ⟨_, rfl, a, _, rfl, seqAt_of ha, fun J Ok S hok => lc_map S (A := A) zs (fun _ => true) (fun z => .bool (decide (z ∈ ws))) (by simp) dA (by rw [List.length_map]; omega) (fun H' s => hok H' (seqAt_same ha s)) ?_ ?_⟩
    · rintro i z x A1 H1 H2 Kt Kf hi hA d1 s1 e1 ⟨rfl, hx⟩ kt kf
      obtain rfl := str_at hi hx
      refine ⟨rfl, _, rfl, _, rfl, b, ws.map V.str, rfl, .inl (wo_at (s1 _ _ hb)), rfl, flat_strs, kt rfl _ _ (Ex.refl _ _) ?_⟩
      rw [inV_strs]
      rfl
    · intro D H' hD e1 r1
      exact ⟨D, _, rfl, bl_fin r1, k _ e1⟩
/-- the dict of some texts -/
def dkOf (zs : Lot) : List (Key × V) := zs.foldl (fun m z => putK m (Sum.inr z) (.bl true)) []
theorem dkOf_snoc (zs : Lot) (z : Str) : dkOf (zs ++ [z]) = putK (dkOf zs) (Sum.inr z) (.bl true) := by
  unfold dkOf
  rw [List.foldl_append]
  rfl
theorem dkOf_le (zs : Lot) : (dkOf zs).length ≤ zs.length ∧ (∀ z, valV (dkOf zs) (Sum.inr z) = if z ∈ zs then some (.bl true) else none) := by
  suffices h : ∀ (rs : Lot), (dkOf rs.reverse).length ≤ rs.length ∧ (∀ z, valV (dkOf rs.reverse) (Sum.inr z) = if z ∈ rs then some (.bl true) else none) by
    have q := h zs.reverse
    rw [List.reverse_reverse, List.length_reverse] at q
    exact ⟨q.1, fun z => by rw [q.2 z]; simp⟩
  intro rs
  induction rs with
  | nil => exact ⟨Nat.le_refl _, fun z => rfl⟩
  | cons r rs ih =>
    rw [List.reverse_cons, dkOf_snoc]
    refine ⟨Nat.le_trans (length_putK _ _ _) (Nat.succ_le_succ ih.1), fun z => ?_⟩
    rw [valV_put, ih.2 z]
    by_cases e : z = r
    · simp [e]
    · simp [e]
theorem dkOf_len (zs : Lot) : (dkOf zs).length = zs.length ↔ zs.Nodup := by
  suffices h : ∀ (rs : Lot), (dkOf rs.reverse).length = rs.length ↔ rs.Nodup by
    have q := h zs.reverse
    rw [List.reverse_reverse, List.length_reverse] at q
    rw [q]
    exact (List.reverse_perm zs).nodup_iff
  intro rs
  induction rs with
  | nil => simp [dkOf]
  | cons r rs ih =>
    rw [List.reverse_cons, dkOf_snoc, List.nodup_cons, List.length_cons]
    have hv := (dkOf_le rs.reverse).2 r
    have hl := (dkOf_le rs.reverse).1
    rw [List.length_reverse] at hl
    by_cases e : r ∈ rs
    · have hv2 : valV (dkOf rs.reverse) (Sum.inr r) = some (.bl true) := by rw [hv, if_pos (by simpa using e)]
      have hk : (putK (dkOf rs.reverse) (Sum.inr r) (.bl true)).length = (dkOf rs.reverse).length := by
        unfold putK
        rw [valV_any, hv2]
        exact List.length_map ..
      rw [hk]
      constructor
      · intro q; omega
      · intro q; exact absurd e q.1
    · have hv2 : valV (dkOf rs.reverse) (Sum.inr r) = none := by rw [hv, if_neg (by simpa using e)]
      rw [putK_new _ hv2, List.length_append, List.length_singleton]
      constructor
      · intro q; exact ⟨e, ih.mp (by omega)⟩
      · intro q; rw [ih.mpr q.2]
/-- a lot of some hands: its texts, or none -/
def strsD : List PyData → Option Lot
  | [] => some []
  | .str z :: r => (strsD r).map (z :: ·)
  | _ :: _ => none
theorem strsD_map (zs : Lot) : strsD (zs.map .str) = some zs := by
  induction zs with
  | nil => rfl
  | cons z zs ih =>
    show (strsD (zs.map .str)).map (z :: ·) = _
    rw [ih]
    rfl
theorem strsD_some : ∀ {ds : List PyData} {zs : Lot}, strsD ds = some zs → ds = zs.map .str
  | [], zs, h => by cases h; rfl
  | .str z :: r, zs, h => by
    have h : (strsD r).map (z :: ·) = some zs := h
    cases q : strsD r with
    | none => rw [q] at h; cases h
    | some ws =>
      rw [q] at h
      cases h
      rw [strsD_some q]
      rfl
  | .none :: _, _, h => by cases h
  | .bool _ :: _, _, h => by cases h
  | .int _ :: _, _, h => by cases h
  | .list _ :: _, _, h => by cases h
  | .tuple _ :: _, _, h => by cases h
  | .dict _ :: _, _, h => by cases h
theorem all_hands {hs : Lot} : ∀ {ds : List PyData}, (ds.map fun d => handD d hs).all id = true → ∃ zs : Lot, ds = zs.map .str ∧ ∀ z ∈ zs, isNm z = true ∧ z ∈ hs
  | [], _ => ⟨[], rfl, by simp⟩
  | d :: ds, h => by
    obtain ⟨h1, h2⟩ := Bool.and_eq_true_iff.mp (show (handD d hs && (ds.map fun d => handD d hs).all id) = true from h)
    obtain ⟨zs, rfl, hz⟩ := all_hands h2
    unfold handD at h1
    cases d with
    | str z =>
      obtain ⟨h3, h4⟩ := Bool.and_eq_true_iff.mp h1
      refine ⟨z :: zs, rfl, fun y hy => ?_⟩
      rcases List.mem_cons.1 hy with e | hy
      · rw [e]; exact ⟨h3, of_decide_eq_true h4⟩
      · exact hz y hy
    | _ => cases h1
def lotD (d : PyData) (hs : Lot) : Bool := isL d && (((itemsD d).map fun d => handD d hs).all id && (match strsD (itemsD d) with
  | some zs => decide zs.Nodup
  | none => false))
def spLot : Sp := fun vs H Q _ => ∃ A d hs v a, Dom A H ∧ vs = [v, .ref a] ∧ Rep (wo A H) d v ∧ wo A H a = some (.lst (hs.map V.str)) ∧ (itemsD d).length ≤ 60 ∧ (∀ x ∈ itemsD d, shrt x) ∧ ∀ H', Ex [] H H' → Q (.bl (lotD d hs)) H'
theorem ok_isXlot (T : Top K mg base) : FnOk P w K mg base CX0 4 (He.ga K "is_lot") (fdOf K (He.ga K "is_lot")) ["thing", "hands"] spLot := by
  have G_isXlist := ok_isXlist (P := P) (w := w) T
  have b_isXlist := bd_isXlist T
  have G_isXhandXof := ok_isXhandXof (P := P) (w := w) T
  have b_isXhandXof := bd_isXhandXof T
  refine T.d_isXlot.ok sc_isXlot (fun vs H Q E h => ?len) (fun cdv A outer s H vs Q E hr h => ⟨_, PSs.nox (pss_cons (ps_if (PW.pt (pw_or (pt_not (pt_val (pe_call G_isXlist (hr.mono (by decide)) rfl T.g_isXlist T.d_isXlist.kp b_isXlist .nil pass0 (pa_cons (pv 0) pa_nil)))) (pw_or1 (pt_not (pt_val (pe_callB (cr_allS rfl) (by rfl) T.n_all (by decide +kernel) (pa_cons (pe_lc (own := [("one", 2)]) (g := gName 2) (tt := _) rfl sc_isXlot.nd (pi_seqA (pv 0)) (blkOk_by (by kernel_rfl)) (fun _ _ _ _ _ => (pg_name (i := 2) sc_isXlot.nd rfl (Or.inl rfl))) (fun _ _ _ _ _ => pts_nil) (fun _ _ _ _ _ => (pe_call G_isXhandXof (hr.mono (by decide)) rfl T.g_isXhandXof T.d_isXhandXof.kp b_isXhandXof .nil pass0 (pa_cons (pv 2) (pa_cons (pv 1) pa_nil))))) pa_nil))))))) (pss_one (ps_ret pe_bl)) pss_nil)
    (pss_one (ps_ret (pe_cmpR op_eq (pe_callB call_lenD (by rfl) T.n_len (by decide +kernel) (pa_cons (pe_dc (own := [("one", 2)]) (g := gName 2) (tt := _) rfl sc_isXlot.nd (pi_seqA (pv 0)) (blkOk_by (by kernel_rfl)) (fun _ _ _ _ _ => (pg_name (i := 2) sc_isXlot.nd rfl (Or.inl rfl))) (fun _ _ _ _ _ => pts_nil) (fun _ _ _ _ _ => (pv 2)) (fun _ _ _ _ _ => pe_bl)) pa_nil)) (pe_callB call_lenS (by rfl) T.n_len (by decide +kernel) (pa_cons (pv 0) pa_nil)) (nomark _))))), ?go⟩)
  case len =>
    obtain ⟨A, d, hs, v, a, _, rfl, _⟩ := h
    rfl
  case go =>
    obtain ⟨A, d, hs, v, a, dA, rfl, rv, ha, hl, hsh, k⟩ := h
    refine ⟨_, rfl, A, [d], dA, .cons rv .nil, rfl, trivial, fun u H0 e0 ru => ?_⟩
    obtain rfl : u = .bl (isL d) := ru
    refine ⟨_, rfl, ?_⟩
    by_cases hd : isL d = true
    · rw [hd]
      refine iteF ?_
      have hd2 : (∃ ds, d = .list ds) ∨ ∃ ds, d = .tuple ds := by
        cases d <;> first | exact .inl ⟨_, rfl⟩ | exact .inr ⟨_, rfl⟩ | cases hd
      obtain ⟨b, vs, ds, rfl, ho, rL⟩ := rv.items hd2
      have hi : itemsD d = ds := by rcases ho with ⟨rfl, _⟩ | ⟨rfl, _⟩ <;> rfl
      have hO : SeqAt (wo A H0) b vs := by
        rcases ho with ⟨_, ho⟩ | ⟨_, ho⟩
        · exact .inl (e0.any.old _ _ ho)
        · exact .inr (e0.any.old _ _ ho)
      have dA0 : Dom A H0 := dA.ex e0
      have rL0 := rL.mono e0.any.old
      have ha0 := (e0.any (A := A)).old _ _ ha
      have hvl := rL0.len
      have en : ∀ x, (ds.map fun d => handD d hs).all id = x → (∀ zs, strsD ds = some zs → (x && decide zs.Nodup) = lotD d hs) := fun x hx zs hz => by
        unfold lotD
        rw [hd, hi, hx, hz]
        rfl
      rw [hi] at hl hsh
      refine ⟨_, rfl, b, vs, rfl, seqAt_of hO, fun J Ok S hok => lc_map S (A := A) ds (fun _ => true) (fun d => .bool (handD d hs)) hvl.symm dA0 (by omega) (fun H' s => hok H' (seqAt_same hO s)) ?_ ?_⟩
      · rintro i dx x A1 H1 H2 Kt Kf hdx hA d1 s1 e1 ⟨rfl, hx⟩ kt kf
        obtain ⟨dx', hdx', rx⟩ := rL0.get hx
        obtain rfl : dx' = dx := Option.some.inj (hdx'.symm.trans hdx)
        refine ⟨rfl, _, rfl, _, rfl, ?_⟩
        exact ⟨A1, dx', hs, x, a, d1, rfl, rx.mono s1, wo_at (s1 _ _ ha0), hsh dx' (List.mem_of_getElem? hdx), fun H3 e3 => kt rfl _ _ e3 rfl⟩
      · intro D H1 hD e1 r1
        have hD1 := bl_fin r1
        refine ⟨D, _, rfl, hD1, _, rfl, ?_⟩
        by_cases hal : (ds.map fun d => handD d hs).all id = true
        · rw [hal]
          refine iteF ?_
          obtain ⟨zs, rfl, hz⟩ := all_hands hal
          have hO1 := seqAt_ex hO e1.any.old
          have evs : vs = zs.map V.str := RepL.strs.mp rL0
          subst evs
          have dA1 := dA0.ex e1
          refine ⟨_, rfl, b, _, rfl, seqAt_of hO1, fun J Ok S hok D2 hD2 => ?_⟩
          have hD2A := dA1.not hD2
          have hDb : b ≠ D2 := by
            rcases hO1 with h | h <;> exact ne_of_none (wo_at h) hD2
          refine dc_src S (fun i H' => Ex [] H1 H' ∧ H' D2 = some (.dK (dkOf (zs.take i)))) ⟨Ex.new hD2, upd_same⟩ (fun i H' _ ⟨e, _⟩ => hok H' (seqAt_same hO1 e.any.old)) ?_ ?_
          · rintro i x H2 H3 hi ⟨e2, hd2⟩ ⟨rfl, hx⟩
            have hi2 : i < zs.length := by simpa using hi
            have hz2 : zs[i]? = some zs[i] := by simp [hi2]
            obtain rfl := str_at hz2 hx
            refine ⟨rfl, _, rfl, dkOf (zs.take i), Sum.inr zs[i], rfl, hd2, ?_, e2.putNew hD2 hd2, ?_⟩
            · have h1 := (dkOf_le (zs.take i)).1
              rw [List.length_take] at h1
              exact Nat.lt_of_le_of_lt (show (dkOf (zs.take i)).length ≤ 60 by simp at hl; omega) (by decide)
            · rw [upd_same, ← dkOf_snoc, List.take_add_one, hz2]
              rfl
          · rintro H2 ⟨e2, hd2⟩
            rw [List.length_map, List.take_length] at hd2
            refine ⟨D2, dkOf zs, rfl, hd2, _, rfl, b, zs.map V.str, rfl, seqAt_of (seqAt_ex hO1 e2.any.old), rfl, ?_⟩
            have q := k H2 ((e0.trans e1).trans e2)
            rw [← en _ hal zs (strsD_map zs), Bool.true_and] at q
            have e3 : decide (V.int ((dkOf zs).length : Nat) = V.int ((zs.map V.str).length : Nat)) = decide zs.Nodup := by
              rw [List.length_map]
              refine decide_eq_decide.mpr ⟨fun e => (dkOf_len zs).mp (by injection e with e; omega), fun e => by rw [(dkOf_len zs).mpr e]⟩
            rw [e3]
            exact q
        · rw [Bool.not_eq_true _ |>.mp hal]
          refine iteT ?_
          have q := k H1 (e0.trans e1)
          have e3 : lotD d hs = false := by
            unfold lotD
            rw [hi, Bool.not_eq_true _ |>.mp hal, Bool.false_and, Bool.and_false]
          rw [e3] at q
          exact q
    · rw [Bool.not_eq_true _ |>.mp hd]
      refine iteT (iteT ?_)
      have q := k H0 e0
      have e3 : lotD d hs = false := by
        unfold lotD
        rw [Bool.not_eq_true _ |>.mp hd, Bool.false_and]
      rw [e3] at q
      exact q
end
end K70
end
section
set_option maxHeartbeats 4000000
/-! greatest_of. -/
namespace K70
open PySem PySem.Spec PyProof.Rows L2
variable [Tbs]
theorem lot_at {G : Hp} {bs : List Lot} {vs : List V} {i : Nat} {x : V} {z : Lot} (r : RepL G (bs.map ls) vs) (hx : vs[i]? = some x) (hz : bs[i]? = some z) : ∃ b, x = .ref b ∧ G b = some (.lst (z.map V.str)) := by
  obtain ⟨d, hd, rd⟩ := r.get hx
  rw [List.getElem?_map, hz] at hd
  obtain rfl : ls z = d := Option.some.inj hd
  exact Rep.ls.mp rd
theorem take_filter {α : Type} {bs : List α} {i : Nat} {z : α} (p : α → Bool) (h : bs[i]? = some z) : (bs.take (i + 1)).filter p = (bs.take i).filter p ++ (if p z = true then [z] else []) := by
  rw [List.take_add_one, h]
  rw [List.filter_append]
  congr 1
  show List.filter p [z] = _
  by_cases c : p z = true
  · simp [c]
  · simp [c]
theorem pairs_rep {G : Hp} : ∀ {zs : List Lot} {vs : List V}, RepL G (zs.map ls) vs → ∃ bs : List (Addr × Lot), vs = bs.map (fun b => V.ref b.1) ∧ bs.map (·.2) = zs ∧ ∀ b ∈ bs, G b.1 = some (.lst (b.2.map V.str))
  | [], vs, h => ⟨[], h, rfl, fun b hb => by cases hb⟩
  | z :: zs, vs, ⟨v, r, e, h, t⟩ => by
    obtain ⟨a, e1, h1⟩ := Rep.ls.mp h
    obtain ⟨bs, e2, e3, h2⟩ := pairs_rep t
    refine ⟨(a, z) :: bs, by rw [e, e1, e2]; rfl, by rw [List.map_cons, e3], fun b hb => ?_⟩
    rcases List.mem_cons.mp hb with q | hb
    · rw [q]; exact h1
    · exact h2 b hb
theorem rep_pairs {G : Hp} : ∀ {bs : List (Addr × Lot)}, (∀ b ∈ bs, G b.1 = some (.lst (b.2.map V.str))) → RepL G ((bs.map (·.2)).map ls) (bs.map fun b => V.ref b.1)
  | [], _ => rfl
  | b :: bs, h => ⟨_, _, rfl, Rep.ls.mpr ⟨_, rfl, h b (List.mem_cons_self ..)⟩, rep_pairs fun c hc => h c (List.mem_cons_of_mem _ hc)⟩
/-- what lots must be -/
structure Lots (bs : List Lot) : Prop where
  ok : ∀ b ∈ bs, okLot b
  len : ∀ b ∈ bs, b.length ≤ 60
theorem Lots.sub {bs cs : List Lot} (h : Lots bs) (s : ∀ c ∈ cs, c ∈ bs) : Lots cs := ⟨fun c hc => h.ok c (s c hc), fun c hc => h.len c (s c hc)⟩
section
variable {P : Program} {w : World} {K : PySem.W.Frag} {mg : Str → Option Value} {base : Heap}
def spGreat : Sp := fun vs H Q _ => ∃ A bs v, Dom A H ∧ vs = [v] ∧ Rep (wo A H) (lls bs) v ∧ Lots bs ∧ bs.length ≤ 60 ∧ LamX.Tabs Tbs.tabs H ∧ ∀ v H', Ex [] H H' → Rep (wo A H') (lls (great bs)) v → Q v H'
theorem ok_greatestXof (T : Top K mg base) : FnOk P w K mg base CX0 4 (He.ga K "greatest_of") (fdOf K (He.ga K "greatest_of")) ["lots"] spGreat := by
  have G_liesXin := ok_liesXin (P := P) (w := w) T
  have b_liesXin := bd_liesXin T
  refine ok_code T.d_greatestXof (p := ("greatest_of", none)) rfl sc_greatestXof (fun vs H Q E h => ?len) (fun A outer s H vs Q E hr h => ⟨_, PSs.nox (pss_cons (ps_set (i := 1) sc_greatestXof.nd rfl (Or.inl rfl) (pe_lst pa_nil))
    (pss_cons (ps_for PassesOwn.never rfl (pi_seqA (pv 0)) (pg_name (i := 2) sc_greatestXof.nd rfl (Or.inr rfl)) (pss_one (ps_if (PW.pt (pw_and (pt_cmpR (op_notInR (hu65 hr)) (pv 2) (pv 1) (by rfl)) (pw_and1 (pt_not (pt_val (pe_callB (cr_anyS rfl) (by rfl) T.n_any (by decide +kernel) (pa_cons (pe_lc (own := [("other", 3)]) (g := gName 3) (tt := _) rfl sc_greatestXof.nd (pi_seqA (pv 0)) (blkOk_by (by kernel_rfl)) (fun _ _ _ _ _ => (pg_name (i := 3) sc_greatestXof.nd rfl (Or.inl rfl))) (fun _ _ _ _ _ => pts_nil) (fun _ _ _ _ _ => (pe_and (pe_cmpR op_gt (pe_callB call_lenS (by rfl) T.n_len (by decide +kernel) (pa_cons (pv 3) pa_nil)) (pe_callB call_lenS (by rfl) T.n_len (by decide +kernel) (pa_cons (pv 2) pa_nil)) (nomark _)) (pe_one (pe_call G_liesXin (hr.mono (by decide)) rfl T.g_liesXin T.d_liesXin.kp b_liesXin .nil pass0 (pa_cons (pv 2) (pa_cons (pv 3) pa_nil))))))) pa_nil))))))) (pss_one (ps_expr (pe_bm PySem.F.plainAttrs_list PySem.F.slot_list_append PySem.F.type_list_append mt_append (pv 1) (pa_cons (pv 2) pa_nil)))) pss_nil)))
    (pss_one (ps_ret (pe_sortKey rfl T.n_sorted T.n_len (hr.mono (by decide)) (pv 1) ⟨T.tb1, rfl, (by show _ ∈ Tbs.tabs; rw [T.tt]; exact List.mem_cons_self ..), (by show ∀ p ∈ Tbs.tabs, _; rw [T.tt]; intro p hp e; rcases List.mem_cons.mp hp with q | q; exact q ▸ rfl; exact absurd ((by rw [List.mem_singleton.mp q] at e; exact e.symm)) T.t12)⟩ ⟨rfl, rfl, rfl, rfl, rfl, by decide⟩ rfl (fun _ _ _ _ _ _ => rfl)))))), ?go⟩)
  case len =>
    obtain ⟨A, bs, v, _, rfl, _⟩ := h
    rfl
  case go =>
    obtain ⟨A, bs, v, dA, rfl, rv, hL, hn, hT, k⟩ := h
    obtain ⟨a, vs, rfl, ha, rL⟩ := rv
    refine ⟨by show 0 ≤ sizeLine; decide, fun p hp => ?_⟩
    have hpA := dA.not hp
    have s0 : Sub (wo A H) (wo (p :: A) (upd H p (.lst []))) := wo_new hp
    have hvl : vs.length = bs.length := by rw [rL.len, List.length_map]
    refine ⟨_, rfl, a, vs, rfl, .inl (wo_at (s0 _ _ ha)), fun J Ok S hok => for_src S (fun i σ H' => ∃ acc x y, σ = [some (.ref a), some (.ref p), x, y] ∧ Ex [] H H' ∧ H' p = some (.lst acc) ∧ RepL (wo (p :: A) H') ((once ((bs.take i).filter (big bs))).map ls) acc ∧ Sub (wo A H) (wo (p :: A) H'))
      ⟨[], _, _, rfl, Ex.new hp, upd_same, RepL.nil, s0⟩ (fun i σ H' hi ⟨acc, x, y, _, e1, _, _, s1⟩ => hok H' ((wo_at (s1 _ _ ha)).trans (wo_at (s0 _ _ ha)).symm)) ?_ ?_⟩
    · rintro i x σ H9 H1 hi ⟨acc, x2, y2, rfl, e1, hp1, racc, s1⟩ ⟨rfl, hx⟩
      have hz : bs[i]? = some bs[i] := by simp [hvl ▸ hi]
      generalize bs[i] = z at hz
      have hzm := List.mem_of_getElem? hz
      obtain ⟨b, rfl, hb⟩ := lot_at rL hx hz
      have hb1 := s1 _ _ hb
      have hfm : ∀ c ∈ once ((bs.take i).filter (big bs)), c ∈ bs := fun c hc => List.mem_of_mem_take (List.mem_filter.mp (once_mem.mp hc)).1
      have hf1 : DatAt H1 (lls (once ((bs.take i).filter (big bs)))) (.ref p) := datAt_lls (A := A) ⟨p, acc, rfl, wo_of hpA hp1, racc.mono wo_cons⟩ fun c hc => hL.ok c (hfm c hc)
      have stay : ∀ H3, Ex [] H1 H3 → once ((bs.take (i + 1)).filter (big bs)) = once ((bs.take i).filter (big bs)) → ∃ acc' x' y', [some (V.ref a), some (V.ref p), some (V.ref b), y2] = [some (V.ref a), some (V.ref p), x', y'] ∧ Ex [] H H3 ∧ H3 p = some (.lst acc') ∧ RepL (wo (p :: A) H3) ((once ((bs.take (i + 1)).filter (big bs))).map ls) acc' ∧ Sub (wo A H) (wo (p :: A) H3) := fun H3 e3 eq => by
        rw [eq]
        exact ⟨acc, _, _, rfl, e1.trans e3, e3.at hp1, racc.mono e3.any.old, s1.trans e3.any.old⟩
      refine ⟨_, rfl, _, rfl, ls z, _, datAt_ls (Rep.ls.mpr ⟨b, rfl, hb1⟩) (hL.ok z hzm), hf1, !decide (z ∈ once ((bs.take i).filter (big bs))), by rw [any_lss]; rfl, ?_⟩
      by_cases c1 : z ∈ once ((bs.take i).filter (big bs))
      · rw [decide_eq_true c1]
        refine iteF (stay _ (Ex.refl _ _) ?_)
        rw [take_filter _ hz]
        by_cases c2 : big bs z = true
        · rw [if_pos c2, once_snoc]
          unfold onceStep
          rw [if_pos c1]
        · rw [if_neg c2, List.append_nil]
      · rw [decide_eq_false c1]
        refine iteT ?_
        have d1 : Dom (p :: A) H1 := fun c hc => by
          rcases List.mem_cons.mp hc with q | q
          · rw [q, hp1]; simp
          · exact e1.dom c (dA c q)
        refine ⟨_, rfl, a, vs, rfl, .inl (wo_at (s1 _ _ ha)), fun J Ok S hok => lc_map S (A := p :: A) bs (fun _ => true) (fun o => .bool (decide (z.length < o.length) && liesB z o)) hvl.symm d1 (by omega) (fun H' s => hok H' (seqAt_same (.inl (s1 _ _ ha)) s)) ?_ ?_⟩
        · rintro j o x A1 H2 H3 Kt Kf ho hA d2 s2 e2 ⟨rfl, hx⟩ kt kf
          obtain ⟨c, rfl, hc⟩ := lot_at rL hx ho
          have hc2 := s2 _ _ (s1 _ _ hc)
          have hb2 := s2 _ _ hb1
          refine ⟨rfl, _, rfl, c, o.map V.str, rfl, .inl (wo_at hc2), _, rfl, b, z.map V.str, rfl, .inl (wo_at hb2), _, _, rfl, rfl, _, rfl, ?_⟩
          rw [List.length_map, List.length_map]
          by_cases c2 : z.length < o.length
          · have c3 : ((z.length : Nat) : Int) < (o.length : Nat) := by omega
            rw [decide_eq_true c3]
            refine iteT ⟨_, rfl, _, rfl, A1, b, c, z, o, d2, rfl, .inl hb2, hc2, by have := hL.len z hzm; omega, fun H4 e4 => kt rfl _ _ e4 ?_⟩
            show V.bl _ = V.bl _
            rw [decide_eq_true c2, Bool.true_and]
          · have c3 : ¬ ((z.length : Nat) : Int) < (o.length : Nat) := by omega
            rw [decide_eq_false c3]
            refine iteF (kt rfl _ _ (Ex.refl _ _) ?_)
            show V.bl _ = V.bl _
            rw [decide_eq_false c2, Bool.false_and]
        · intro D H3 hD e3 r3
          refine ⟨D, _, rfl, bl_fin r3, _, rfl, ?_⟩
          have eb : (bs.map fun o => decide (z.length < o.length) && liesB z o).any id = !big bs z := by
            unfold big
            rw [Bool.not_not]
          rw [eb]
          have hp3 := e3.at hp1
          by_cases c2 : big bs z = true
          · rw [c2]
            refine iteT ⟨_, rfl, .inl ⟨rfl, _, SqL.of hp3⟩, _, rfl, p, acc, _, rfl, rfl, hp3, ?_, ?_⟩
            · have h1 := racc.len
              rw [List.length_map] at h1
              have h2 := (once_spec ((bs.take i).filter (big bs))).2.2
              have h3 := List.length_filter_le (big bs) (bs.take i)
              have h4 : (bs.take i).length ≤ bs.length := by rw [List.length_take]; omega
              exact Nat.lt_of_le_of_lt (show acc.length ≤ 60 by omega) (by decide)
            · refine ⟨acc ++ [.ref b], _, _, rfl, (e1.trans e3).putNew hp hp3, upd_same, ?_, ?_⟩
              · rw [wo_put (List.mem_cons_self ..), take_filter _ hz, if_pos c2, once_snoc]
                unfold onceStep
                rw [if_neg c1, List.map_append]
                exact (racc.mono e3.any.old).snoc (Rep.ls.mpr ⟨b, rfl, e3.any.old _ _ hb1⟩)
              · rw [wo_put (List.mem_cons_self ..)]
                exact s1.trans e3.any.old
          · rw [Bool.not_eq_true _ |>.mp c2]
            refine iteF (stay _ e3 ?_)
            rw [take_filter _ hz, if_neg c2, List.append_nil]
    · rintro σ H1 ⟨acc, x2, y2, rfl, e1, hp1, racc, s1⟩
      rw [hvl, List.take_length] at racc
      obtain ⟨ps, rfl, e2, hps⟩ := pairs_rep racc
      refine ⟨_, rfl, p, ps, rfl, hp1, fun b hb => wo_at (hps b hb), e1.tab hT, fun H2 q eH hq => k _ _ ((e1.trans (eH [])).trans (Ex.new hq)) ?_⟩
      have d2 : Dom A H2 := dA.ex (e1.trans (eH []))
      refine ⟨q, _, rfl, wo_of (d2.not hq) upd_same, ?_⟩
      have eg : great bs = (ps.mergeSort fun x y => leK x.2 y.2).map (·.2) := by
        rw [srtK_map (fun b : Addr × Lot => b.2), e2]
        rfl
      rw [eg]
      refine rep_pairs fun b hb => ?_
      have hb2 := hps b ((List.mergeSort_perm ps _).mem_iff.mp hb)
      exact (Ex.new hq).old _ _ (wo_cons _ _ ((eH _).old _ _ hb2))
end
end K70
end
section
set_option maxHeartbeats 4000000
/-! Stops.__init__. -/
namespace K70
open PySem PySem.Spec PyProof.Rows L2
variable [Tbs]
section
variable {J : It} {n : Nat} {Y : Nat → V → Hp → Hp → Prop} {Ok : Hp → Prop} {g : TG} {tt : TT} {te : TE} {vs : List Nat} {σ : L2.St} {H : Hp}
/-- each turn gives a new list of texts -/
theorem lc_lots (S : Src J n Y Ok) {Qd : Addr → Hp → Prop} {α : Type} (zs : List α) (f : α → Lot) (el : zs.length = n) (hn : n ≤ 100000) (ok : ∀ H', Ex [] H H' → Ok H')
    (turn : ∀ i z x H1 H2 (Kt : VK) (Kf : Hp → Prop), zs[i]? = some z → Ex [] H H1 → Y i x H1 H2 →
      (∀ q H3, Ex [] H1 H3 → H3 q = none → Kt (.ref q) (upd H3 q (.lst ((f z).map V.str)))) →
      OneTurn g tt vs σ (fun τ H => te τ H Kt) Kf x H2)
    (fin : ∀ D (ps : List (Addr × Lot)) H', H D = none → Ex [] H H' → ps.map (·.2) = zs.map f → H' D = some (.lst (ps.map fun b => V.ref b.1)) → (∀ b ∈ ps, H b.1 = none ∧ b.1 ≠ D ∧ H' b.1 = some (.lst (b.2.map V.str))) → Qd D H') :
    ∀ D, H D = none → LcTurns J g tt te vs σ D (Qd D) (upd H D (.lst [])) := by
  intro D hD
  refine lc_src S (fun i H' => Ex [] H H' ∧ ∃ ps : List (Addr × Lot), ps.map (·.2) = (zs.take i).map f ∧ H' D = some (.lst (ps.map fun b => V.ref b.1)) ∧ ∀ b ∈ ps, H b.1 = none ∧ b.1 ≠ D ∧ H' b.1 = some (.lst (b.2.map V.str)))
    ⟨Ex.new hD, [], rfl, upd_same, fun b hb => by cases hb⟩ (fun i H' _ ⟨e, _⟩ => ok H' e) ?_ ?_
  · rintro i x H1 H2 hi ⟨e1, ps, ep, hd, hps⟩ y
    have ez : zs[i]? = some zs[i] := by simp [el ▸ hi]
    refine turn i _ x H1 H2 _ _ ez e1 y fun q H3 e3 hq => ?_
    have hd3 := e3.at hd
    have hq1 : H1 q = none := e3.back hq
    have hqD : q ≠ D := fun z => by rw [z, hd] at hq1; cases hq1
    refine ⟨ps.map fun b => V.ref b.1, ?_, ?_, (e1.trans (e3.trans (Ex.new hq))).putNew hD (by rw [upd_ne (Ne.symm hqD)]; exact hd3), ps ++ [(q, f zs[i])], ?_, ?_, ?_⟩
    · rw [upd_ne (Ne.symm hqD)]
      exact hd3
    · have h1 := congrArg List.length ep
      rw [List.length_map, List.length_map, List.length_take] at h1
      rw [List.length_map]
      exact Nat.lt_of_le_of_lt (show ps.length ≤ 100000 by omega) (by decide)
    · rw [List.map_append, ep, List.take_add_one, ez, List.map_append]
      rfl
    · rw [upd_same, List.map_append]
      rfl
    · intro b hb
      rcases List.mem_append.1 hb with hb | hb
      · obtain ⟨h1, h2, h3⟩ := hps b hb
        refine ⟨h1, h2, ?_⟩
        rw [upd_ne h2]
        exact (Ex.new hq).at (e3.at h3)
      · rw [List.mem_singleton.1 hb]
        refine ⟨e1.back hq1, hqD, ?_⟩
        rw [upd_ne hqD, upd_same]
  · rintro H' ⟨e, ps, ep, hd, hps⟩
    rw [← el, List.take_length] at ep
    exact fin D ps H' hD e ep hd hps
end
/-- an error let out after writes at B -/
def ErrB (K : PySem.W.Frag) (x f : Str) (B : List Addr) (H : Hp) (E : XK) (y : V) : Prop := ∀ e H', Ex B H H' → H' e = some (.xd [(f, y)]) → E (.ref (He.ga K x)) (some e) H'
/-- the first that is no lot -/
def badAt (hs : Lot) : List PyData → Nat → Option Nat
  | [], _ => none
  | d :: r, i => if lotD d hs = true then badAt hs r (i + 1) else some i
def strsOf (d : PyData) : Lot := (strsD (itemsD d)).getD []
def lotsOf (db : PyData) : List Lot := (itemsD db).map strsOf
theorem lotD_strs {d : PyData} {hs : Lot} (h : lotD d hs = true) : isL d = true ∧ itemsD d = (strsOf d).map .str ∧ (strsOf d).Nodup ∧ ∀ z ∈ strsOf d, isNm z = true ∧ z ∈ hs := by
  unfold lotD at h
  obtain ⟨h1, h2⟩ := Bool.and_eq_true_iff.mp h
  obtain ⟨h2, h3⟩ := Bool.and_eq_true_iff.mp h2
  obtain ⟨zs, e, hz⟩ := all_hands h2
  have e2 : strsD (itemsD d) = some zs := by rw [e]; exact strsD_map zs
  rw [e2] at h3
  have e4 : strsOf d = zs := by unfold strsOf; rw [e2]; rfl
  rw [e4]
  exact ⟨h1, e, of_decide_eq_true h3, hz⟩
theorem badAt_none {hs : Lot} : ∀ {ds : List PyData} {i : Nat}, badAt hs ds i = none → ∀ d ∈ ds, lotD d hs = true
  | [], _, _, d, hd => by cases hd
  | e :: r, i, h, d, hd => by
    unfold badAt at h
    by_cases c : lotD e hs = true
    · rw [if_pos c] at h
      rcases List.mem_cons.1 hd with q | hd
      · rw [q]; exact c
      · exact badAt_none h d hd
    · rw [if_neg c] at h
      cases h
theorem seq_of_isL {G : Hp} {d : PyData} {v : V} (r : Rep G d v) (h : isL d = true) : ∃ a vs, v = .ref a ∧ SeqAt G a vs ∧ RepL G (itemsD d) vs := by
  cases d with
  | list ds => obtain ⟨a, vs, e, h, t⟩ := r; exact ⟨a, vs, e, .inl h, t⟩
  | tuple ds => obtain ⟨a, vs, e, h, t⟩ := r; exact ⟨a, vs, e, .inr h, t⟩
  | _ => cases h
def tinyD (d : PyData) : Prop := (itemsD d).length ≤ 50 ∧ ∀ x ∈ itemsD d, shrt x
/-- an instance of Stops, as G shows it -/
def StopsAt (K : PySem.W.Frag) (G : Hp) (x : Addr) (hs : Lot) (gs : List Lot) : Prop :=
  ∃ dx a1 a2, G x = some (.ins (cS K) dx [("own_hands", .ref a1), ("own_bands", .ref a2)]) ∧ G a1 = some (.lst (hs.map V.str)) ∧ Rep G (lls gs) (.ref a2)
theorem StopsAt.mono {K : PySem.W.Frag} {G G' : Hp} {x : Addr} {hs : Lot} {gs : List Lot} (s : Sub G G') (h : StopsAt K G x hs gs) : StopsAt K G' x hs gs := by
  obtain ⟨dx, a1, a2, h1, h2, h3⟩ := h
  exact ⟨dx, a1, a2, s _ _ h1, s _ _ h2, h3.mono s⟩
def spInit (K : PySem.W.Frag) : Sp := fun vs H Q E => ∃ A B dh db hv bv x dx, Dom A H ∧ Dom B H ∧ x ∈ A ∧ x ∈ B ∧ vs = [.ref x, hv, bv] ∧ H x = some (.ins (cS K) dx []) ∧ Rep (wo A H) dh hv ∧ Rep (wo A H) db bv ∧ tinyD dh ∧ ((itemsD db).length ≤ 50 ∧ ∀ d ∈ itemsD db, tinyD d) ∧ LamX.Tabs Tbs.tabs H ∧
  (∀ i, chk dh = .error i → ErrB K "BadHands" "index" [x] H E (.int (i : Nat))) ∧
  (∀ hs, chk dh = .ok hs → (isL db = false → ErrB K "BadBand" "index" [x] H E (.int (0 : Nat))) ∧ (∀ i, isL db = true → badAt hs (itemsD db) 0 = some i → ErrB K "BadBand" "index" [x] H E (.int (i : Nat))) ∧
    (isL db = true → badAt hs (itemsD db) 0 = none → ∀ a1 a2 H', Ex [x] H H' → H' x = some (.ins (cS K) dx [("own_hands", .ref a1), ("own_bands", .ref a2)]) → wo B H' a1 = some (.lst (hs.map V.str)) → Rep (wo B H') (lls (great ([] :: (lotsOf db).map srt))) (.ref a2) → Q .non H'))
section
variable {P : Program} {w : World} {K : PySem.W.Frag} {mg : Str → Option Value} {base : Heap}
theorem ok_StopsXinit (T : Top K mg base) : FnOk P w K mg base (L2.CX P w) 5 (He.ma K (He.ga K "Stops") "__init__") (fdOf K (He.ma K (He.ga K "Stops") "__init__")) ["self", "hands", "bands"] (spInit K) := by
  have G_checkedXhands := ok_checkedXhands (P := P) (w := w) T
  have b_checkedXhands := bd_checkedXhands T
  have G_greatestXof := ok_greatestXof (P := P) (w := w) T
  have b_greatestXof := bd_greatestXof T
  have G_isXlist := ok_isXlist (P := P) (w := w) T
  have b_isXlist := bd_isXlist T
  have G_BadBandXinit := ok_BadBandXinit (P := P) (w := w) T
  have b_BadBandXinit := bd_BadBandXinit T
  have G_isXlot := ok_isXlot (P := P) (w := w) T
  have b_isXlot := bd_isXlot T
  refine T.d_StopsXinit.ok sc_StopsXinit (fun vs H Q E h => ?len) (fun cdv A outer s H vs Q E hr h =>
    have tk : Takes (cxOf (L2.CX P w) P w K mg base ["self", "hands", "bands", "index", "band"] "Stops.__init__" (defScope s_StopsXinit) (He.ma K (He.ga K "Stops") "__init__") cdv A outer s H E) (fun cls d _ H => E cls d H) := takes_of rfl rfl rfl rfl
    ⟨_, (pss_cons (ps_fld (pv 0) (pe_call G_checkedXhands (hr.mono (by decide)) rfl T.g_checkedXhands T.d_checkedXhands.kp b_checkedXhands .nil (passes_call tk fun _ _ _ _ h => h) (pa_cons (pv 1) pa_nil)) rfl)
    (pss_cons (ps_if (pt_not (pt_val (pe_call G_isXlist (hr.mono (by decide)) rfl T.g_isXlist T.d_isXlist.kp b_isXlist .nil pass0 (pa_cons (pv 2) pa_nil)))) (pss_one (ps_raise rfl tk (pmk_oex T.x_BadBand T.i_BadBand T.t_BadBand G_BadBandXinit (hr.mono (by decide)) b_BadBandXinit .nil pass0 rfl T.g_BadBand (pa_cons pe_int pa_nil)))) pss_nil)
    (pss_cons (ps_for (passes_of rfl) rfl (pi_enumB rfl T.n_enumerate (pa_cons (pv 2) pa_nil)) (pg_tup rfl (pgs_cons (pg_name (i := 3) sc_StopsXinit.nd rfl (Or.inl rfl)) (pgs_cons (pg_name (i := 4) sc_StopsXinit.nd rfl (Or.inl rfl)) pgs_nil))) (pss_one (ps_if (pt_not (pt_val (pe_call G_isXlot (hr.mono (by decide)) rfl T.g_isXlot T.d_isXlot.kp b_isXlot .nil pass0 (pa_cons (pv 4) (pa_cons (pe_fld (pv 0) rfl) pa_nil))))) (pss_one (ps_raise rfl tk (pmk_oex T.x_BadBand T.i_BadBand T.t_BadBand G_BadBandXinit (hr.mono (by decide)) b_BadBandXinit .nil pass0 rfl T.g_BadBand (pa_cons (pv 3) pa_nil)))) pss_nil)))
    (pss_one (ps_fld (pv 0) (pe_call G_greatestXof (hr.mono (by decide)) rfl T.g_greatestXof T.d_greatestXof.kp b_greatestXof .nil pass0 (pa_cons (pe_op op_cat (pe_lst (pa_cons (pe_lst pa_nil) pa_nil)) (pe_lc (own := [("band", 4)]) (g := gName 4) (tt := _) rfl sc_StopsXinit.nd (pi_seqA (pv 2)) (blkOk_by (by kernel_rfl)) (fun _ _ _ _ _ => (pg_name (i := 4) sc_StopsXinit.nd rfl (Or.inl rfl))) (fun _ _ _ _ _ => pts_nil) (fun _ _ _ _ _ => (pe_callB cr_sortedQ (by rfl) T.n_sorted (by decide +kernel) (pa_cons (pv 4) pa_nil))))) pa_nil)) rfl))))), ?go⟩)
  case len =>
    obtain ⟨A, B, dh, db, hv, bv, x, dx, _, _, _, _, rfl, _⟩ := h
    rfl
  case go =>
    obtain ⟨A, B, dh, db, hv, bv, x, dx, dA, dB, hxA, hxB, rfl, hx, rh, rb, th, tb, hT, keH, kOk⟩ := h
    have exB : ∀ {H'}, Ex [] H H' → Ex [x] H H' := fun e => e.any
    refine ⟨_, rfl, A, dh, hv, dA, rfl, rh, Nat.le_trans th.1 (by decide), th.2, fun hs hc a1 H1 e1 ha1 h1 => ?_, fun i hi e H' ex he => keH i hi e H' ex.any he⟩
    obtain ⟨k1, k2, k3⟩ := kOk hs hc
    refine ⟨_, rfl, x, _, dx, [], rfl, e1.at hx, T.c_Stops, T.na_hands, by decide, ?_⟩
    have f2 : Ex [x] H (upd H1 x (.ins (cS K) dx (putF "own_hands" (.ref a1) []))) := e1.any.trans (Ex.put (List.mem_cons_self ..) (e1.at hx))
    generalize hH2 : upd H1 x (.ins (cS K) dx (putF "own_hands" (.ref a1) [])) = H2 at f2 ⊢
    have hx2 : H2 x = some (.ins (cS K) dx [("own_hands", .ref a1)]) := by rw [← hH2]; exact upd_same
    have s2 : Sub (wo A H) (wo A H2) := by rw [← hH2, wo_put hxA]; exact e1.any.old
    have ha2 : wo A H2 a1 = some (.lst (hs.map V.str)) := by rw [← hH2, wo_put hxA]; exact wo_of (dA.not ha1) h1
    have hb2 : wo B H2 a1 = some (.lst (hs.map V.str)) := by rw [← hH2, wo_put hxB]; exact wo_of (dB.not ha1) h1
    have dB2 : Dom B H2 := fun a h => f2.dom a (dB a h)
    have d2 : Dom A H2 := fun a h => f2.dom a (dA a h)
    refine ⟨_, rfl, A, [db], d2, .cons (rb.mono s2) .nil, rfl, trivial, fun u H3 e3 ru => ?_⟩
    obtain rfl : u = .bl (isL db) := ru
    refine ⟨_, rfl, ?_⟩
    by_cases hd : isL db = true
    · rw [hd]
      refine iteF ?_
      have s3 : Sub (wo A H) (wo A H3) := s2.trans e3.any.old
      obtain ⟨b, vs, rfl, hO, rL⟩ := seq_of_isL (rb.mono s3) hd
      have hvl := rL.len
      have d3 : Dom A H3 := d2.ex e3
      have f3 : Ex [x] H H3 := f2.trans e3.any
      have hx3 := e3.at hx2
      have ha3 := e3.any.old _ _ ha2
      generalize hds : itemsD db = ds at *
      refine ⟨_, rfl, b, vs, rfl, seqAt_of hO, fun J Ok S hok => for_src S (fun i σ H' => ∃ y1 y2, σ = [some (.ref x), some hv, some (.ref b), y1, y2] ∧ Ex [] H3 H' ∧ badAt hs ds 0 = badAt hs (ds.drop i) i)
        ⟨_, _, rfl, Ex.refl _ _, by simp⟩ (fun i σ H' hi ⟨_, _, _, e4, _⟩ => hok H' (seqAt_same hO e4.any.old)) ?_ ?_⟩
      · rintro i y σ H4 H5 hi ⟨y1, y2, rfl, e4, hgo⟩ ⟨Tt, z, rfl, hTt, rfl, hz⟩
        obtain ⟨dz, hdz, rz⟩ := rL.get hz
        have e5 : Ex [] H4 (upd H4 Tt (.tup [.int (i : Nat), z])) := Ex.new hTt
        have s5 := (e4.trans e5).any (A := A) |>.old
        have hdrop : ds.drop i = dz :: ds.drop (i + 1) := by
          obtain ⟨hlt, e⟩ := List.getElem?_eq_some_iff.mp hdz
          rw [← e]
          exact List.drop_eq_getElem_cons hlt
        rw [hdrop] at hgo
        have hdm := List.mem_of_getElem? hdz
        refine ⟨Tt, _, rfl, SqT.of upd_same, rfl, _, _, rfl, _, _, rfl, rfl, ?_⟩
        refine ⟨_, rfl, _, rfl, x, _, dx, _, .ref a1, rfl, (e4.trans e5).at hx3, T.c_Stops, T.na_hands, rfl, ?_⟩
        refine ⟨A, dz, hs, z, a1, d3.ex (e4.trans e5), rfl, rz.mono s5, s5 _ _ ha3, Nat.le_trans (tb.2 dz hdm).1 (by decide), (tb.2 dz hdm).2, fun H6 e6 => ⟨_, rfl, ?_⟩⟩
        by_cases c : lotD dz hs = true
        · rw [c]
          refine iteF ⟨_, _, rfl, (e4.trans e5).trans e6, ?_⟩
          rw [hgo]
          show (if lotD dz hs = true then _ else _) = _
          rw [if_pos c]
        · rw [Bool.not_eq_true _ |>.mp c]
          refine iteT ⟨_, rfl, mkErr fun dd hdd => k2 i hd ?_ dd _ (f3.trans (((e4.trans e5).trans e6).trans (Ex.new hdd)).any) upd_same⟩
          rw [hgo]
          show (if lotD dz hs = true then _ else _) = _
          rw [if_neg c]
      · rintro σ H4 ⟨y1, y2, rfl, e4, hgo⟩
        have hdr : ds.drop vs.length = [] := List.drop_eq_nil_of_le (by omega)
        rw [hdr] at hgo
        have hno : badAt hs ds 0 = none := hgo
        have hall := badAt_none hno
        have s4 := e4.any (A := A) |>.old
        refine ⟨by show 0 ≤ sizeLine; decide, fun p1 hp1 => ⟨by show 1 ≤ sizeLine; decide, fun p2 hp2 => ?_⟩⟩
        have g1 : Ex [] H4 (upd H4 p1 (.lst [])) := Ex.new hp1
        have g2 : Ex [] (upd H4 p1 (.lst [])) (upd (upd H4 p1 (.lst [])) p2 (.lst [.ref p1])) := Ex.new hp2
        have hp2b : (upd (upd H4 p1 (.lst [])) p2 (.lst [.ref p1])) p2 = some (.lst [.ref p1]) := upd_same
        have hp1b : (upd (upd H4 p1 (.lst [])) p2 (.lst [.ref p1])) p1 = some (.lst []) := g2.at upd_same
        have g3 := g1.trans g2
        generalize (upd (upd H4 p1 (.lst [])) p2 (.lst [.ref p1])) = H5 at g3 hp2b hp1b ⊢
        have e45 := e4.trans g3
        have s5 := e45.any (A := A) |>.old
        have d5 : Dom A H5 := d3.ex e45
        have rL5 := rL.mono s5
        have hp1A : p1 ∉ A := (d3.ex e4).not hp1
        have hp2A : p2 ∉ A := fun z => by
          have := (d3.ex (e4.trans g1)) p2 z
          exact this hp2
        have dB5 : Dom B H5 := (dB2.ex e3).ex e45
        have hp1B : p1 ∉ B := ((dB2.ex e3).ex e4).not hp1
        refine ⟨_, rfl, b, vs, rfl, seqAt_of (seqAt_ex hO s5), fun J Ok S hok => lc_lots S ds (fun d => srt (strsOf d)) hvl.symm (by omega) (fun H' e => hok H' (seqAt_same (seqAt_ex hO s5) (e.any (A := A)).old)) ?_ ?_⟩
        · rintro i d y H9 H6 Kt Kf hdi e6 ⟨rfl, hy⟩ kt
          obtain ⟨d', hd', ry⟩ := rL5.get hy
          obtain rfl : d' = d := Option.some.inj (hd'.symm.trans hdi)
          obtain ⟨q1, q2, q3, q4⟩ := lotD_strs (hall d' (List.mem_of_getElem? hdi))
          obtain ⟨c, ws, rfl, hc, rc⟩ := seq_of_isL (ry.mono (e6.any (A := A)).old) q1
          rw [q2] at rc
          obtain rfl := RepL.strs.mp rc
          exact ⟨rfl, _, rfl, c, strsOf d', rfl, seqAt_of hc, fun q hq => kt q _ (Ex.refl _ _) hq⟩
        · intro D ps H6 hD e6 ep hD6 hps
          have hl6 : ps.length = ds.length := by have := congrArg List.length ep; rw [List.length_map, List.length_map] at this; exact this
          refine ⟨p2, D, _, ps.map fun b => V.ref b.1, rfl, rfl, e6.at hp2b, hD6, ?_, fun p3 hp3 => ?_⟩
          · rw [List.length_map]
            have : ds.length ≤ 50 := tb.1
            exact Nat.le_trans (show 1 + ps.length ≤ 60 by omega) (by decide)
          have f6 : Ex [x] H H6 := f3.trans (e45.trans e6).any
          have e7 : Ex [] H6 (upd H6 p3 (.lst ([.ref p1] ++ ps.map fun b => V.ref b.1))) := Ex.new hp3
          have d6 : Dom B H6 := dB5.ex e6
          have hp3A := d6.not hp3
          have elots : ps.map (·.2) = (lotsOf db).map srt := by
            rw [ep]
            unfold lotsOf
            rw [hds, List.map_map]
            rfl
          have rv6 : RepL (wo B H6) (((lotsOf db).map srt).map ls) (ps.map fun b => V.ref b.1) := by
            rw [← elots]
            exact rep_pairs fun b hb => wo_of (dB5.not (hps b hb).1) (hps b hb).2.2
          have rep7 : Rep (wo B (upd H6 p3 (.lst ([.ref p1] ++ ps.map fun b => V.ref b.1)))) (lls ([] :: (lotsOf db).map srt)) (.ref p3) := by
            refine ⟨p3, _, rfl, wo_of hp3A upd_same, ?_⟩
            exact RepL.cons (Rep.ls.mpr ⟨p1, rfl, e7.any.old _ _ (wo_of hp1B (e6.at hp1b))⟩) (rv6.mono e7.any.old)
          have hLots : Lots ([] :: (lotsOf db).map srt) := by
            have key : ∀ c ∈ [] :: (lotsOf db).map srt, okLot c ∧ c.length ≤ 60 := fun c hc => by
              rcases List.mem_cons.1 hc with q | hc
              · rw [q]
                exact ⟨fun _ h => absurd h (by simp), by decide⟩
              · obtain ⟨c', hc', rfl⟩ := List.mem_map.mp hc
                unfold lotsOf at hc'
                rw [hds] at hc'
                obtain ⟨d, hdd, rfl⟩ := List.mem_map.mp hc'
                obtain ⟨q1, q2, q3, q4⟩ := lotD_strs (hall d hdd)
                refine ⟨fun y hy => nm_ok (q4 y (mem_srt.mp hy)).1, ?_⟩
                rw [len_srt]
                have := (tb.2 d hdd).1
                rw [q2, List.length_map] at this
                omega
            exact ⟨fun c hc => (key c hc).1, fun c hc => (key c hc).2⟩
          refine ⟨B, _, _, d6.ex e7, rfl, rep7, hLots, ?_, (f6.trans e7.any).tab hT, fun v8 H8 e8 r8 => ?_⟩
          · rw [List.length_cons, List.length_map]
            unfold lotsOf
            rw [hds, List.length_map]
            have : ds.length ≤ 50 := tb.1
            omega
          · obtain ⟨a2, vs8, rfl, h8, rl8⟩ := r8
            have e38 := ((e45.trans e6).trans e7).trans e8
            refine ⟨_, rfl, x, _, dx, _, rfl, e38.at hx3, T.c_Stops, T.na_bands, by show 1 < 1000; decide, ?_⟩
            refine k3 hd hno a1 a2 _ ((f3.trans e38.any).trans (Ex.put (List.mem_cons_self ..) (e38.at hx3))) upd_same ?_ ?_
            · rw [wo_put hxB]
              exact e38.any.old _ _ (e3.any.old _ _ hb2)
            · rw [wo_put hxB]
              exact ⟨a2, vs8, rfl, h8, rl8⟩
    · rw [Bool.not_eq_true _ |>.mp hd]
      refine iteT (mkErr fun dd hdd => k1 (Bool.not_eq_true _ |>.mp hd) dd _ (f2.trans (e3.trans (Ex.new hdd)).any) upd_same)
end
end K70
end
section
set_option maxHeartbeats 4000000
/-! Stops: hands, bands, is_band, ==; the defs of stores.py behind it. -/
namespace K70
open PySem PySem.Spec PyProof.Rows L2
variable [Tbs]
theorem seqAt_sub {G G' : Hp} {a : Addr} {vs : List V} (h : SeqAt G a vs) (s : Sub G G') : SeqAt G' a vs := h.elim (fun h => .inl (s _ _ h)) (fun h => .inr (s _ _ h))
section
variable {P : Program} {w : World} {K : PySem.W.Frag} {mg : Str → Option Value} {base : Heap}
def spHands (K : PySem.W.Frag) : Sp := fun vs H Q _ => ∃ A x hs gs, vs = [.ref x] ∧ StopsAt K (wo A H) x hs gs ∧ ∀ p, H p = none → Q (.ref p) (upd H p (.lst (hs.map V.str)))
theorem ok_StopsXhands (T : Top K mg base) : FnOk P w K mg base CX0 2 (He.ma K (He.ga K "Stops") "hands") (fdOf K (He.ma K (He.ga K "Stops") "hands")) ["self"] (spHands K) := by
  refine T.d_StopsXhands.ok sc_StopsXhands (fun vs H Q E h => ?len) (fun cdv A outer s H vs Q E hr h => ⟨_, PSs.nox (pss_one (ps_ret (pe_callTy call_listS (by rfl) T.n_list (by decide +kernel) (pa_cons (pe_fld (pv 0) rfl) pa_nil)))), ?go⟩)
  case len =>
    obtain ⟨A, x, hs, gs, rfl, _⟩ := h
    rfl
  case go =>
    obtain ⟨A, x, hs, gs, rfl, ⟨dx, a1, a2, h1, h2, h3⟩, k⟩ := h
    exact ⟨_, rfl, x, _, dx, _, .ref a1, rfl, wo_at h1, T.c_Stops, T.na_hands, rfl, a1, _, rfl, .inl (wo_at h2), k⟩
def spBands (K : PySem.W.Frag) : Sp := fun vs H Q _ => ∃ A x hs gs, vs = [.ref x] ∧ StopsAt K (wo A H) x hs gs ∧ gs.length ≤ 1000 ∧ ∀ D (ps : List (Addr × Lot)) H', H D = none → Ex [] H H' → ps.map (·.2) = gs → H' D = some (.lst (ps.map fun b => V.ref b.1)) → (∀ b ∈ ps, H b.1 = none ∧ b.1 ≠ D ∧ H' b.1 = some (.lst (b.2.map V.str))) → Q (.ref D) H'
theorem ok_StopsXbands (T : Top K mg base) : FnOk P w K mg base CX0 2 (He.ma K (He.ga K "Stops") "bands") (fdOf K (He.ma K (He.ga K "Stops") "bands")) ["self"] (spBands K) := by
  refine T.d_StopsXbands.ok sc_StopsXbands (fun vs H Q E h => ?len) (fun cdv A outer s H vs Q E hr h => ⟨_, PSs.nox (pss_one (ps_ret (pe_lc (own := [("band", 1)]) (g := gName 1) (tt := _) rfl sc_StopsXbands.nd (pi_seqA (pe_fld (pv 0) rfl)) (blkOk_by (by kernel_rfl)) (fun _ _ _ _ _ => (pg_name (i := 1) sc_StopsXbands.nd rfl (Or.inl rfl))) (fun _ _ _ _ _ => pts_nil) (fun _ _ _ _ _ => (pe_callTy call_listS (by rfl) T.n_list (by decide +kernel) (pa_cons (pv 1) pa_nil)))))), ?go⟩)
  case len =>
    obtain ⟨A, x, hs, gs, rfl, _⟩ := h
    rfl
  case go =>
    obtain ⟨A, x, hs, gs, rfl, ⟨dx, a1, a2, h1, h2, h3⟩, hn, k⟩ := h
    obtain ⟨a3, vs, e, h3, rL⟩ := h3
    cases e
    have hvl : gs.length = vs.length := by rw [rL.len, List.length_map]
    refine ⟨_, rfl, x, _, dx, _, .ref a2, rfl, wo_at h1, T.c_Stops, T.na_bands, rfl, a2, vs, rfl, .inl (wo_at h3), fun J Ok S hok => lc_lots S gs id hvl (by omega) (fun H' e => hok H' ((e.at (wo_at h3)).trans (wo_at h3).symm)) ?_ ?_⟩
    · rintro i z x A1 H1 Kt Kf hz e1 ⟨rfl, hx⟩ kt
      obtain ⟨b, rfl, hb⟩ := lot_at rL hx hz
      exact ⟨rfl, _, rfl, b, _, rfl, .inl (e1.at (wo_at hb)), fun q hq => kt q _ (Ex.refl _ _) hq⟩
    · intro D ps H' hD e ep hd hps
      rw [List.map_id] at ep
      exact k D ps H' hD e ep hd hps
def bandB (gs : List Lot) (d : PyData) (hs : Lot) : Bool := lotD d hs && (gs.map fun g => liesB (strsOf d) g).any id
def spIsBand (K : PySem.W.Frag) : Sp := fun vs H Q _ => ∃ A d v x hs gs, Dom A H ∧ vs = [.ref x, v] ∧ StopsAt K (wo A H) x hs gs ∧ gs.length ≤ 1000 ∧ Rep (wo A H) d v ∧ tinyD d ∧ ∀ H', Ex [] H H' → Q (.bl (bandB gs d hs)) H'
theorem ok_StopsXisXband (T : Top K mg base) : FnOk P w K mg base CX0 5 (He.ma K (He.ga K "Stops") "is_band") (fdOf K (He.ma K (He.ga K "Stops") "is_band")) ["self", "thing"] (spIsBand K) := by
  have G_isXlot := ok_isXlot (P := P) (w := w) T
  have b_isXlot := bd_isXlot T
  have G_liesXin := ok_liesXin (P := P) (w := w) T
  have b_liesXin := bd_liesXin T
  refine T.d_StopsXisXband.ok sc_StopsXisXband (fun vs H Q E h => ?len) (fun cdv A outer s H vs Q E hr h => ⟨_, PSs.nox (pss_one (ps_ret (pe_and (pe_call G_isXlot (hr.mono (by decide)) rfl T.g_isXlot T.d_isXlot.kp b_isXlot .nil pass0 (pa_cons (pv 1) (pa_cons (pe_fld (pv 0) rfl) pa_nil))) (pe_one (pe_callB (cr_anyS rfl) (by rfl) T.n_any (by decide +kernel) (pa_cons (pe_lc (own := [("band", 2)]) (g := gName 2) (tt := _) rfl sc_StopsXisXband.nd (pi_seqA (pe_fld (pv 0) rfl)) (blkOk_by (by kernel_rfl)) (fun _ _ _ _ _ => (pg_name (i := 2) sc_StopsXisXband.nd rfl (Or.inl rfl))) (fun _ _ _ _ _ => pts_nil) (fun _ _ _ _ _ => (pe_call G_liesXin (hr.mono (by decide)) rfl T.g_liesXin T.d_liesXin.kp b_liesXin .nil pass0 (pa_cons (pv 1) (pa_cons (pv 2) pa_nil))))) pa_nil)))))), ?go⟩)
  case len =>
    obtain ⟨A, d, v, x, hs, gs, _, rfl, _⟩ := h
    rfl
  case go =>
    obtain ⟨A, d, v, x, hs, gs, dA, rfl, ⟨dx, a1, a2, h1, h2, h3⟩, hn, rv, td, k⟩ := h
    refine ⟨_, rfl, _, rfl, x, _, dx, _, .ref a1, rfl, wo_at h1, T.c_Stops, T.na_hands, rfl, ?_⟩
    refine ⟨A, d, hs, v, a1, dA, rfl, rv, h2, Nat.le_trans td.1 (by decide), td.2, fun H0 e0 => ⟨_, rfl, ?_⟩⟩
    by_cases c : lotD d hs = true
    · rw [c]
      refine iteT ?_
      obtain ⟨q1, q2, q3, q4⟩ := lotD_strs c
      have s0 := e0.any (A := A) |>.old
      obtain ⟨b, ws, rfl, hb, rb⟩ := seq_of_isL (rv.mono s0) q1
      have hlen := td.1
      rw [q2] at rb hlen
      rw [List.length_map] at hlen
      obtain rfl := RepL.strs.mp rb
      obtain ⟨a3, vs, e, h3', rL⟩ := h3.mono s0
      cases e
      have hvl : gs.length = vs.length := by rw [rL.len, List.length_map]
      refine ⟨_, rfl, x, _, dx, _, .ref a2, rfl, e0.at (wo_at h1), T.c_Stops, T.na_bands, rfl, a2, vs, rfl, .inl (wo_at h3'), fun J Ok S hok => lc_map S (A := A) gs (fun _ => true) (fun g => .bool (liesB (strsOf d) g)) hvl (dA.ex e0) (by omega) (fun H' s => hok H' (seqAt_same (.inl h3') s)) ?_ ?_⟩
      · rintro i g y A1 H1 H2 Kt Kf hg hA d1 s1 e1 ⟨rfl, hy⟩ kt kf
        obtain ⟨c, rfl, hc⟩ := lot_at rL hy hg
        exact ⟨rfl, _, rfl, _, rfl, A1, b, c, strsOf d, g, d1, rfl, seqAt_sub hb s1, s1 _ _ hc, by omega, fun H3 e3 => kt rfl _ _ e3 rfl⟩
      · intro D H1 hD e1 r1
        refine ⟨D, _, rfl, bl_fin r1, ?_⟩
        have q := k _ (e0.trans e1)
        unfold bandB at q
        rw [c, Bool.true_and] at q
        exact q
    · rw [Bool.not_eq_true _ |>.mp c]
      refine iteF ?_
      have q := k _ e0
      unfold bandB at q
      rw [Bool.not_eq_true _ |>.mp c, Bool.false_and] at q
      exact q
def okHs (hs : Lot) : Prop := ∀ z ∈ hs, isNm z = true
theorem okHs.lot {hs : Lot} (h : okHs hs) : okLot hs := fun z hz => nm_ok (h z hz)
def spEqS (K : PySem.W.Frag) : Sp := fun vs H Q _ => ∃ A x y hs gs, vs = [.ref x, .ref y] ∧ StopsAt K (wo A H) x hs gs ∧ okLot hs ∧ (∀ g ∈ gs, okLot g) ∧
  ((∃ hs2 gs2, StopsAt K (wo A H) y hs2 gs2 ∧ okLot hs2 ∧ (∀ g ∈ gs2, okLot g) ∧ Q (.bl (decide (hs = hs2) && decide (gs = gs2))) H) ∨ ∃ xs, H y = some (.lst xs) ∧ Q (.bl false) H)
theorem ok_StopsXeq (T : Top K mg base) : FnOk P w K mg base CX0 2 (He.ma K (He.ga K "Stops") "__eq__") (fdOf K (He.ma K (He.ga K "Stops") "__eq__")) ["self", "other"] (spEqS K) := by
  refine T.d_StopsXeq.ok sc_StopsXeq (fun vs H Q E h => ?len) (fun cdv A outer s H vs Q E hr h => ⟨_, PSs.nox (pss_one (ps_ret (pe_and (pe_callB call_isi (by rfl) T.n_isinstance (by decide +kernel) (pa_cons (pv 1) (pa_cons (pe_glob (v := .ref (He.ga K "Stops")) rfl T.g_Stops rfl) pa_nil))) (pe_and (pe_cmpR (op_eqR (hu64 hr)) (pe_fld (pv 0) rfl) (pe_fld (pv 1) rfl) (nomark _)) (pe_one (pe_cmpR (op_eqR (hu64 hr)) (pe_fld (pv 0) rfl) (pe_fld (pv 1) rfl) (nomark _))))))), ?go⟩)
  case len =>
    obtain ⟨A, x, y, hs, gs, rfl, _⟩ := h
    rfl
  case go =>
    obtain ⟨A, x, y, hs, gs, rfl, ⟨dx, a1, a2, h1, h2, h3⟩, o1, o2, hy⟩ := h
    rcases hy with ⟨hs2, gs2, ⟨dy, b1, b2, k1, k2, k3⟩, o3, o4, k⟩ | ⟨xs, hy, k⟩
    · refine ⟨_, rfl, .ref y, .ref (cS K), .ref (cS K), .ref (cS K), true, rfl, .own _, .base (.ins (wo_at k1) T.c_Stops T.ic_class T.ic_get T.ic_take T.ic_mro), T.is_yes, _, rfl, ?_⟩
      refine iteT ⟨_, rfl, x, _, dx, _, .ref a1, rfl, wo_at h1, T.c_Stops, T.na_hands, rfl, _, rfl, y, _, dy, _, .ref b1, rfl, wo_at k1, T.c_Stops, T.na_hands, rfl, ls hs, ls hs2, datAt_ls (Rep.ls.mpr ⟨_, rfl, h2⟩) o1, datAt_ls (Rep.ls.mpr ⟨_, rfl, k2⟩) o3, decide (hs = hs2), by rw [eqv_ls]; rfl, ?_⟩
      by_cases c : hs = hs2
      · rw [decide_eq_true c] at k ⊢
        rw [Bool.true_and] at k
        refine iteT ⟨_, rfl, x, _, dx, _, .ref a2, rfl, wo_at h1, T.c_Stops, T.na_bands, rfl, _, rfl, y, _, dy, _, .ref b2, rfl, wo_at k1, T.c_Stops, T.na_bands, rfl, lls gs, lls gs2, datAt_lls h3 o2, datAt_lls k3 o4, ?_⟩
        rw [eqv_lls]
        exact k
      · rw [decide_eq_false c] at k ⊢
        rw [Bool.false_and] at k
        exact iteF k
    · exact ⟨_, rfl, .ref y, .ref (cS K), .type "list", .ref (cS K), false, rfl, .own _, .base (.lst hy), T.is_no, _, rfl, iteF k⟩
end
end K70
end
section
set_option maxHeartbeats 4000000
/-! stores.py behind the class. -/
namespace K70
open PySem PySem.Spec PyProof.Rows L2
variable [Tbs]
/-- the first pair of lots, in the order of the two loops -/
def firstPair (p : Lot → Lot → Bool) (gs : List Lot) : Option (Lot × Lot) := gs.findSome? fun a => (gs.find? (p a)).map fun b => (a, b)
def pairD : Option (Lot × Lot) → PyData
  | none => .none
  | some (a, b) => .tuple [tpl a, tpl b]
theorem drop_at {α : Type} {gs : List α} {i : Nat} {z : α} (h : gs[i]? = some z) : gs.drop i = z :: gs.drop (i + 1) := by
  obtain ⟨hlt, e⟩ := List.getElem?_eq_some_iff.mp h
  rw [← e]
  exact List.drop_eq_getElem_cons hlt
theorem rep_pair {A : List Addr} {H : Hp} {q1 q2 q3 : Addr} {a b : Lot} (d : Dom A H) (h1 : H q1 = none) (h2 : upd H q1 (.tup (a.map V.str)) q2 = none) (h3 : upd (upd H q1 (.tup (a.map V.str))) q2 (.tup (b.map V.str)) q3 = none) :
    Ex [] H (upd (upd (upd H q1 (.tup (a.map V.str))) q2 (.tup (b.map V.str))) q3 (.tup [.ref q1, .ref q2])) ∧ Rep (wo A (upd (upd (upd H q1 (.tup (a.map V.str))) q2 (.tup (b.map V.str))) q3 (.tup [.ref q1, .ref q2]))) (pairD (some (a, b))) (.ref q3) := by
  have e1 : Ex [] H (upd H q1 (.tup (a.map V.str))) := Ex.new h1
  have e2 : Ex [] (upd H q1 (.tup (a.map V.str))) _ := Ex.new (o := .tup (b.map V.str)) h2
  have e3 : Ex [] (upd (upd H q1 (.tup (a.map V.str))) q2 (.tup (b.map V.str))) _ := Ex.new (o := .tup [.ref q1, .ref q2]) h3
  refine ⟨e1.trans (e2.trans e3), q3, _, rfl, wo_of ((d.ex (e1.trans e2)).not h3) upd_same, ?_⟩
  refine .cons ⟨q1, _, rfl, wo_of (d.not h1) (e3.at (e2.at upd_same)), RepL.strs.mpr rfl⟩ (.cons ⟨q2, _, rfl, wo_of ((d.ex e1).not h2) (e3.at upd_same), RepL.strs.mpr rfl⟩ .nil)
def holdB (hs o1 o2 : Lot) : Bool := (hs.map fun z => decide (z ∈ o1) || decide (z ∈ o2)).all id
def freeL (hs : Lot) (gs : List Lot) : Lot := hs.filter fun z => !(gs.map fun g => decide (z ∈ g)).any id
theorem ps_at {ps : List (Addr × Lot)} {gs : List Lot} {i : Nat} {x : V} {z : Lot} (ep : ps.map (·.2) = gs) (hx : (ps.map fun b => V.ref b.1)[i]? = some x) (hz : gs[i]? = some z) : ∃ b, (b, z) ∈ ps ∧ x = .ref b := by
  rw [← ep, List.getElem?_map] at hz
  cases q : ps[i]? with
  | none => rw [q] at hz; cases hz
  | some p =>
    rw [q] at hz
    rw [List.getElem?_map, q] at hx
    have e1 : p.2 = z := Option.some.inj hz
    refine ⟨p.1, ?_, (Option.some.inj hx).symm⟩
    rw [← e1]
    exact List.mem_of_getElem? q
/-- an instance, for its fields -/
theorem StopsAt.ins {K : PySem.W.Frag} {G : Hp} {x : Addr} {hs : Lot} {gs : List Lot} (h : StopsAt K G x hs gs) : ∃ dx a1 a2, G x = some (.ins (cS K) dx [("own_hands", .ref a1), ("own_bands", .ref a2)]) := by
  obtain ⟨dx, a1, a2, h1, _⟩ := h
  exact ⟨dx, a1, a2, h1⟩
section
variable {P : Program} {w : World} {K : PySem.W.Frag} {mg : Str → Option Value} {base : Heap}
def spHold (K : PySem.W.Frag) : Sp := fun vs H Q _ => ∃ A x a b hs gs o1 o2, Dom A H ∧ vs = [.ref x, .ref a, .ref b] ∧ StopsAt K (wo A H) x hs gs ∧ hs.length ≤ 1000 ∧ wo A H a = some (.lst (o1.map V.str)) ∧ wo A H b = some (.lst (o2.map V.str)) ∧ ∀ H', Ex [] H H' → Q (.bl (holdB hs o1 o2)) H'
theorem ok_holdXall (T : Top K mg base) : FnOk P w K mg base CX0 3 (He.ga K "hold_all") (fdOf K (He.ga K "hold_all")) ["stops", "one", "other"] (spHold K) := by
  have G_StopsXhands := ok_StopsXhands (P := P) (w := w) T
  have b_StopsXhands := bd_StopsXhands T
  refine T.d_holdXall.ok sc_holdXall (fun vs H Q E h => ?len) (fun cdv A outer s H vs Q E hr h => ⟨_, PSs.nox (pss_one (ps_ret (pe_callB (cr_allS rfl) (by rfl) T.n_all (by decide +kernel) (pa_cons (pe_lc (own := [("hand", 3)]) (g := gName 3) (tt := _) rfl sc_holdXall.nd (pi_seqA (pe_meth0 (pv 0) T.c_Stops T.m_StopsXhands G_StopsXhands (hr.mono (by decide)) b_StopsXhands .nil pass0)) (blkOk_by (by kernel_rfl)) (fun _ _ _ _ _ => (pg_name (i := 3) sc_holdXall.nd rfl (Or.inl rfl))) (fun _ _ _ _ _ => pts_nil) (fun _ _ _ _ _ => (pe_or (pe_cmpR op_inS (pv 3) (pv 1) (by rfl)) (pe_one (pe_cmpR op_inS (pv 3) (pv 2) (by rfl)))))) pa_nil)))), ?go⟩)
  case len =>
    obtain ⟨A, x, a, b, hs, gs, o1, o2, _, rfl, _⟩ := h
    rfl
  case go =>
    obtain ⟨A, x, a, b, hs, gs, o1, o2, dA, rfl, hS, hn, ha, hb, k⟩ := h
    obtain ⟨dx, a1, a2, hx⟩ := hS.ins
    refine ⟨_, rfl, x, dx, _, rfl, wo_at hx, rfl, A, x, hs, gs, rfl, hS, fun p hp => ?_⟩
    have e0 : Ex [] H (upd H p (.lst (hs.map V.str))) := Ex.new hp
    have hpA := dA.not hp
    have hp1 : wo A (upd H p (.lst (hs.map V.str))) p = some (.lst (hs.map V.str)) := wo_of hpA upd_same
    have s0 := e0.any (A := A) |>.old
    refine ⟨p, _, rfl, .inl (wo_at hp1), fun J Ok S hok => lc_map S (A := A) hs (fun _ => true) (fun z => .bool (decide (z ∈ o1) || decide (z ∈ o2))) (by simp) (dA.ex e0) (by rw [List.length_map]; omega) (fun H' s => hok H' (seqAt_same (.inl hp1) s)) ?_ ?_⟩
    · rintro i z y A1 H1 H2 Kt Kf hz hA d1 s1 e1 ⟨rfl, hy⟩ kt kf
      obtain rfl := str_at hz hy
      refine ⟨rfl, _, rfl, _, rfl, a, o1.map V.str, rfl, .inl (wo_at (s1 _ _ (s0 _ _ ha))), rfl, flat_strs, decide (z ∈ o1), by rw [inV_strs]; rfl, ?_⟩
      by_cases c : z ∈ o1
      · rw [decide_eq_true c]
        refine iteT (kt rfl _ _ (Ex.refl _ _) ?_)
        show V.bl _ = V.bl _
        rw [decide_eq_true c]
        rfl
      · rw [decide_eq_false c]
        refine iteF ⟨_, rfl, _, rfl, b, o2.map V.str, rfl, .inl (wo_at (s1 _ _ (s0 _ _ hb))), rfl, flat_strs, kt rfl _ _ (Ex.refl _ _) ?_⟩
        rw [inV_strs]
        show V.bl _ = V.bl _
        rw [decide_eq_false c]
        rfl
    · intro D H' hD e1 r1
      exact ⟨D, _, rfl, bl_fin r1, k _ (e0.trans e1)⟩
def spTwo (K : PySem.W.Frag) : Sp := fun vs H Q _ => ∃ A x hs gs, Dom A H ∧ vs = [.ref x] ∧ StopsAt K (wo A H) x hs gs ∧ hs.length ≤ 1000 ∧ gs.length ≤ 1000 ∧ ∀ v H', Ex [] H H' → Rep (wo A H') (pairD (firstPair (holdB hs) gs)) v → Q v H'
theorem ok_twoXbands (T : Top K mg base) : FnOk P w K mg base CX0 4 (He.ga K "two_bands") (fdOf K (He.ga K "two_bands")) ["stops"] (spTwo K) := by
  have G_StopsXbands := ok_StopsXbands (P := P) (w := w) T
  have b_StopsXbands := bd_StopsXbands T
  have G_holdXall := ok_holdXall (P := P) (w := w) T
  have b_holdXall := bd_holdXall T
  refine T.d_twoXbands.ok sc_twoXbands (fun vs H Q E h => ?len) (fun cdv A outer s H vs Q E hr h => ⟨_, PSs.nox (pss_cons (ps_for PassesOwn.never rfl (pi_seqA (pe_meth0 (pv 0) T.c_Stops T.m_StopsXbands G_StopsXbands (hr.mono (by decide)) b_StopsXbands .nil pass0)) (pg_name (i := 1) sc_twoXbands.nd rfl (Or.inl rfl)) (pss_one (ps_for PassesOwn.never rfl (pi_seqA (pe_meth0 (pv 0) T.c_Stops T.m_StopsXbands G_StopsXbands (hr.mono (by decide)) b_StopsXbands .nil pass0)) (pg_name (i := 2) sc_twoXbands.nd rfl (Or.inl rfl)) (pss_one (ps_if (pt_val (pe_call G_holdXall (hr.mono (by decide)) rfl T.g_holdXall T.d_holdXall.kp b_holdXall .nil pass0 (pa_cons (pv 0) (pa_cons (pv 1) (pa_cons (pv 2) pa_nil))))) (pss_one (ps_ret (pe_tup (pa_cons (pe_callTy call_tupleS (by rfl) T.n_tuple (by decide +kernel) (pa_cons (pv 1) pa_nil)) (pa_cons (pe_callTy call_tupleS (by rfl) T.n_tuple (by decide +kernel) (pa_cons (pv 2) pa_nil)) pa_nil))))) pss_nil)))))
    (pss_one (ps_ret pe_non))), ?go⟩)
  case len =>
    obtain ⟨A, x, hs, gs, _, rfl, _⟩ := h
    rfl
  case go =>
    obtain ⟨A, x, hs, gs, dA, rfl, hS, hh, hn, k⟩ := h
    obtain ⟨dx, a1, a2, hx⟩ := hS.ins
    refine ⟨_, rfl, x, dx, _, rfl, wo_at hx, rfl, A, x, hs, gs, rfl, hS, hn, fun D ps H1 hD e1 ep hd hps => ?_⟩
    have hl : (ps.map fun b => V.ref b.1).length = gs.length := by rw [← ep, List.length_map, List.length_map]
    refine ⟨D, _, rfl, .inl hd, fun J Ok S hok => for_src S (fun i σ H' => ∃ y1 y2, σ = [some (.ref x), y1, y2] ∧ Ex [] H1 H' ∧ firstPair (holdB hs) gs = (gs.drop i).findSome? fun a => (gs.find? (holdB hs a)).map fun b => (a, b))
      ⟨_, _, rfl, Ex.refl _ _, rfl⟩ (fun i σ H' hi ⟨_, _, _, e2, _⟩ => hok H' ((e2.at hd).trans hd.symm)) ?_ ?_⟩
    · rintro i y σ H9 H2 hi ⟨y1, y2, rfl, e2, hgo⟩ ⟨rfl, hy⟩
      have hz : gs[i]? = some gs[i] := by simp [hl ▸ hi]
      generalize gs[i] = z at hz
      obtain ⟨b, hb, rfl⟩ := ps_at ep hy hz
      obtain ⟨hb0, hbD, hb1⟩ := hps _ hb
      rw [drop_at hz, List.findSome?_cons] at hgo
      have e02 := e1.trans e2
      have hS2 := hS.mono (e02.any (A := A)).old
      refine ⟨_, rfl, x, dx, _, rfl, e02.at (wo_at hx), rfl, A, x, hs, gs, rfl, hS2, hn, fun D2 ps2 H3 hD2 e3 ep2 hd2 hps2 => ?_⟩
      have hl2 : (ps2.map fun b => V.ref b.1).length = gs.length := by rw [← ep2, List.length_map, List.length_map]
      have d3 : Dom A H3 := dA.ex (e02.trans e3)
      refine ⟨D2, _, rfl, .inl hd2, fun J Ok S hok => for_src S (fun i σ H' => ∃ y2, σ = [some (.ref x), some (.ref b), y2] ∧ Ex [] H3 H' ∧ gs.find? (holdB hs z) = (gs.drop i).find? (holdB hs z))
        ⟨_, rfl, Ex.refl _ _, rfl⟩ (fun i σ H' hi ⟨_, _, e4, _⟩ => hok H' ((e4.at hd2).trans hd2.symm)) ?_ ?_⟩
      · rintro j y' σ H9 H4 hj ⟨y2, rfl, e4, hgo2⟩ ⟨rfl, hy2⟩
        have hz2 : gs[j]? = some gs[j] := by simp [hl2 ▸ hj]
        generalize gs[j] = z2 at hz2
        obtain ⟨b2, hb2, rfl⟩ := ps_at ep2 hy2 hz2
        obtain ⟨hc0, hcD, hc1⟩ := hps2 _ hb2
        rw [drop_at hz2, List.find?_cons] at hgo2
        have e04 := (e02.trans e3).trans e4
        have d4 : Dom A H4 := d3.ex e4
        have hb4 : wo A H4 b = some (.lst (z.map V.str)) := wo_of (dA.not hb0) (((e2.trans e3).trans e4).at hb1)
        have hc4 : wo A H4 b2 = some (.lst (z2.map V.str)) := wo_of ((dA.ex e02).not hc0) (e4.at hc1)
        refine ⟨_, rfl, _, rfl, _, rfl, A, x, b, b2, hs, gs, z, z2, d4, rfl, hS.mono (e04.any (A := A)).old, hh, hb4, hc4, fun H5 e5 => ⟨_, rfl, ?_⟩⟩
        by_cases c : holdB hs z z2 = true
        · rw [c] at hgo2 ⊢
          refine iteT ?_
          have hb5 := e5.at (wo_at hb4)
          refine ⟨_, rfl, b, _, rfl, hb5, fun q1 hq1 => ?_⟩
          have hc5 := (Ex.new (o := .tup (z.map V.str)) hq1 : Ex [] H5 _).at (e5.at (wo_at hc4))
          refine ⟨_, rfl, b2, _, rfl, hc5, fun q2 hq2 => ⟨by show 2 ≤ sizeLine; decide, fun q3 hq3 => ?_⟩⟩
          obtain ⟨e6, r6⟩ := rep_pair (d4.ex e5) hq1 hq2 hq3
          refine k _ _ ((e04.trans e5).trans e6) ?_
          rw [hgo, hgo2]
          exact r6
        · rw [Bool.not_eq_true _ |>.mp c] at hgo2 ⊢
          exact iteF ⟨_, rfl, e4.trans e5, hgo2⟩
      · rintro σ H4 ⟨y2, rfl, e4, hgo2⟩
        have hdr : gs.drop (ps2.map fun b => V.ref b.1).length = [] := by rw [hl2]; exact List.drop_length
        rw [hdr] at hgo2
        rw [hgo2] at hgo
        exact ⟨_, _, rfl, (e2.trans e3).trans e4, hgo⟩
    · rintro σ H2 ⟨y1, y2, rfl, e2, hgo⟩
      have hdr : gs.drop (ps.map fun b => V.ref b.1).length = [] := by rw [hl]; exact List.drop_length
      rw [hdr] at hgo
      refine k _ _ (e1.trans e2) ?_
      rw [hgo]
      rfl
def spFree (K : PySem.W.Frag) : Sp := fun vs H Q _ => ∃ A x hs gs, Dom A H ∧ vs = [.ref x] ∧ StopsAt K (wo A H) x hs gs ∧ hs.length ≤ 1000 ∧ gs.length ≤ 1000 ∧ ∀ v H', Ex [] H H' → Rep (wo A H') (ls (freeL hs gs)) v → Q v H'
theorem ok_freeXhands (T : Top K mg base) : FnOk P w K mg base CX0 3 (He.ga K "free_hands") (fdOf K (He.ga K "free_hands")) ["stops"] (spFree K) := by
  have G_StopsXhands := ok_StopsXhands (P := P) (w := w) T
  have b_StopsXhands := bd_StopsXhands T
  have G_StopsXbands := ok_StopsXbands (P := P) (w := w) T
  have b_StopsXbands := bd_StopsXbands T
  refine T.d_freeXhands.ok sc_freeXhands (fun vs H Q E h => ?len) (fun cdv A outer s H vs Q E hr h => ⟨_, PSs.nox (pss_one (ps_ret (pe_lc (own := [("hand", 1)]) (g := gName 1) (tt := _) rfl sc_freeXhands.nd (pi_seqA (pe_meth0 (pv 0) T.c_Stops T.m_StopsXhands G_StopsXhands (hr.mono (by decide)) b_StopsXhands .nil pass0)) (blkOk_by (by kernel_rfl)) (fun _ _ _ _ _ => (pg_name (i := 1) sc_freeXhands.nd rfl (Or.inr rfl))) (fun _ _ _ _ _ => (pts_one (pt_not (pt_val (pe_callB (cr_anyS rfl) (by rfl) T.n_any (by decide +kernel) (pa_cons (pe_lc (own := [("band", 2)]) (g := gName 2) (tt := _) rfl sc_freeXhands.nd (pi_seqA (pe_meth0 (pv 0) T.c_Stops T.m_StopsXbands G_StopsXbands (hr.mono (by decide)) b_StopsXbands .nil pass0)) (blkOk_by (by kernel_rfl)) (fun _ _ _ _ _ => (pg_name (i := 2) sc_freeXhands.nd rfl (Or.inl rfl))) (fun _ _ _ _ _ => pts_nil) (fun _ _ _ _ _ => (pe_cmpR op_inS (pv 1) (pv 2) (by rfl)))) pa_nil)))))) (fun _ _ _ _ _ => (pv 1))))), ?go⟩)
  case len =>
    obtain ⟨A, x, hs, gs, _, rfl, _⟩ := h
    rfl
  case go =>
    obtain ⟨A, x, hs, gs, dA, rfl, hS, hh, hn, k⟩ := h
    obtain ⟨dx, a1, a2, hx⟩ := hS.ins
    refine ⟨_, rfl, x, dx, _, rfl, wo_at hx, rfl, A, x, hs, gs, rfl, hS, fun p hp => ?_⟩
    have e0 : Ex [] H (upd H p (.lst (hs.map V.str))) := Ex.new hp
    have hpA := dA.not hp
    have hp1 : wo A (upd H p (.lst (hs.map V.str))) p = some (.lst (hs.map V.str)) := wo_of hpA upd_same
    have s0 := e0.any (A := A) |>.old
    refine ⟨p, _, rfl, .inl (wo_at hp1), fun J Ok S hok => lc_map S (A := A) hs (fun z => !(gs.map fun g => decide (z ∈ g)).any id) .str (by simp) (dA.ex e0) (by rw [List.length_map]; omega) (fun H' s => hok H' (seqAt_same (.inl hp1) s)) ?_ ?_⟩
    · rintro i z y A1 H9 H1 Kt Kf hz hA d1 s1 e1 ⟨rfl, hy⟩ kt kf
      obtain rfl := str_at hz hy
      have e01 := e0.trans e1
      refine ⟨rfl, _, rfl, x, dx, _, rfl, e01.at (wo_at hx), rfl, A, x, hs, gs, rfl, hS.mono (e01.any (A := A)).old, hn, fun D ps H2 hD e2 ep hd hps => ?_⟩
      have hl : (ps.map fun b => V.ref b.1).length = gs.length := by rw [← ep, List.length_map, List.length_map]
      refine ⟨D, _, rfl, .inl hd, fun J Ok S hok => lc_map S (A := A1) gs (fun _ => true) (fun g => .bool (decide (z ∈ g))) hl.symm (d1.ex e2) (by omega) (fun H' s => hok H' ((wo_at (s _ _ (wo_of (d1.not hD) hd))).trans hd.symm)) ?_ ?_⟩
      · rintro j g y2 A2 H9 H3 Kt2 Kf2 hg hA2 d3 s3 e3 ⟨rfl, hy2⟩ kt2 kf2
        obtain ⟨b, hb, rfl⟩ := ps_at ep hy2 hg
        obtain ⟨hb0, hbD, hb1⟩ := hps _ hb
        refine ⟨rfl, _, rfl, _, rfl, b, g.map V.str, rfl, .inl (e3.at hb1), rfl, flat_strs, kt2 rfl _ _ (Ex.refl _ _) ?_⟩
        rw [inV_strs]
        rfl
      · intro D2 H3 hD2 e3 r3
        refine ⟨D2, _, rfl, bl_fin r3, _, rfl, ?_⟩
        by_cases c : (gs.map fun g => decide (z ∈ g)).any id = true
        · rw [c]
          refine iteF (kf (by rw [c]; rfl) _ (e2.trans e3))
        · rw [Bool.not_eq_true _ |>.mp c]
          refine iteT ⟨_, rfl, kt (by rw [Bool.not_eq_true _ |>.mp c]; rfl) _ _ (e2.trans e3) rfl⟩
    · intro D H' hD e1 r1
      exact k _ _ (e0.trans e1) r1
def spPhase (K : PySem.W.Frag) : Sp := fun vs H Q E => ∃ A d v, Dom A H ∧ vs = [v] ∧ Rep (wo A H) d v ∧ ((∃ i, d = .int i ∧ 1 ≤ i ∧ ∀ H', Ex [] H H' → Q .non H') ∨ ((∀ i, d = .int i → ¬ 1 ≤ i) ∧ Err K "BadNumber" "thing" H E v))
theorem ok_checkXphases (T : Top K mg base) : FnOk P w K mg base (L2.CX P w) 4 (He.ga K "check_phases") (fdOf K (He.ga K "check_phases")) ["phases"] (spPhase K) := by
  have G_BadNumberXinit := ok_BadNumberXinit (P := P) (w := w) T
  have b_BadNumberXinit := bd_BadNumberXinit T
  have G_isXinteger := ok_isXinteger (P := P) (w := w) T
  have b_isXinteger := bd_isXinteger T
  refine T.d_checkXphases.ok sc_checkXphases (fun vs H Q E h => ?len) (fun cdv A outer s H vs Q E hr h =>
    have tk : Takes (cxOf (L2.CX P w) P w K mg base ["phases"] "check_phases" (defScope s_checkXphases) (He.ga K "check_phases") cdv A outer s H E) (fun cls d _ H => E cls d H) := takes_of rfl rfl rfl rfl
    ⟨_, (pss_one (ps_if (PW.pt (pw_or (pt_not (pt_val (pe_call G_isXinteger (hr.mono (by decide)) rfl T.g_isXinteger T.d_isXinteger.kp b_isXinteger .nil pass0 (pa_cons (pv 0) pa_nil)))) (pw_or1 (pt_cmpR op_lt (pv 0) pe_int (nomark _))))) (pss_one (ps_raise rfl tk (pmk_oex T.x_BadNumber T.i_BadNumber T.t_BadNumber G_BadNumberXinit (hr.mono (by decide)) b_BadNumberXinit .nil pass0 rfl T.g_BadNumber (pa_cons (pv 0) pa_nil)))) pss_nil)), ?go⟩)
  case len =>
    obtain ⟨A, d, v, _, rfl, _⟩ := h
    rfl
  case go =>
    obtain ⟨A, d, v, dA, rfl, rv, hk⟩ := h
    refine ⟨_, rfl, A, [d], dA, .cons rv .nil, rfl, trivial, fun u H0 e0 ru => ?_⟩
    obtain rfl : u = .bl (isI d) := ru
    refine ⟨_, rfl, ?_⟩
    rcases hk with ⟨i, rfl, hi, k⟩ | ⟨hb, k⟩
    · obtain rfl : v = .int i := rv
      refine iteF ⟨_, rfl, _, _, rfl, rfl, _, rfl, ?_⟩
      rw [decide_eq_false (show ¬ i < 1 by omega)]
      exact iteF (k _ e0)
    · have bad : ∀ dd, H0 dd = none → E (.ref (He.ga K "BadNumber")) (some dd) (upd H0 dd (.xd [("thing", v)])) := fun dd hdd => k dd _ (e0.trans (Ex.new hdd)) upd_same
      cases d with
      | int i =>
        obtain rfl : v = .int i := rv
        have := hb i rfl
        refine iteF ⟨_, rfl, _, _, rfl, rfl, _, rfl, ?_⟩
        rw [decide_eq_true (show i < 1 by omega)]
        exact iteT ⟨_, rfl, mkErr bad⟩
      | _ => exact iteT (iteT ⟨_, rfl, mkErr bad⟩)
def storeB (hs : Lot) (gs : List Lot) (i : Int) : Bool := if i = 1 then !decide (freeL hs gs = []) else (firstPair (holdB hs) gs).isNone
def spStore (K : PySem.W.Frag) : Sp := fun vs H Q E => ∃ A x hs gs d v, Dom A H ∧ vs = [.ref x, v] ∧ StopsAt K (wo A H) x hs gs ∧ okHs hs ∧ hs.length ≤ 1000 ∧ gs.length ≤ 1000 ∧ Rep (wo A H) d v ∧ ((∃ i, d = .int i ∧ 1 ≤ i ∧ ∀ H', Ex [] H H' → Q (.bl (storeB hs gs i)) H') ∨ ((∀ i, d = .int i → ¬ 1 ≤ i) ∧ Err K "BadNumber" "thing" H E v))
theorem ok_canXstore (T : Top K mg base) : FnOk P w K mg base (L2.CX P w) 5 (He.ga K "can_store") (fdOf K (He.ga K "can_store")) ["stops", "phases"] (spStore K) := by
  have G_checkXphases := ok_checkXphases (P := P) (w := w) T
  have b_checkXphases := bd_checkXphases T
  have G_freeXhands := ok_freeXhands (P := P) (w := w) T
  have b_freeXhands := bd_freeXhands T
  have G_twoXbands := ok_twoXbands (P := P) (w := w) T
  have b_twoXbands := bd_twoXbands T
  refine T.d_canXstore.ok sc_canXstore (fun vs H Q E h => ?len) (fun cdv A outer s H vs Q E hr h =>
    have tk : Takes (cxOf (L2.CX P w) P w K mg base ["stops", "phases"] "can_store" (defScope s_canXstore) (He.ga K "can_store") cdv A outer s H E) (fun cls d _ H => E cls d H) := takes_of rfl rfl rfl rfl
    ⟨_, (pss_cons (ps_expr (pe_call G_checkXphases (hr.mono (by decide)) rfl T.g_checkXphases T.d_checkXphases.kp b_checkXphases .nil (passes_call tk fun _ _ _ _ h => h) (pa_cons (pv 1) pa_nil)))
    (pss_one (ps_ret (pe_ifExp (pt_cmpR op_eq (pv 1) pe_int (nomark _)) (pe_cmpR (op_neR (hu64 hr)) (pe_call G_freeXhands (hr.mono (by decide)) rfl T.g_freeXhands T.d_freeXhands.kp b_freeXhands .nil pass0 (pa_cons (pv 0) pa_nil)) (pe_lst pa_nil) (nomark _)) (pe_cmpR op_isN (pe_call G_twoXbands (hr.mono (by decide)) rfl T.g_twoXbands T.d_twoXbands.kp b_twoXbands .nil pass0 (pa_cons (pv 0) pa_nil)) pe_non (nomark _)))))), ?go⟩)
  case len =>
    obtain ⟨A, x, hs, gs, d, v, _, rfl, _⟩ := h
    rfl
  case go =>
    obtain ⟨A, x, hs, gs, d, v, dA, rfl, hS, hok, hh, hn, rv, hk⟩ := h
    refine ⟨_, rfl, A, d, v, dA, rfl, rv, ?_⟩
    rcases hk with ⟨i, rfl, hi, k⟩ | ⟨hb, k⟩
    · obtain rfl : v = .int i := rv
      refine .inl ⟨i, rfl, hi, fun H0 e0 => ⟨_, rfl, rfl, _, rfl, ?_⟩⟩
      have d0 := dA.ex e0
      have hS0 := hS.mono (e0.any (A := A)).old
      have eq : decide (V.int i = V.int 1) = decide (i = 1) := decide_eq_decide.mpr ⟨fun e => by injection e, fun e => by rw [e]⟩
      rw [eq]
      by_cases c : i = 1
      · rw [decide_eq_true c]
        refine iteT ⟨_, rfl, A, x, hs, gs, d0, rfl, hS0, hh, hn, fun u H1 e1 ru => ⟨by show 0 ≤ sizeLine; decide, fun p hp => ?_⟩⟩
        have e2 : Ex [] H1 (upd H1 p (.lst [])) := Ex.new hp
        have hof : okLot (freeL hs gs) := fun z hz => nm_ok (hok z (List.mem_filter.mp hz).1)
        refine ⟨ls (freeL hs gs), ls [], datAt_ls (ru.mono (e2.any (A := A)).old) hof, datAt_ls (A := A) (Rep.ls.mpr ⟨p, rfl, wo_of ((d0.ex e1).not hp) upd_same⟩) (fun z hz => absurd hz (by simp)), ?_⟩
        have q := k _ ((e0.trans e1).trans e2)
        unfold storeB at q
        rw [if_pos c] at q
        rw [eqv_ls]
        exact q
      · rw [decide_eq_false c]
        refine iteF ⟨_, rfl, A, x, hs, gs, d0, rfl, hS0, hh, hn, fun u H1 e1 ru => ⟨rfl, ?_⟩⟩
        have q := k _ (e0.trans e1)
        unfold storeB at q
        rw [if_neg c] at q
        have e3 : decide (u = .non) = (firstPair (holdB hs) gs).isNone := by
          cases hf : firstPair (holdB hs) gs with
          | none => rw [hf] at ru; rw [show u = .non from ru]; rfl
          | some ab =>
            rw [hf] at ru
            obtain ⟨_, _, e, _⟩ := ru
            rw [e]
            rfl
        rw [e3]
        exact q
    · exact .inr ⟨hb, fun e H' ex he => k e H' ex he⟩
end
end K70
end
section
set_option maxHeartbeats 4000000
/-! check_pair, halves. -/
namespace K70
open PySem PySem.Spec PyProof.Rows L2
variable [Tbs]
section
variable {P : Program} {w : World} {K : PySem.W.Frag} {mg : Str → Option Value} {base : Heap}
def spPair (K : PySem.W.Frag) : Sp := fun vs H Q E => ∃ A x hs gs d1 d2 v1 v2, Dom A H ∧ vs = [.ref x, v1, v2] ∧ StopsAt K (wo A H) x hs gs ∧ Rep (wo A H) d1 v1 ∧ Rep (wo A H) d2 v2 ∧ shrt d1 ∧ shrt d2 ∧
  (handD d1 hs = true → handD d2 hs = true → ∀ H', Ex [] H H' → Q .non H') ∧ (handD d1 hs = false → Err K "NoHand" "thing" H E v1) ∧ (handD d1 hs = true → handD d2 hs = false → Err K "NoHand" "thing" H E v2)
theorem ok_checkXpair (T : Top K mg base) : FnOk P w K mg base (L2.CX P w) 4 (He.ga K "check_pair") (fdOf K (He.ga K "check_pair")) ["stops", "writer", "reader"] (spPair K) := by
  have G_isXhandXof := ok_isXhandXof (P := P) (w := w) T
  have b_isXhandXof := bd_isXhandXof T
  have G_NoHandXinit := ok_NoHandXinit (P := P) (w := w) T
  have b_NoHandXinit := bd_NoHandXinit T
  have G_StopsXhands := ok_StopsXhands (P := P) (w := w) T
  have b_StopsXhands := bd_StopsXhands T
  refine T.d_checkXpair.ok sc_checkXpair (fun vs H Q E h => ?len) (fun cdv A outer s H vs Q E hr h =>
    have tk : Takes (cxOf (L2.CX P w) P w K mg base ["stops", "writer", "reader", "thing"] "check_pair" (defScope s_checkXpair) (He.ga K "check_pair") cdv A outer s H E) (fun cls d _ H => E cls d H) := takes_of rfl rfl rfl rfl
    ⟨_, (pss_one (ps_for (passes_of rfl) rfl (pi_seqA (pe_tup (pa_cons (pv 1) (pa_cons (pv 2) pa_nil)))) (pg_name (i := 3) sc_checkXpair.nd rfl (Or.inl rfl)) (pss_one (ps_if (pt_not (pt_val (pe_call G_isXhandXof (hr.mono (by decide)) rfl T.g_isXhandXof T.d_isXhandXof.kp b_isXhandXof .nil pass0 (pa_cons (pv 3) (pa_cons (pe_meth0 (pv 0) T.c_Stops T.m_StopsXhands G_StopsXhands (hr.mono (by decide)) b_StopsXhands .nil pass0) pa_nil))))) (pss_one (ps_raise rfl tk (pmk_oex T.x_NoHand T.i_NoHand T.t_NoHand G_NoHandXinit (hr.mono (by decide)) b_NoHandXinit .nil pass0 rfl T.g_NoHand (pa_cons (pv 3) pa_nil)))) pss_nil)))), ?go⟩)
  case len =>
    obtain ⟨A, x, hs, gs, d1, d2, v1, v2, _, rfl, _⟩ := h
    rfl
  case go =>
    obtain ⟨A, x, hs, gs, d1, d2, v1, v2, dA, rfl, hS, r1, r2, sh1, sh2, k, ke1, ke2⟩ := h
    obtain ⟨dx, a1, a2, hx⟩ := hS.ins
    refine ⟨_, rfl, _, rfl, by show 2 ≤ sizeLine; decide, fun p hp => ?_⟩
    have e0 : Ex [] H (upd H p (.tup [v1, v2])) := Ex.new hp
    have hp0 : (upd H p (.tup [v1, v2])) p = some (.tup [v1, v2]) := upd_same
    generalize (upd H p (.tup [v1, v2])) = H0 at e0 hp0 ⊢
    refine ⟨p, _, rfl, .inr hp0, fun J Ok S hok => for_src S (fun i σ H' => ∃ y, σ = [some (.ref x), some v1, some v2, y] ∧ Ex [] H0 H' ∧ (1 ≤ i → handD d1 hs = true) ∧ (2 ≤ i → handD d2 hs = true))
      ⟨_, rfl, Ex.refl _ _, fun q => absurd q (by decide), fun q => absurd q (by decide)⟩ (fun i σ H' hi ⟨_, _, e1, _⟩ => hok H' ((e1.at hp0).trans hp0.symm)) ?_ ?_⟩
    · rintro i y σ H9 H1 hi ⟨y1, rfl, e1, q1, q2⟩ ⟨rfl, hy⟩
      have e01 := e0.trans e1
      have key : ∃ d, Rep (wo A H) d y ∧ shrt d ∧ (handD d hs = false → ∀ dd H', Ex [] H H' → H' dd = some (.xd [("thing", y)]) → E (.ref (He.ga K "NoHand")) (some dd) H') ∧ (handD d hs = true → (1 ≤ i + 1 → handD d1 hs = true) ∧ (2 ≤ i + 1 → handD d2 hs = true)) := by
        match i, hy with
        | 0, hy =>
          have hy : some v1 = some y := hy
          cases hy
          exact ⟨d1, r1, sh1, fun c dd H' ex hd => ke1 c dd H' ex hd, fun c => ⟨fun _ => c, fun z => absurd z (by decide)⟩⟩
        | 1, hy =>
          have hy : some v2 = some y := hy
          cases hy
          exact ⟨d2, r2, sh2, fun c dd H' ex hd => ke2 (q1 (by decide)) c dd H' ex hd, fun c => ⟨fun _ => q1 (by decide), fun _ => c⟩⟩
        | i + 2, hy => exact absurd hy (by simp)
      obtain ⟨d, rd, shd, kb, kg⟩ := key
      have s1 := (e01.any (A := A)).old
      refine ⟨_, rfl, _, rfl, x, dx, _, rfl, e01.at (wo_at hx), rfl, A, x, hs, gs, rfl, hS.mono s1, fun q hq => ?_⟩
      have e2 : Ex [] H1 (upd H1 q (.lst (hs.map V.str))) := Ex.new hq
      refine ⟨A, d, hs, y, q, dA.ex (e01.trans e2), rfl, rd.mono ((e01.trans e2).any (A := A)).old, upd_same, shd, fun H3 e3 => ⟨_, rfl, ?_⟩⟩
      have e03 := (e01.trans e2).trans e3
      by_cases c : handD d hs = true
      · rw [c]
        exact iteF ⟨_, rfl, (e1.trans e2).trans e3, kg c⟩
      · rw [Bool.not_eq_true _ |>.mp c]
        refine iteT ⟨_, rfl, mkErr fun dd hdd => kb (Bool.not_eq_true _ |>.mp c) dd _ (e03.trans (Ex.new hdd)) upd_same⟩
    · rintro σ H1 ⟨y1, rfl, e1, q1, q2⟩
      exact k (q1 (by show 1 ≤ 2; decide)) (q2 (by show 2 ≤ 2; decide)) _ (e0.trans e1)
def halfB (hs : Lot) (w r : Str) (a b : Lot) : Bool := holdB hs (a.filter fun z => !decide (z = w)) (b.filter fun z => !decide (z = r))
def spHalves (K : PySem.W.Frag) : Sp := fun vs H Q E => ∃ A x hs gs d1 d2 v1 v2, Dom A H ∧ vs = [.ref x, v1, v2] ∧ StopsAt K (wo A H) x hs gs ∧ hs.length ≤ 1000 ∧ gs.length ≤ 1000 ∧ (∀ g ∈ gs, g.length ≤ 1000) ∧ Rep (wo A H) d1 v1 ∧ Rep (wo A H) d2 v2 ∧ shrt d1 ∧ shrt d2 ∧
  (∀ w r, d1 = .str w → d2 = .str r → handD d1 hs = true → handD d2 hs = true → ∀ v H', Ex [] H H' → Rep (wo A H') (pairD (firstPair (halfB hs w r) gs)) v → Q v H') ∧ (handD d1 hs = false → Err K "NoHand" "thing" H E v1) ∧ (handD d1 hs = true → handD d2 hs = false → Err K "NoHand" "thing" H E v2)
theorem ok_halves (T : Top K mg base) : FnOk P w K mg base (L2.CX P w) 5 (He.ga K "halves") (fdOf K (He.ga K "halves")) ["stops", "writer", "reader"] (spHalves K) := by
  have G_checkXpair := ok_checkXpair (P := P) (w := w) T
  have b_checkXpair := bd_checkXpair T
  have G_StopsXbands := ok_StopsXbands (P := P) (w := w) T
  have b_StopsXbands := bd_StopsXbands T
  have G_holdXall := ok_holdXall (P := P) (w := w) T
  have b_holdXall := bd_holdXall T
  refine T.d_halves.ok sc_halves (fun vs H Q E h => ?len) (fun cdv A outer s H vs Q E hr h =>
    have tk : Takes (cxOf (L2.CX P w) P w K mg base ["stops", "writer", "reader", "one", "other", "mine", "theirs", "hand"] "halves" (defScope s_halves) (He.ga K "halves") cdv A outer s H E) (fun cls d _ H => E cls d H) := takes_of rfl rfl rfl rfl
    ⟨_, (pss_cons (ps_expr (pe_call G_checkXpair (hr.mono (by decide)) rfl T.g_checkXpair T.d_checkXpair.kp b_checkXpair .nil (passes_call tk fun _ _ _ _ h => h) (pa_cons (pv 0) (pa_cons (pv 1) (pa_cons (pv 2) pa_nil)))))
    (pss_cons (ps_for (passes_of rfl) rfl (pi_seqA (pe_meth0 (pv 0) T.c_Stops T.m_StopsXbands G_StopsXbands (hr.mono (by decide)) b_StopsXbands .nil pass0)) (pg_name (i := 3) sc_halves.nd rfl (Or.inl rfl)) (pss_one (ps_for (passes_of rfl) rfl (pi_seqA (pe_meth0 (pv 0) T.c_Stops T.m_StopsXbands G_StopsXbands (hr.mono (by decide)) b_StopsXbands .nil pass0)) (pg_name (i := 4) sc_halves.nd rfl (Or.inl rfl)) (pss_cons (ps_par (i := 5) (j := 6) (by rfl) sc_halves.nd rfl rfl (by decide) rfl rfl (pa_cons (pe_lc (own := [("hand", 7)]) (g := gName 7) (tt := _) rfl sc_halves.nd (pi_seqA (pv 3)) (blkOk_by (by kernel_rfl)) (fun _ _ _ _ _ => (pg_name (i := 7) sc_halves.nd rfl (Or.inl rfl))) (fun _ _ _ _ _ => (pts_one (pt_cmpR op_ne (pv 7) (pv 1) (nomark _)))) (fun _ _ _ _ _ => (pv 7))) (pa_cons (pe_lc (own := [("hand", 7)]) (g := gName 7) (tt := _) rfl sc_halves.nd (pi_seqA (pv 4)) (blkOk_by (by kernel_rfl)) (fun _ _ _ _ _ => (pg_name (i := 7) sc_halves.nd rfl (Or.inl rfl))) (fun _ _ _ _ _ => (pts_one (pt_cmpR op_ne (pv 7) (pv 2) (nomark _)))) (fun _ _ _ _ _ => (pv 7))) pa_nil)) (by rfl))
    (pss_one (ps_if (pt_val (pe_call G_holdXall (hr.mono (by decide)) rfl T.g_holdXall T.d_holdXall.kp b_holdXall .nil pass0 (pa_cons (pv 0) (pa_cons (pv 5) (pa_cons (pv 6) pa_nil))))) (pss_one (ps_ret (pe_tup (pa_cons (pe_callTy call_tupleS (by rfl) T.n_tuple (by decide +kernel) (pa_cons (pv 3) pa_nil)) (pa_cons (pe_callTy call_tupleS (by rfl) T.n_tuple (by decide +kernel) (pa_cons (pv 4) pa_nil)) pa_nil))))) pss_nil))))))
    (pss_one (ps_ret pe_non)))), ?go⟩)
  case len =>
    obtain ⟨A, x, hs, gs, d1, d2, v1, v2, _, rfl, _⟩ := h
    rfl
  case go =>
    obtain ⟨A, x, hs, gs, d1, d2, v1, v2, dA, rfl, hS, hh, hn, hgl, r1, r2, sh1, sh2, k, ke1, ke2⟩ := h
    refine ⟨_, rfl, _, rfl, _, rfl, A, x, hs, gs, d1, d2, v1, v2, dA, rfl, hS, r1, r2, sh1, sh2, fun c1 c2 H0 e0 => ?_, ke1, ke2⟩
    obtain ⟨w1, rfl⟩ : ∃ w, d1 = .str w := by cases d1 <;> first | exact ⟨_, rfl⟩ | cases c1
    obtain ⟨w2, rfl⟩ : ∃ w, d2 = .str w := by cases d2 <;> first | exact ⟨_, rfl⟩ | cases c2
    obtain rfl : v1 = .str w1 := r1
    obtain rfl : v2 = .str w2 := r2
    replace k := k w1 w2 rfl rfl c1 c2
    obtain ⟨dx, a1, a2, hx⟩ := hS.ins
    have dA0 := dA.ex e0
    refine ⟨_, rfl, x, dx, _, rfl, e0.at (wo_at hx), rfl, A, x, hs, gs, rfl, hS.mono (e0.any (A := A)).old, hn, fun D ps H1 hD e1 ep hd hps => ?_⟩
    have hl : (ps.map fun b => V.ref b.1).length = gs.length := by rw [← ep, List.length_map, List.length_map]
    have e01 := e0.trans e1
    refine ⟨D, _, rfl, .inl hd, fun J Ok S hok => for_src S (fun i σ H' => ∃ y1 y2 y3 y4 y5, σ = [some (.ref x), some (.str w1), some (.str w2), y1, y2, y3, y4, y5] ∧ Ex [] H1 H' ∧ firstPair (halfB hs w1 w2) gs = (gs.drop i).findSome? fun a => (gs.find? (halfB hs w1 w2 a)).map fun b => (a, b))
      ⟨_, _, _, _, _, rfl, Ex.refl _ _, rfl⟩ (fun i σ H' hi ⟨_, _, _, _, _, _, e2, _⟩ => hok H' ((e2.at hd).trans hd.symm)) ?_ ?_⟩
    · rintro i y σ H9 H2 hi ⟨y1, y2, y3, y4, y5, rfl, e2, hgo⟩ ⟨rfl, hy⟩
      have hz : gs[i]? = some gs[i] := by simp [hl ▸ hi]
      generalize gs[i] = z at hz
      have hzm := List.mem_of_getElem? hz
      obtain ⟨b, hb, rfl⟩ := ps_at ep hy hz
      obtain ⟨hb0, hbD, hb1⟩ := hps _ hb
      rw [drop_at hz, List.findSome?_cons] at hgo
      have e02 := e01.trans e2
      have hS2 := hS.mono (e02.any (A := A)).old
      refine ⟨_, rfl, x, dx, _, rfl, e02.at (wo_at hx), rfl, A, x, hs, gs, rfl, hS2, hn, fun D2 ps2 H3 hD2 e3 ep2 hd2 hps2 => ?_⟩
      have hl2 : (ps2.map fun b => V.ref b.1).length = gs.length := by rw [← ep2, List.length_map, List.length_map]
      have d3 : Dom A H3 := dA.ex (e02.trans e3)
      refine ⟨D2, _, rfl, .inl hd2, fun J Ok S hok => for_src S (fun i σ H' => ∃ y2 y3 y4 y5, σ = [some (.ref x), some (.str w1), some (.str w2), some (.ref b), y2, y3, y4, y5] ∧ Ex [] H3 H' ∧ gs.find? (halfB hs w1 w2 z) = (gs.drop i).find? (halfB hs w1 w2 z))
        ⟨_, _, _, _, rfl, Ex.refl _ _, rfl⟩ (fun i σ H' hi ⟨_, _, _, _, _, e4, _⟩ => hok H' ((e4.at hd2).trans hd2.symm)) ?_ ?_⟩
      · rintro j y' σ H9 H4 hj ⟨y2, y3, y4, y5, rfl, e4, hgo2⟩ ⟨rfl, hy2⟩
        have hz2 : gs[j]? = some gs[j] := by simp [hl2 ▸ hj]
        generalize gs[j] = z2 at hz2
        have hz2m := List.mem_of_getElem? hz2
        obtain ⟨b2, hb2, rfl⟩ := ps_at ep2 hy2 hz2
        obtain ⟨hc0, hcD, hc1⟩ := hps2 _ hb2
        rw [drop_at hz2, List.find?_cons] at hgo2
        have e04 := (e02.trans e3).trans e4
        have d4 : Dom A H4 := d3.ex e4
        have hb4 : wo A H4 b = some (.lst (z.map V.str)) := wo_of (dA0.not hb0) (((e2.trans e3).trans e4).at hb1)
        have hc4 : wo A H4 b2 = some (.lst (z2.map V.str)) := wo_of ((dA.ex e02).not hc0) (e4.at hc1)
        refine ⟨_, rfl, b, _, rfl, .inl (wo_at hb4), fun J Ok S hok => lc_map S (A := A) z (fun a => !decide (a = w1)) .str (by simp) d4 (by have := hgl z hzm; rw [List.length_map]; omega) (fun H' s => hok H' (seqAt_same (.inl hb4) s)) ?_ ?_⟩
        · rintro l a xa A1 H9 H5 Kt Kf hza hA d5 s5 e5 ⟨rfl, hya⟩ kt kf
          obtain rfl := str_at hza hya
          refine ⟨rfl, _, rfl, _, rfl, rfl, _, rfl, ?_⟩
          have eq : (!decide (V.str a = V.str w1)) = !decide (a = w1) := by
            rw [show decide (V.str a = V.str w1) = decide (a = w1) from decide_eq_decide.mpr ⟨fun e => by injection e, fun e => by rw [e]⟩]
          rw [eq]
          by_cases c : a = w1
          · rw [decide_eq_true c]
            exact iteF (kf (by rw [decide_eq_true c]; rfl) _ (Ex.refl _ _))
          · rw [decide_eq_false c]
            exact iteT ⟨_, rfl, kt (by rw [decide_eq_false c]; rfl) _ _ (Ex.refl _ _) rfl⟩
        · intro D3 H5 hD3 e5 r5
          obtain ⟨D3', eD3, hm5⟩ := Rep.ls.mp r5
          cases eD3
          have d5 := d4.ex e5
          have hc5 := (e5.any (A := A)).old _ _ hc4
          refine ⟨_, rfl, b2, _, rfl, .inl (wo_at hc5), fun J Ok S hok => lc_map S (A := A) z2 (fun a => !decide (a = w2)) .str (by simp) d5 (by have := hgl z2 hz2m; rw [List.length_map]; omega) (fun H' s => hok H' (seqAt_same (.inl hc5) s)) ?_ ?_⟩
          · rintro l a xa A1 H9 H6 Kt Kf hza hA d6 s6 e6 ⟨rfl, hya⟩ kt kf
            obtain rfl := str_at hza hya
            refine ⟨rfl, _, rfl, _, rfl, rfl, _, rfl, ?_⟩
            have eq : (!decide (V.str a = V.str w2)) = !decide (a = w2) := by
              rw [show decide (V.str a = V.str w2) = decide (a = w2) from decide_eq_decide.mpr ⟨fun e => by injection e, fun e => by rw [e]⟩]
            rw [eq]
            by_cases c : a = w2
            · rw [decide_eq_true c]
              exact iteF (kf (by rw [decide_eq_true c]; rfl) _ (Ex.refl _ _))
            · rw [decide_eq_false c]
              exact iteT ⟨_, rfl, kt (by rw [decide_eq_false c]; rfl) _ _ (Ex.refl _ _) rfl⟩
          · intro D4 H6 hD4 e6 r6
            obtain ⟨D4', eD4, hm6⟩ := Rep.ls.mp r6
            cases eD4
            have e46 := e5.trans e6
            have e06 := e04.trans e46
            refine ⟨_, _, rfl, ?_⟩
            refine ⟨_, rfl, _, rfl, _, rfl, A, x, D3, D4, hs, gs, _, _, d5.ex e6, rfl, hS.mono (e06.any (A := A)).old, hh, (e6.any (A := A)).old _ _ hm5, hm6, fun H7 e7 => ⟨_, rfl, ?_⟩⟩
            have hgo2' := hgo2
            by_cases c : halfB hs w1 w2 z z2 = true
            · have c' : holdB hs (z.filter fun a => !decide (a = w1)) (z2.filter fun a => !decide (a = w2)) = true := c
              rw [c] at hgo2
              rw [c']
              refine iteT ?_
              have e47 := e46.trans e7
              refine ⟨_, rfl, b, _, rfl, e47.at (wo_at hb4), fun q1 hq1 => ?_⟩
              have hc7 := (Ex.new (o := .tup (z.map V.str)) hq1 : Ex [] H7 _).at (e47.at (wo_at hc4))
              refine ⟨_, rfl, b2, _, rfl, hc7, fun q2 hq2 => ⟨by show 2 ≤ sizeLine; decide, fun q3 hq3 => ?_⟩⟩
              obtain ⟨e8, r8⟩ := rep_pair (d4.ex e47) hq1 hq2 hq3
              refine k _ _ ((e04.trans e47).trans e8) ?_
              rw [hgo, hgo2]
              exact r8
            · have c' : holdB hs (z.filter fun a => !decide (a = w1)) (z2.filter fun a => !decide (a = w2)) = false := Bool.not_eq_true _ |>.mp c
              rw [Bool.not_eq_true _ |>.mp c] at hgo2
              rw [c']
              exact iteF ⟨_, _, _, _, rfl, (e4.trans e46).trans e7, hgo2⟩
      · rintro σ H4 ⟨y2, y3, y4, y5, rfl, e4, hgo2⟩
        have hdr : gs.drop (ps2.map fun b => V.ref b.1).length = [] := by rw [hl2]; exact List.drop_length
        rw [hdr] at hgo2
        rw [hgo2] at hgo
        exact ⟨_, _, _, _, _, rfl, (e2.trans e3).trans e4, hgo⟩
    · rintro σ H2 ⟨y1, y2, y3, y4, y5, rfl, e2, hgo⟩
      have hdr : gs.drop (ps.map fun b => V.ref b.1).length = [] := by rw [hl]; exact List.drop_length
      rw [hdr] at hgo
      refine k _ _ (e01.trans e2) ?_
      rw [hgo]
      rfl
end
end K70
end
section
set_option maxHeartbeats 4000000
/-! The law's stream. -/
namespace K70
open PySem PySem.Spec PyProof.Rows L2
variable [Tbs]
/-- the stream at S, its cells at L, at most n draws so far -/
def Strm (H : Hp) (S L : Addr) (n : Nat) : Prop := ∃ (xs : List Int) (a m : Int) (c : Nat), S ≠ L ∧ H S = some (.lst [.ref L, .int a, .int c, .int m]) ∧ H L = some (.lst (xs.map V.int)) ∧ 0 ≤ a ∧ 0 ≤ m ∧ m < 2147483647 ∧ c ≤ n
theorem Strm.le {H : Hp} {S L : Addr} {n k : Nat} (h : Strm H S L n) (q : n ≤ k) : Strm H S L k := by
  obtain ⟨xs, a, m, c, h1, h2, h3, h4, h5, h6, h7⟩ := h
  exact ⟨xs, a, m, c, h1, h2, h3, h4, h5, h6, by omega⟩
theorem Strm.ex {H H' : Hp} {S L : Addr} {n : Nat} (h : Strm H S L n) (e : Ex [] H H') : Strm H' S L n := by
  obtain ⟨xs, a, m, c, h1, h2, h3, h4⟩ := h
  exact ⟨xs, a, m, c, h1, e.at h2, e.at h3, h4⟩
theorem pureL_ints : ∀ xs : List Int, pureL (xs.map .int) = true
  | [] => rfl
  | _ :: xs => pureL_ints xs
theorem lay_ints : ∀ xs : List Int, PyData.canLayAll0 (xs.map .int) = true
  | [] => rfl
  | x :: xs => by
    show (PyData.canLay0 (.int x) && PyData.canLayAll0 (xs.map .int)) = true
    rw [lay_ints xs]
    simp [PyData.canLay0]
theorem datAt_ints {A : List Addr} {H : Hp} {xs : List Int} {v : V} (r : Rep (wo A H) (.list (xs.map .int)) v) : DatAt H (.list (xs.map .int)) v := by
  refine ⟨⟨A, r⟩, pureL_ints xs, ?_⟩
  unfold SeqAt.shaped
  have e : (PyData.list (xs.map .int)).depth = PyData.depthAll (xs.map .int) + 1 := by simp [PyData.depth]
  rw [show PyData.canLay0 (.list (xs.map .int)) = PyData.canLayAll0 (xs.map .int) by simp [PyData.canLay0], lay_ints, e, PySem.W.depth_ints]
  decide
theorem seqIndex0 (n : Nat) : seqIndex? 0 (n + 1) = some 0 := by
  unfold seqIndex?
  have h : (0 : Int) < ((n + 1 : Nat) : Int) := by omega
  simp [h]
section
variable {P : Program} {w : World} {K : PySem.W.Frag} {mg : Str → Option Value} {base : Heap}
def spDraw : Sp := fun vs H Q _ => ∃ (S L : Addr) (n k : Nat), vs = [.ref S, .int (k : Nat)] ∧ 0 < k ∧ k < 1000 ∧ Strm H S L n ∧ n ≤ 1000000000 ∧ ∀ (d : Nat) H', d < k → Ex [S, L] H H' → Strm H' S L (n + 1) → Q (.int (d : Nat)) H'
theorem ok_wXdraw (T : Top K mg base) : FnOk P w K mg base CX0 2 (He.ga K "_law_draw") (fdOf K (He.ga K "_law_draw")) ["_law_stream", "_law_many"] spDraw := by
  refine T.d_wXdraw.ok sc_wXdraw (fun vs H Q E h => ?len) (fun cdv A outer s H vs Q E hr h => ⟨_, PSs.nox (pss_cons (ps_asg (pe_op op_add (pe_ix ix_listS (pv 0) pe_int (fun _ _ => rfl)) pe_int) (pg_sub (pv 0) pe_int set_list))
    (pss_cons (ps_while PassesOwn.never (PW.pt (pw_and (pt_cmpR op_eq (pe_ix ix_listS (pv 0) pe_int (fun _ _ => rfl)) pe_int (nomark _)) (pw_and1 (pt_cmpR (op_neR (hu64 hr)) (pe_ix ix_listS (pv 0) pe_int (fun _ _ => rfl)) (pe_lst pa_nil) (nomark _))))) (pss_cons (ps_set (i := 2) sc_wXdraw.nd rfl (Or.inl rfl) (pe_bm PySem.F.plainAttrs_list PySem.F.slot_list_pop PySem.F.type_list_pop mt_popAt (pe_ix ix_listS (pv 0) pe_int (fun _ _ => rfl)) (pa_cons pe_int pa_nil)))
    (pss_cons (ps_asg (pe_op op_mod (pe_callTy call_int1 (by rfl) T.n_int (by decide +kernel) (pa_cons (pe_op op_add (pe_op op_add (pe_op op_mul (pe_ix ix_listS (pv 0) pe_int (fun _ _ => rfl)) pe_int) (pv 2)) pe_int) pa_nil)) pe_int) (pg_sub (pv 0) pe_int set_list))
    (pss_one (ps_asg (pe_ifExp (pt_cmpR op_ge (pv 2) (pe_op op_pow pe_int pe_int) (nomark _)) (pv 2) pe_int) (pg_sub (pv 0) pe_int set_list))))))
    (pss_cons (ps_if (pt_cmpR op_gt (pe_ix ix_listS (pv 0) pe_int (fun _ _ => rfl)) pe_int (nomark _)) (pss_cons (ps_set (i := 3) sc_wXdraw.nd rfl (Or.inl rfl) (pe_op op_mod (pe_callTy call_int1 (by rfl) T.n_int (by decide +kernel) (pa_cons (pe_ix ix_listS (pv 0) pe_int (fun _ _ => rfl)) pa_nil)) (pv 1)))
    (pss_cons (ps_asg (pe_op op_fdiv (pe_ix ix_listS (pv 0) pe_int (fun _ _ => rfl)) (pv 1)) (pg_sub (pv 0) pe_int set_list))
    (pss_one (ps_ret (pv 3))))) pss_nil)
    (pss_cons (ps_set (i := 4) sc_wXdraw.nd rfl (Or.inl rfl) (pe_op op_mod (pe_callTy call_int1 (by rfl) T.n_int (by decide +kernel) (pa_cons (pe_op op_pow (pe_op op_add (pe_op op_add (pe_ix ix_listS (pv 0) pe_int (fun _ _ => rfl)) (pe_op op_mul pe_int (pe_ix ix_listS (pv 0) pe_int (fun _ _ => rfl)))) pe_int) pe_int) pa_nil)) pe_int))
    (pss_one (ps_ret (pe_op op_mod (pe_op op_mod (pe_callTy call_int1 (by rfl) T.n_int (by decide +kernel) (pa_cons (pe_op op_pow (pe_op op_add (pe_op op_add (pe_op op_mul (pv 4) pe_int) (pe_op op_mul pe_int (pe_ix ix_listS (pv 0) pe_int (fun _ _ => rfl)))) pe_int) pe_int) pa_nil)) pe_int) (pv 1)))))))), ?go⟩)
  case len =>
    obtain ⟨S, L, n, k, rfl, _⟩ := h
    rfl
  case go =>
    obtain ⟨S, L, n, k, rfl, hk, hk2, ⟨xs, a, m, c, hSL, hS, hL, ha, hm, hm2, hc⟩, hn, kk⟩ := h
    have mS : S ∈ [S, L] := List.mem_cons_self ..
    have mL : L ∈ [S, L] := List.mem_cons_of_mem _ (List.mem_cons_self ..)
    refine ⟨_, rfl, S, _, 2, _, rfl, rfl, hS, rfl, _, _, rfl, rfl, _, rfl, S, _, 2, 2, rfl, rfl, hS, rfl, ?_⟩
    have e1 : Ex [S, L] H (upd H S (.lst [.ref L, .int a, .int ((c : Int) + 1), .int m])) := Ex.put mS hS
    have hS1 : (upd H S (.lst [.ref L, .int a, .int ((c : Int) + 1), .int m])) S = some (.lst [.ref L, .int a, .int ((c : Int) + 1), .int m]) := upd_same
    have hL1 : (upd H S (.lst [.ref L, .int a, .int ((c : Int) + 1), .int m])) L = some (.lst (xs.map V.int)) := by rw [upd_ne (Ne.symm hSL)]; exact hL
    refine ⟨fun (j : Nat) (σ : L2.St) (H' : Hp) => ∃ (xs : List Int) (a m : Int) (y1 y2 y3 : Option V), σ = [some (.ref S), some (.int (k : Nat)), y1, y2, y3] ∧ j = xs.length ∧ Ex [S, L] H H' ∧ H' S = some (.lst [.ref L, .int a, .int ((c : Int) + 1), .int m]) ∧ H' L = some (.lst (xs.map V.int)) ∧ 0 ≤ a ∧ 0 ≤ m ∧ m < 2147483647,
      ⟨xs.length, xs, a, m, none, none, none, rfl, rfl, e1, hS1, hL1, ha, hm, hm2⟩, ?_⟩
    clear hS1 hL1 e1 ha hm hm2 hS hL
    rintro j σ H1 ⟨xs, a, m, y1, y2, y3, rfl, rfl, e1, hS, hL, ha, hm, hm2⟩
    refine ⟨_, rfl, S, _, 1, _, rfl, rfl, hS, rfl, rfl, _, rfl, ?_⟩
    have ea : decide (V.int a = V.int 0) = decide (a = 0) := decide_eq_decide.mpr ⟨fun e => by injection e, fun e => by rw [e]⟩
    rw [ea]
    by_cases ca : a = 0
    · rw [decide_eq_true ca]
      refine iteT ⟨_, rfl, S, _, 0, _, rfl, rfl, hS, rfl, by show 0 ≤ sizeLine; decide, fun p hp => ?_⟩
      have e2 : Ex [] H1 (upd H1 p (.lst [])) := Ex.new hp
      have hS2 := e2.at hS
      have hL2 := e2.at hL
      have hp2 : (upd H1 p (.lst [])) p = some (.lst []) := upd_same
      generalize (upd H1 p (.lst [])) = H2 at e2 hS2 hL2 hp2 ⊢
      refine ⟨.list (xs.map .int), .list (([] : List Int).map .int), datAt_ints (A := []) ⟨L, _, rfl, wo_of (by simp) hL2, RepL.ints.mpr rfl⟩, datAt_ints (A := []) ⟨p, _, rfl, wo_of (by simp) hp2, RepL.ints.mpr rfl⟩, _, rfl, ?_⟩
      cases xs with
      | nil =>
        refine iteF ?_
        have hS3 := hS2
        have hL3 := hL2
        have e3 : Ex [S, L] H H2 := e1.trans e2.any
        generalize hxs : ([] : List Int) = xs at hL3
        generalize H2 = H3 at hS3 hL3 e3 ⊢
        refine ⟨_, rfl, S, _, 1, _, rfl, rfl, hS3, rfl, _, _, rfl, rfl, _, rfl, ?_⟩
        have hk0 : (0 : Int) < ((k : Nat) : Int) := by omega
        by_cases cp : (0 : Int) < a
        · rw [decide_eq_true cp]
          refine iteT ⟨_, rfl, S, _, 1, _, rfl, rfl, hS3, rfl, .inl ⟨_, rfl, _, rfl, _, _, rfl, rfl, hk0, ?_⟩⟩
          refine ⟨_, rfl, S, _, 1, _, rfl, rfl, hS3, rfl, _, rfl, _, _, rfl, rfl, ⟨hk0, by omega⟩, _, rfl, S, _, 1, 1, rfl, rfl, hS3, rfl, ?_⟩
          have ed : a % ((k : Nat) : Int) = (((a % ((k : Nat) : Int)).toNat : Nat) : Int) := by
            have := Int.emod_nonneg a (show ((k : Nat) : Int) ≠ 0 by omega)
            omega
          have hlt := Int.emod_lt_of_pos a hk0
          refine ⟨_, rfl, ?_⟩
          have q := kk (a % ((k : Nat) : Int)).toNat (upd H3 S (.lst [.ref L, .int (a / ((k : Nat) : Int)), .int ((c : Int) + 1), .int m])) (by omega) (e3.trans (Ex.put mS hS3)) ⟨xs, a / ((k : Nat) : Int), m, c + 1, hSL, upd_same, by rw [upd_ne (Ne.symm hSL)]; exact hL3, Int.ediv_nonneg ha (by omega), hm, hm2, by omega⟩
          rw [← ed] at q
          exact q
        · rw [decide_eq_false cp]
          refine iteF ⟨_, rfl, S, _, 3, _, rfl, rfl, hS3, rfl, _, rfl, S, _, 2, _, rfl, rfl, hS3, rfl, _, _, rfl, rfl, .inl ⟨by decide, by decide⟩, _, _, rfl, rfl, _, _, rfl, rfl, _, _, rfl, rfl, ⟨by decide, by decide, ?_⟩, .inl ⟨_, rfl, _, _, rfl, rfl, (by show (0 : Int) < 2147483629; decide), ?_⟩⟩
          · show (m + 7919 * ((c : Int) + 1) + 104729).natAbs < 2 ^ 64
            omega
          have hx1 := Int.emod_nonneg ((m + 7919 * ((c : Int) + 1) + 104729) ^ (5 : Int).toNat) (show (2147483629 : Int) ≠ 0 by decide)
          have hx2 := Int.emod_lt_of_pos ((m + 7919 * ((c : Int) + 1) + 104729) ^ (5 : Int).toNat) (show (0 : Int) < 2147483629 by decide)
          have fin : ∀ y : Int, Q (.int (y % ((k : Nat) : Int))) H3 := fun y => by
            have ed : y % ((k : Nat) : Int) = (((y % ((k : Nat) : Int)).toNat : Nat) : Int) := by
              have := Int.emod_nonneg y (show ((k : Nat) : Int) ≠ 0 by omega)
              omega
            have hlt := Int.emod_lt_of_pos y hk0
            have q := kk (y % ((k : Nat) : Int)).toNat H3 (by omega) e3 ⟨xs, a, m, c + 1, hSL, hS3, hL3, ha, hm, hm2, by omega⟩
            rw [← ed] at q
            exact q
          have big : ∀ x : Int, 0 ≤ x → x < 2147483629 → (x * 48271 + 30011 * ((c : Int) + 1) + 29).natAbs < 2 ^ 64 := fun x h1 h2 => by omega
          refine ⟨_, rfl, _, _, rfl, rfl, .inl ⟨Int.lt_of_lt_of_le (by decide) hx1, Int.lt_trans hx2 (by decide)⟩, _, rfl, S, _, 2, _, rfl, rfl, hS3, rfl, _, _, rfl, rfl, .inl ⟨by decide, by decide⟩, _, _, rfl, rfl, _, _, rfl, rfl, _, _, rfl, rfl, ⟨by decide, by decide, ?_⟩, .inl ⟨_, rfl, _, _, rfl, rfl, (by show (0 : Int) < 1000000007; decide), _, rfl, _, _, rfl, rfl, hk0, fin _⟩⟩
          exact big _ hx1 hx2
      | cons x xs =>
        refine iteT ⟨fun σ H' => ∃ (a m : Int) (y1 y2 y3 : Option V), σ = [some (.ref S), some (.int (k : Nat)), y1, y2, y3] ∧ Ex [S, L] H H' ∧ H' S = some (.lst [.ref L, .int a, .int ((c : Int) + 1), .int m]) ∧ H' L = some (.lst (xs.map V.int)) ∧ 0 ≤ a ∧ 0 ≤ m ∧ m < 2147483647,
          fun σ' H' ⟨a, m, y1, y2, y3, h⟩ => ⟨xs.length, Nat.lt_succ_self _, xs, a, m, y1, y2, y3, h.1, rfl, h.2⟩, ?_⟩
        refine ⟨_, rfl, S, _, 0, _, rfl, rfl, hS2, rfl, .inl ⟨rfl, _, SqL.of hL2⟩, L, _, 0, 0, _, rfl, rfl, hL2, by decide, by decide, by rw [List.length_map]; exact seqIndex0 xs.length, rfl, ?_⟩
        have e3 : Ex [S, L] H2 (upd H2 L (.lst (xs.map V.int))) := Ex.put mL hL2
        have hS3 : (upd H2 L (.lst (xs.map V.int))) S = some (.lst [.ref L, .int a, .int ((c : Int) + 1), .int m]) := by rw [upd_ne hSL]; exact hS2
        have hL3 : (upd H2 L (.lst (xs.map V.int))) L = some (.lst (xs.map V.int)) := upd_same
        refine ⟨_, rfl, S, _, 3, _, rfl, rfl, hS3, rfl, _, _, rfl, rfl, .inl ⟨by omega, by omega⟩, _, rfl, _, _, rfl, rfl, _, _, rfl, rfl, .inl ⟨_, rfl, _, _, rfl, rfl, (by show (0 : Int) < 2147483647; decide), _, rfl, S, _, 3, 3, rfl, rfl, hS3, rfl, ?_⟩⟩
        have hz1 := Int.emod_nonneg (m * 8191 + x + 3) (show (2147483647 : Int) ≠ 0 by decide)
        have hz2 := Int.emod_lt_of_pos (m * 8191 + x + 3) (show (0 : Int) < 2147483647 by decide)
        have e4 : Ex [S, L] (upd H2 L (.lst (xs.map V.int))) (upd (upd H2 L (.lst (xs.map V.int))) S (.lst [.ref L, .int a, .int ((c : Int) + 1), .int ((m * 8191 + x + 3) % 2147483647)])) := Ex.put mS hS3
        have hS4 : (upd (upd H2 L (.lst (xs.map V.int))) S (.lst [.ref L, .int a, .int ((c : Int) + 1), .int ((m * 8191 + x + 3) % 2147483647)])) S = some (.lst [.ref L, .int a, .int ((c : Int) + 1), .int ((m * 8191 + x + 3) % 2147483647)]) := upd_same
        have hL4 : (upd (upd H2 L (.lst (xs.map V.int))) S (.lst [.ref L, .int a, .int ((c : Int) + 1), .int ((m * 8191 + x + 3) % 2147483647)])) L = some (.lst (xs.map V.int)) := by rw [upd_ne (Ne.symm hSL)]; exact hL3
        have e14 : Ex [S, L] H (upd (upd H2 L (.lst (xs.map V.int))) S (.lst [.ref L, .int a, .int ((c : Int) + 1), .int ((m * 8191 + x + 3) % 2147483647)])) := ((e1.trans e2.any).trans e3).trans e4
        refine ⟨_, rfl, _, _, rfl, rfl, ⟨by decide, by decide, by decide⟩, _, _, rfl, rfl, _, rfl, ?_⟩
        by_cases cx : (10 : Int) ^ (18 : Int).toNat ≤ x
        · rw [decide_eq_true cx]
          have hx0 : (0 : Int) ≤ x := Int.le_trans (by decide) cx
          refine iteT ⟨_, rfl, _, rfl, S, _, 1, 1, rfl, rfl, hS4, rfl, ?_⟩
          exact ⟨x, ((m * 8191 + x + 3) % 2147483647), _, _, _, rfl, e14.trans (Ex.put mS hS4), upd_same, by rw [upd_ne (Ne.symm hSL)]; exact hL4, hx0, hz1, hz2⟩
        · rw [decide_eq_false cx]
          refine iteF ⟨_, rfl, S, _, 1, 1, rfl, rfl, hS4, rfl, ?_⟩
          exact ⟨0, ((m * 8191 + x + 3) % 2147483647), _, _, _, rfl, e14.trans (Ex.put mS hS4), upd_same, by rw [upd_ne (Ne.symm hSL)]; exact hL4, by decide, hz1, hz2⟩
    · rw [decide_eq_false ca]
      refine iteF ?_
      have hS3 := hS
      have hL3 := hL
      have e3 : Ex [S, L] H H1 := e1
      generalize H1 = H3 at hS3 hL3 e3 ⊢
      refine ⟨_, rfl, S, _, 1, _, rfl, rfl, hS3, rfl, _, _, rfl, rfl, _, rfl, ?_⟩
      have hk0 : (0 : Int) < ((k : Nat) : Int) := by omega
      by_cases cp : (0 : Int) < a
      · rw [decide_eq_true cp]
        refine iteT ⟨_, rfl, S, _, 1, _, rfl, rfl, hS3, rfl, .inl ⟨_, rfl, _, rfl, _, _, rfl, rfl, hk0, ?_⟩⟩
        refine ⟨_, rfl, S, _, 1, _, rfl, rfl, hS3, rfl, _, rfl, _, _, rfl, rfl, ⟨hk0, by omega⟩, _, rfl, S, _, 1, 1, rfl, rfl, hS3, rfl, ?_⟩
        have ed : a % ((k : Nat) : Int) = (((a % ((k : Nat) : Int)).toNat : Nat) : Int) := by
          have := Int.emod_nonneg a (show ((k : Nat) : Int) ≠ 0 by omega)
          omega
        have hlt := Int.emod_lt_of_pos a hk0
        refine ⟨_, rfl, ?_⟩
        have q := kk (a % ((k : Nat) : Int)).toNat (upd H3 S (.lst [.ref L, .int (a / ((k : Nat) : Int)), .int ((c : Int) + 1), .int m])) (by omega) (e3.trans (Ex.put mS hS3)) ⟨xs, a / ((k : Nat) : Int), m, c + 1, hSL, upd_same, by rw [upd_ne (Ne.symm hSL)]; exact hL3, Int.ediv_nonneg ha (by omega), hm, hm2, by omega⟩
        rw [← ed] at q
        exact q
      · rw [decide_eq_false cp]
        refine iteF ⟨_, rfl, S, _, 3, _, rfl, rfl, hS3, rfl, _, rfl, S, _, 2, _, rfl, rfl, hS3, rfl, _, _, rfl, rfl, .inl ⟨by decide, by decide⟩, _, _, rfl, rfl, _, _, rfl, rfl, _, _, rfl, rfl, ⟨by decide, by decide, ?_⟩, .inl ⟨_, rfl, _, _, rfl, rfl, (by show (0 : Int) < 2147483629; decide), ?_⟩⟩
        · show (m + 7919 * ((c : Int) + 1) + 104729).natAbs < 2 ^ 64
          omega
        have hx1 := Int.emod_nonneg ((m + 7919 * ((c : Int) + 1) + 104729) ^ (5 : Int).toNat) (show (2147483629 : Int) ≠ 0 by decide)
        have hx2 := Int.emod_lt_of_pos ((m + 7919 * ((c : Int) + 1) + 104729) ^ (5 : Int).toNat) (show (0 : Int) < 2147483629 by decide)
        have fin : ∀ y : Int, Q (.int (y % ((k : Nat) : Int))) H3 := fun y => by
          have ed : y % ((k : Nat) : Int) = (((y % ((k : Nat) : Int)).toNat : Nat) : Int) := by
            have := Int.emod_nonneg y (show ((k : Nat) : Int) ≠ 0 by omega)
            omega
          have hlt := Int.emod_lt_of_pos y hk0
          have q := kk (y % ((k : Nat) : Int)).toNat H3 (by omega) e3 ⟨xs, a, m, c + 1, hSL, hS3, hL3, ha, hm, hm2, by omega⟩
          rw [← ed] at q
          exact q
        have big : ∀ x : Int, 0 ≤ x → x < 2147483629 → (x * 48271 + 30011 * ((c : Int) + 1) + 29).natAbs < 2 ^ 64 := fun x h1 h2 => by omega
        refine ⟨_, rfl, _, _, rfl, rfl, .inl ⟨Int.lt_of_lt_of_le (by decide) hx1, Int.lt_trans hx2 (by decide)⟩, _, rfl, S, _, 2, _, rfl, rfl, hS3, rfl, _, _, rfl, rfl, .inl ⟨by decide, by decide⟩, _, _, rfl, rfl, _, _, rfl, rfl, _, _, rfl, rfl, ⟨by decide, by decide, ?_⟩, .inl ⟨_, rfl, _, _, rfl, rfl, (by show (0 : Int) < 1000000007; decide), _, rfl, _, _, rfl, rfl, hk0, fin _⟩⟩
        exact big _ hx1 hx2
end
end K70
end
section
set_option maxHeartbeats 4000000
/-! The law's draws. -/
namespace K70
open PySem PySem.Spec PyProof.Rows L2
variable [Tbs]
theorem Ex.of2 {A : List Addr} {S L : Addr} {H H' : Hp} (e : Ex [S, L] H H') (hS : S ∈ A) (hL : L ∈ A) : Ex A H H' := e.le fun a h => by
  rcases List.mem_cons.1 h with q | h
  · rw [q]; exact hS
  · rw [List.mem_singleton.mp h]; exact hL
theorem Ex.get2 {S L a : Addr} {H H' : Hp} {o : HO} (e : Ex [S, L] H H') (h1 : a ≠ S) (h2 : a ≠ L) (h : H a = some o) (t : ∀ ps, o ≠ .tbl ps := by intro ps z; cases z) : H' a = some o := e.get (by simp [h1, h2]) h t
/-- a new object is none of the stream's -/
theorem Strm.ne {H : Hp} {S L p : Addr} {n : Nat} (h : Strm H S L n) (hp : H p = none) : p ≠ S ∧ p ≠ L := by
  obtain ⟨xs, a, m, c, h1, h2, h3, _⟩ := h
  exact ⟨fun z => by (rw [z, h2] at hp; cases hp), fun z => by (rw [z, h3] at hp; cases hp)⟩
theorem perm_erase {α : Type} : ∀ {xs : List α} {i : Nat} {x : α}, xs[i]? = some x → (x :: xs.eraseIdx i).Perm xs
  | [], i, x, h => by simp at h
  | y :: xs, 0, x, h => by
    have : y = x := by simpa using h
    rw [this]
    exact List.Perm.refl _
  | y :: xs, i + 1, x, h => by
    have h : xs[i]? = some x := by simpa using h
    show (x :: y :: xs.eraseIdx i).Perm (y :: xs)
    exact (List.Perm.swap y x _).trans ((perm_erase h).cons y)
theorem seqIndexN {n d : Nat} (h : d < n) : seqIndex? (d : Int) n = some d := by
  unfold seqIndex?
  have h1 : ¬ ((d : Int) < 0) := by omega
  have h2 : (d : Int) < (n : Int) := by omega
  have h3 : (0 : Int) ≤ (d : Int) := by omega
  simp [h1, h2, h3]
theorem map_erase {α β : Type} (f : α → β) : ∀ (xs : List α) (i : Nat), (xs.map f).eraseIdx i = (xs.eraseIdx i).map f
  | [], i => rfl
  | x :: xs, 0 => rfl
  | x :: xs, i + 1 => by
    show f x :: (xs.map f).eraseIdx i = f x :: (xs.eraseIdx i).map f
    rw [map_erase]
section
variable {X : Cx} {c : Expr} {to : TE} {t : TA} {r : V → List V → Hp → VK → Prop}
def tBML (r : V → List V → Hp → VK → Prop) (to : TE) (t : TA) : TE := fun σ H Q => to σ H fun x H1 => (∃ l xs, x = .ref l ∧ H1 l = some (.lst xs)) ∧ t σ H1 fun xs H2 => r x xs H2 Q
/-- a list's method, its reading by the heap alone -/
theorem bmL (h : PE X c (tBM X.K "list" r (fun σ H Q => ∃ Q0, to σ H Q0 ∧ ∀ v H1, Q0 v H1 → Q v H1) t)) : PE X c (tBML r to t) where
  run pins s σ H Q I q := h.run pins s σ H Q I ⟨_, q, fun v H1 ⟨⟨l, xs, e, at_⟩, z⟩ => ⟨e ▸ .inl ⟨rfl, xs, SqL.of at_⟩, z⟩⟩
end
section
variable {P : Program} {w : World} {K : PySem.W.Frag} {mg : Str → Option Value} {base : Heap}
def spStart (K : PySem.W.Frag) : Sp := fun vs H Q _ => ∃ (a : Addr) (xs : List Int), vs = [.ref a] ∧ SqL K H a (xs.map V.int) ∧ ∀ S L H', H S = none → H L = none → Ex [] H H' → Strm H' S L 0 → Q (.ref S) H'
theorem ok_wXstart (T : Top K mg base) : FnOk P w K mg base CX0 2 (He.ga K "_law_start") (fdOf K (He.ga K "_law_start")) ["_law_script"] (spStart K) := by
  refine T.d_wXstart.ok sc_wXstart (fun vs H Q E h => ?len) (fun cdv A outer s H vs Q E hr h => ⟨_, PSs.nox (pss_one (ps_ret (pe_lst (pa_cons (pe_callTy call_list_of (by rfl) T.n_list (by decide +kernel) (pa_cons (pv 0) pa_nil)) (pa_cons pe_int (pa_cons pe_int (pa_cons pe_int pa_nil))))))), ?go⟩)
  case len =>
    obtain ⟨a, xs, rfl, _⟩ := h
    rfl
  case go =>
    obtain ⟨a, xs, rfl, ha, k⟩ := h
    refine ⟨_, rfl, a, _, rfl, Or.inl ha, fun L hL => ⟨by show 4 ≤ sizeLine; decide, fun S hS => ?_⟩⟩
    have e1 : Ex [] H (upd H L (.lst (xs.map V.int))) := Ex.new hL
    have hne : L ≠ S := fun z => by rw [← z, upd_same] at hS; cases hS
    refine k S L _ (e1.back hS) hL (e1.trans (Ex.new hS)) ⟨xs, 0, 11, 0, Ne.symm hne, upd_same, ?_, by decide, by decide, by decide, Nat.le_refl _⟩
    rw [upd_ne hne]
    exact upd_same
def spPick : Sp := fun vs H Q _ => ∃ (S L a : Addr) (n : Nat) (ws : List V), vs = [.ref S, .ref a] ∧ Strm H S L n ∧ n ≤ 1000000000 ∧ a ≠ S ∧ a ≠ L ∧ H a = some (.lst ws) ∧ 0 < ws.length ∧ ws.length < 1000 ∧ ∀ (i : Nat) v H', ws[i]? = some v → Ex [S, L] H H' → Strm H' S L (n + 1) → Q v H'
theorem ok_wXpick (T : Top K mg base) : FnOk P w K mg base CX0 3 (He.ga K "_law_pick") (fdOf K (He.ga K "_law_pick")) ["_law_stream", "_law_some"] spPick := by
  have G_wXdraw := ok_wXdraw (P := P) (w := w) T
  have b_wXdraw := bd_wXdraw T
  refine T.d_wXpick.ok sc_wXpick (fun vs H Q E h => ?len) (fun cdv A outer s H vs Q E hr h => ⟨_, PSs.nox (pss_one (ps_ret (pe_ix ix_listS (pv 1) (pe_call G_wXdraw (hr.mono (by decide)) rfl T.g_wXdraw T.d_wXdraw.kp b_wXdraw .nil pass0 (pa_cons (pv 0) (pa_cons (pe_callB call_lenS (by rfl) T.n_len (by decide +kernel) (pa_cons (pv 1) pa_nil)) pa_nil))) (fun _ _ => rfl)))), ?go⟩)
  case len =>
    obtain ⟨S, L, a, n, ws, rfl, _⟩ := h
    rfl
  case go =>
    obtain ⟨S, L, a, n, ws, rfl, st, hn, h1, h2, ha, hw, hw2, k⟩ := h
    refine ⟨_, rfl, _, rfl, _, rfl, a, ws, rfl, .inl ha, S, L, n, ws.length, rfl, hw, hw2, st, hn, fun d H' hd e st' => ?_⟩
    have ed : ws[d]? = some ws[d] := by simp [hd]
    exact ⟨a, ws, _, _, rfl, rfl, e.get2 h1 h2 ha, atI_nat ed, k d _ H' ed e st'⟩
def spMixed : Sp := fun vs H Q _ => ∃ (S L a : Addr) (n : Nat) (zs : Lot), vs = [.ref S, .ref a] ∧ Strm H S L n ∧ n + 60 ≤ 1000000000 ∧ H a = some (.lst (zs.map V.str)) ∧ zs.length ≤ 60 ∧ ∀ p (ys : Lot) H', ys.Perm zs → Ex [S, L] H H' → Strm H' S L (n + 60) → H p = none → H' p = some (.lst (ys.map V.str)) → Q (.ref p) H'
theorem ok_wXmixed (T : Top K mg base) : FnOk P w K mg base CX0 3 (He.ga K "_law_mixed") (fdOf K (He.ga K "_law_mixed")) ["_law_stream", "_law_some"] spMixed := by
  have G_wXdraw := ok_wXdraw (P := P) (w := w) T
  have b_wXdraw := bd_wXdraw T
  refine T.d_wXmixed.ok sc_wXmixed (fun vs H Q E h => ?len) (fun cdv A outer s H vs Q E hr h => ⟨_, PSs.nox (pss_cons (ps_set (i := 2) sc_wXmixed.nd rfl (Or.inr rfl) (pe_callTy call_listS (by rfl) T.n_list (by decide +kernel) (pa_cons (pv 1) pa_nil)))
    (pss_one (ps_ret (pe_lc (own := [("_law_k", 3)]) (g := gName 3) (tt := _) rfl sc_wXmixed.nd (pi_range1 rfl T.n_range (pa_cons (pe_callB call_lenS (by rfl) T.n_len (by decide +kernel) (pa_cons (pv 2) pa_nil)) pa_nil)) (blkOk_by (by kernel_rfl)) (fun _ _ _ _ _ => (pg_name (i := 3) sc_wXmixed.nd rfl (Or.inl rfl))) (fun _ _ _ _ _ => pts_nil) (fun _ _ _ _ _ => (bmL (pe_bm PySem.F.plainAttrs_list PySem.F.slot_list_pop PySem.F.type_list_pop mt_popAt (up_pe (pv 2)) (pa_cons (pe_call G_wXdraw (hr.mono (by decide)) rfl T.g_wXdraw T.d_wXdraw.kp b_wXdraw .nil pass0 (pa_cons (pv 0) (pa_cons (pe_callB call_lenS (by rfl) T.n_len (by decide +kernel) (pa_cons (pv 2) pa_nil)) pa_nil))) pa_nil)))))))), ?go⟩)
  case len =>
    obtain ⟨S, L, a, n, zs, rfl, _⟩ := h
    rfl
  case go =>
    obtain ⟨S, L, a, n, zs, rfl, st, hn, ha, hz, k⟩ := h
    refine ⟨_, rfl, a, _, rfl, .inl ha, fun q hq => ?_⟩
    have e0 : Ex [] H (upd H q (.lst (zs.map V.str))) := Ex.new hq
    obtain ⟨hqS, hqL⟩ := st.ne hq
    refine ⟨_, rfl, q, zs.map V.str, rfl, .inl upd_same, _, rfl, ?_⟩
    rw [List.length_map]
    refine ⟨by omega, by omega, fun D hD => ?_⟩
    have hqD : q ≠ D := fun z => by rw [← z, upd_same] at hD; cases hD
    have hDH : H D = none := e0.back hD
    obtain ⟨hDS, hDL⟩ := st.ne hDH
    rw [Int.toNat_natCast]
    refine lc_src (src_rng (lo := 0) (n := zs.length)) (D := D) (H1 := upd (upd H q (.lst (zs.map V.str))) D (.lst [])) (Qd := fun H' => Q (.ref D) H') (fun i H' => Ex [S, L] H H' ∧ Strm H' S L (n + i) ∧ ∃ left ys : Lot, H' q = some (.lst (left.map V.str)) ∧ H' D = some (.lst (ys.map V.str)) ∧ ys.length = i ∧ (ys ++ left).Perm zs)
      ⟨(e0.trans (Ex.new hD)).any, st.ex (e0.trans (Ex.new hD)), zs, [], by rw [upd_ne hqD]; exact upd_same, upd_same, rfl, List.Perm.refl _⟩ (fun _ _ _ _ => trivial) ?_ ?_
    · rintro i x H9 H1 hi ⟨e1, st1, left, ys, hq1, hD1, hyl, hp⟩ ⟨rfl, rfl⟩
      have hll : left.length + i = zs.length := by
        have := hp.length_eq
        rw [List.length_append, hyl] at this
        omega
      refine ⟨rfl, _, rfl, ⟨q, _, rfl, hq1⟩, _, rfl, _, rfl, q, left.map V.str, rfl, .inl hq1, ?_⟩
      rw [List.length_map]
      refine ⟨S, L, n + i, left.length, rfl, by omega, by omega, st1, by omega, fun d H2 hd e2 st2 => ?_⟩
      have ed : left[d]? = some left[d] := by simp [hd]
      generalize left[d] = z at ed
      have hq2 := e2.get2 hqS hqL hq1
      have hD2 := e2.get2 hDS hDL hD1
      refine ⟨q, left.map V.str, _, d, .str z, rfl, rfl, hq2, by omega, by omega, by rw [List.length_map]; exact seqIndexN hd, by rw [List.getElem?_map, ed]; rfl, ?_⟩
      have hq3 : (upd H2 q (.lst ((left.map V.str).eraseIdx d))) q = some (.lst ((left.eraseIdx d).map V.str)) := by rw [upd_same, map_erase]
      have hD3 : (upd H2 q (.lst ((left.map V.str).eraseIdx d))) D = some (.lst (ys.map V.str)) := by rw [upd_ne (Ne.symm hqD)]; exact hD2
      have e3 : Ex [S, L] H (upd H2 q (.lst ((left.map V.str).eraseIdx d))) := (e1.trans e2).putNew hq hq2
      have st3 : Strm (upd H2 q (.lst ((left.map V.str).eraseIdx d))) S L (n + i + 1) := by
        obtain ⟨xs, a, m, c, h1, h2, h3, h4⟩ := st2
        exact ⟨xs, a, m, c, h1, by rw [upd_ne (Ne.symm hqS)]; exact h2, by rw [upd_ne (Ne.symm hqL)]; exact h3, h4⟩
      refine ⟨ys.map V.str, hD3, ?_, e3.putNew hDH hD3, ?_, left.eraseIdx d, ys ++ [z], ?_, ?_, ?_, ?_⟩
      · rw [List.length_map, hyl]
        exact Nat.lt_of_le_of_lt (show i ≤ 60 by omega) (by decide)
      · obtain ⟨xs, a, m, c, h1, h2, h3, h4⟩ := st3
        exact ⟨xs, a, m, c, h1, by rw [upd_ne (Ne.symm hDS)]; exact h2, by rw [upd_ne (Ne.symm hDL)]; exact h3, h4⟩
      · rw [upd_ne hqD]
        exact hq3
      · rw [upd_same, List.map_append]
        rfl
      · rw [List.length_append, hyl]
        rfl
      · rw [List.append_assoc]
        exact ((perm_erase ed).append_left ys).trans hp
    · rintro H' ⟨e1, st1, left, ys, hq1, hD1, hyl, hp⟩
      have hl0 : left = [] := by
        have := hp.length_eq
        rw [List.length_append, hyl] at this
        exact List.length_eq_zero_iff.1 (by omega)
      rw [hl0, List.append_nil] at hp
      exact k D ys H' hp e1 (st1.le (by omega)) hDH hD1
end
end K70
end
section
set_option maxHeartbeats 4000000
/-! hands and lists drawn. -/
namespace K70
open PySem PySem.Spec PyProof.Rows L2
variable [Tbs]
def SIX : Lot := ["a", "b", "c1", "d", "zed", "m9"]
/-- lots of some hands -/
structure LotsOf (hs : Lot) (bs : List Lot) : Prop where
  len : bs.length ≤ 10
  nd : ∀ b ∈ bs, b.Nodup
  sub : ∀ b ∈ bs, ∀ z ∈ b, z ∈ hs
theorem cutS {zs : Lot} {lo hi : Option Int} : cutV (zs.map V.str) lo hi = ((zs.drop (HT.sIx zs.length 0 lo)).take (HT.sIx zs.length zs.length hi - HT.sIx zs.length 0 lo)).map V.str := by
  unfold cutV
  rw [List.length_map, ← List.map_drop, ← List.map_take]
section
variable {P : Program} {w : World} {K : PySem.W.Frag} {mg : Str → Option Value} {base : Heap}
def spHandsL : Sp := fun vs H Q _ => ∃ (S L : Addr) (n k : Nat), vs = [.ref S, .int (k : Nat)] ∧ Strm H S L n ∧ n + 60 ≤ 1000000000 ∧ ∀ p (ys : Lot) H', (∃ zs : Lot, zs.Perm SIX ∧ ys = zs.take k) → Ex [S, L] H H' → Strm H' S L (n + 60) → H p = none → H' p = some (.lst (ys.map V.str)) → Q (.ref p) H'
theorem ok_wXhands (T : Top K mg base) : FnOk P w K mg base CX0 4 (He.ga K "_law_hands") (fdOf K (He.ga K "_law_hands")) ["_law_stream", "_law_many"] spHandsL := by
  have G_wXmixed := ok_wXmixed (P := P) (w := w) T
  have b_wXmixed := bd_wXmixed T
  refine T.d_wXhands.ok sc_wXhands (fun vs H Q E h => ?len) (fun cdv A outer s H vs Q E hr h => ⟨_, PSs.nox (pss_one (ps_ret (pe_slice sl_listS (pe_call G_wXmixed (hr.mono (by decide)) rfl T.g_wXmixed T.d_wXmixed.kp b_wXmixed .nil pass0 (pa_cons (pv 0) (pa_cons (pe_lst (pa_cons pe_str (pa_cons pe_str (pa_cons pe_str (pa_cons pe_str (pa_cons pe_str (pa_cons pe_str pa_nil))))))) pa_nil))) po_none (po_some (pv 1))))), ?go⟩)
  case len =>
    obtain ⟨S, L, n, k, rfl, _⟩ := h
    rfl
  case go =>
    obtain ⟨S, L, n, k, rfl, st, hn, kk⟩ := h
    refine ⟨_, rfl, by show 6 ≤ sizeLine; decide, fun q hq => ?_⟩
    have e0 : Ex [] H (upd H q (.lst (SIX.map V.str))) := Ex.new hq
    refine ⟨S, L, q, n, SIX, rfl, st.ex e0, hn, upd_same, by decide, fun p ys H1 hp e1 st1 hp0 hp1 => ?_⟩
    refine ⟨_, rfl, _, rfl, p, _, rfl, hp1, fun r hr => ?_⟩
    rw [cut_to, ← List.map_take]
    refine kk r (ys.take k) _ ⟨ys, hp, rfl⟩ (e0.any.trans (e1.trans (Ex.new hr))) (st1.ex (Ex.new hr)) (e0.back (e1.back hr)) upd_same
def spLists : Sp := fun vs H Q _ => ∃ (A : List Addr) (S L a : Addr) (n : Nat) (hs : Lot), Dom A H ∧ S ∈ A ∧ L ∈ A ∧ vs = [.ref S, .ref a] ∧ Strm H S L n ∧ n + 1000 ≤ 1000000000 ∧ wo A H a = some (.lst (hs.map V.str)) ∧ 2 ≤ hs.length ∧ hs.length ≤ 10 ∧ hs.Nodup ∧
  ∀ v bs H', LotsOf hs bs → Ex [S, L] H H' → Strm H' S L (n + 1000) → Rep (wo A H') (lls bs) v → Q v H'
theorem ok_qXlists (T : Top K mg base) : FnOk P w K mg base CX0 5 (He.ga K "_law_o_lists") (fdOf K (He.ga K "_law_o_lists")) ["_law_stream", "_law_hands_here"] spLists := by
  have G_wXdraw := ok_wXdraw (P := P) (w := w) T
  have b_wXdraw := bd_wXdraw T
  have G_wXpick := ok_wXpick (P := P) (w := w) T
  have b_wXpick := bd_wXpick T
  have G_wXmixed := ok_wXmixed (P := P) (w := w) T
  have b_wXmixed := bd_wXmixed T
  refine T.d_qXlists.ok sc_qXlists (fun vs H Q E h => ?len) (fun cdv A outer s H vs Q E hr h => ⟨_, PSs.nox (pss_cons (ps_par (i := 2) (j := 3) (by rfl) sc_qXlists.nd rfl rfl (by decide) rfl rfl (pa_cons (pe_call G_wXdraw (hr.mono (by decide)) rfl T.g_wXdraw T.d_wXdraw.kp b_wXdraw .nil pass0 (pa_cons (pv 0) (pa_cons pe_int pa_nil))) (pa_cons (pe_lst pa_nil) pa_nil)) (by rfl))
    (pss_cons (ps_if (pt_cmpR op_eq (pv 2) pe_int (nomark _)) (pss_one (ps_ret (pe_lc (own := [("_law_hand", 5)]) (g := gName 5) (tt := _) rfl sc_qXlists.nd (pi_seqA (pe_call G_wXmixed (hr.mono (by decide)) rfl T.g_wXmixed T.d_wXmixed.kp b_wXmixed .nil pass0 (pa_cons (pv 0) (pa_cons (pv 1) pa_nil)))) (blkOk_by (by kernel_rfl)) (fun _ _ _ _ _ => (pg_name (i := 5) sc_qXlists.nd rfl (Or.inl rfl))) (fun _ _ _ _ _ => pts_nil) (fun _ _ _ _ _ => (pe_lst (pa_cons (pv 5) pa_nil)))))) pss_nil)
    (pss_cons (ps_if (pt_cmpR op_eq (pv 2) pe_int (nomark _)) (pss_one (ps_ret (pe_call G_wXpick (hr.mono (by decide)) rfl T.g_wXpick T.d_wXpick.kp b_wXpick .nil pass0 (pa_cons (pv 0) (pa_cons (pe_lst (pa_cons (pe_lst pa_nil) (pa_cons (pe_lst (pa_cons (pe_lst pa_nil) pa_nil)) (pa_cons (pe_lst (pa_cons (pe_slice sl_listS (pe_call G_wXmixed (hr.mono (by decide)) rfl T.g_wXmixed T.d_wXmixed.kp b_wXmixed .nil pass0 (pa_cons (pv 0) (pa_cons (pv 1) pa_nil))) (po_some pe_int) po_none) pa_nil)) pa_nil)))) pa_nil))))) pss_nil)
    (pss_cons (ps_for PassesOwn.never rfl (pi_range1 rfl T.n_range (pa_cons (pe_op op_add pe_int (pe_call G_wXdraw (hr.mono (by decide)) rfl T.g_wXdraw T.d_wXdraw.kp b_wXdraw .nil pass0 (pa_cons (pv 0) (pa_cons pe_int pa_nil)))) pa_nil)) (pg_name (i := 4) sc_qXlists.nd rfl (Or.inl rfl)) (pss_one (ps_expr (pe_bm PySem.F.plainAttrs_list PySem.F.slot_list_append PySem.F.type_list_append mt_append (pv 3) (pa_cons (pe_slice sl_listS (pe_call G_wXmixed (hr.mono (by decide)) rfl T.g_wXmixed T.d_wXmixed.kp b_wXmixed .nil pass0 (pa_cons (pv 0) (pa_cons (pv 1) pa_nil))) po_none (po_some (pe_call G_wXpick (hr.mono (by decide)) rfl T.g_wXpick T.d_wXpick.kp b_wXpick .nil pass0 (pa_cons (pv 0) (pa_cons (pe_lst (pa_cons pe_int (pa_cons pe_int (pa_cons pe_int (pa_cons pe_int (pa_cons pe_int (pa_cons pe_int (pa_cons (pe_op op_sub (pe_callB call_lenS (by rfl) T.n_len (by decide +kernel) (pa_cons (pv 1) pa_nil)) pe_int) pa_nil)))))))) pa_nil))))) pa_nil)))))
    (pss_one (ps_ret (pv 3))))))), ?go⟩)
  case len =>
    obtain ⟨A, S, L, a, n, hs, _, _, _, rfl, _⟩ := h
    rfl
  case go =>
    obtain ⟨A, S, L, a, n, hs, dA, mS, mL, rfl, st, hn, ha, h2, h10, hnd, k⟩ := h
    refine ⟨_, rfl, S, L, n, 6, rfl, by decide, by decide, st, by omega, fun d H0 hd e0 st0 => ⟨by show 0 ≤ sizeLine; decide, fun p hp => ⟨_, _, rfl, ?_⟩⟩⟩
    have e0A : Ex A H H0 := e0.of2 mS mL
    have e1 : Ex [] H0 (upd H0 p (.lst [])) := Ex.new hp
    have d0 : Dom A H0 := dA.ex e0
    have hpA := d0.not hp
    have hp1 : (upd H0 p (.lst [])) p = some (.lst []) := upd_same
    have hpH := e0.back hp
    have s1p : Sub (wo A H0) (wo (p :: A) (upd H0 p (.lst []))) := wo_new hp
    generalize (upd H0 p (.lst [])) = H1 at e1 hp1 s1p ⊢
    have e01 : Ex [S, L] H H1 := e0.trans e1.any
    have ha1 : wo A H1 a = some (.lst (hs.map V.str)) := (e01.of2 mS mL).old _ _ ha
    have st1 := st0.ex e1
    have d1 : Dom A H1 := d0.ex e1
    refine ⟨_, rfl, rfl, _, rfl, ?_⟩
    have ed : decide (V.int (d : Nat) = V.int 0) = decide (d = 0) := decide_eq_decide.mpr ⟨fun e => by injection e; omega, fun e => by rw [e]; rfl⟩
    rw [ed]
    by_cases c0 : d = 0
    · rw [decide_eq_true c0]
      refine iteT ⟨_, rfl, _, rfl, S, L, a, n + 1, hs, rfl, st1, by omega, wo_at ha1, by omega, fun q ys H2 hperm e2 st2 hq0 hq2 => ?_⟩
      have d2 : Dom A H2 := d1.ex e2
      have hq2A : wo A H2 q = some (.lst (ys.map V.str)) := wo_of (d1.not hq0) hq2
      have hyl : ys.length ≤ 10 := by rw [hperm.length_eq]; exact h10
      refine ⟨q, _, rfl, .inl hq2, fun J Ok S2 hok => lc_map S2 (A := A) ys (fun _ => true) (fun z => ls [z]) (by simp) d2 (by rw [List.length_map]; omega) (fun H' s => hok H' (seqAt_same (.inl hq2A) s)) ?_ ?_⟩
      · rintro i z x A1 H9 H3 Kt Kf hz hA d3 s3 e3 ⟨rfl, hx⟩ kt kf
        obtain rfl := str_at hz hx
        refine ⟨rfl, _, rfl, by show 1 ≤ sizeLine; decide, fun r hr => kt rfl _ _ (Ex.new hr) (Rep.ls.mpr ⟨r, rfl, wo_of (d3.not hr) upd_same⟩)⟩
      · intro D H3 hD e3 r3
        rw [List.filter_eq_self.mpr (fun _ _ => rfl)] at r3
        have r4 : Rep (wo A H3) (lls (ys.map fun z => [z])) (.ref D) := by
          show Rep (wo A H3) (.list ((ys.map fun z => [z]).map ls)) (.ref D)
          rw [List.map_map]
          exact r3
        refine k _ _ H3 ⟨by rw [List.length_map]; exact hyl, fun b hb => ?_, fun b hb z hz => ?_⟩ ((e01.trans e2).trans e3.any) ((st2.ex e3).le (by omega)) r4
        · obtain ⟨z, _, rfl⟩ := List.mem_map.mp hb
          simp
        · obtain ⟨z', hz', rfl⟩ := List.mem_map.mp hb
          rw [List.mem_singleton.mp hz]
          exact hperm.mem_iff.mp hz'
    · rw [decide_eq_false c0]
      refine iteF ⟨_, rfl, rfl, _, rfl, ?_⟩
      have ed1 : decide (V.int (d : Nat) = V.int 1) = decide (d = 1) := decide_eq_decide.mpr ⟨fun e => by injection e; omega, fun e => by rw [e]; rfl⟩
      rw [ed1]
      by_cases c1 : d = 1
      · rw [decide_eq_true c1]
        refine iteT ⟨_, rfl, by show 0 ≤ sizeLine; decide, fun p1 hp1' => ⟨by show 0 ≤ sizeLine; decide, fun p2 hp2' => ⟨by show 1 ≤ sizeLine; decide, fun p3 hp3' => ?_⟩⟩⟩
        have f1 : Ex [] H1 (upd H1 p1 (.lst [])) := Ex.new hp1'
        have f2 : Ex [] (upd H1 p1 (.lst [])) (upd (upd H1 p1 (.lst [])) p2 (.lst [])) := Ex.new hp2'
        have f3 : Ex [] (upd (upd H1 p1 (.lst [])) p2 (.lst [])) (upd (upd (upd H1 p1 (.lst [])) p2 (.lst [])) p3 (.lst [.ref p2])) := Ex.new hp3'
        have g1 : (upd (upd (upd H1 p1 (.lst [])) p2 (.lst [])) p3 (.lst [.ref p2])) p1 = some (.lst []) := f3.at (f2.at upd_same)
        have g2 : (upd (upd (upd H1 p1 (.lst [])) p2 (.lst [])) p3 (.lst [.ref p2])) p2 = some (.lst []) := f3.at upd_same
        have g3 : (upd (upd (upd H1 p1 (.lst [])) p2 (.lst [])) p3 (.lst [.ref p2])) p3 = some (.lst [.ref p2]) := upd_same
        have f : Ex [] H1 (upd (upd (upd H1 p1 (.lst [])) p2 (.lst [])) p3 (.lst [.ref p2])) := f1.trans (f2.trans f3)
        have n1 : H1 p1 = none := hp1'
        have n2 : H1 p2 = none := f1.back hp2'
        have n3 : H1 p3 = none := f1.back (f2.back hp3')
        generalize (upd (upd (upd H1 p1 (.lst [])) p2 (.lst [])) p3 (.lst [.ref p2])) = H2 at f g1 g2 g3 ⊢
        clear f1 f2 f3
        have st2 := st1.ex f
        have ha2 := (f.any (A := A)).old _ _ ha1
        refine ⟨_, rfl, _, rfl, S, L, a, n + 1, hs, rfl, st2, by omega, wo_at ha2, by omega, fun q ys H3 hperm e3 st3 hq0 hq3 => ⟨_, rfl, q, _, rfl, hq3, fun r hr => ⟨by show 1 ≤ sizeLine; decide, fun p4 hp4 => ⟨by show 3 ≤ sizeLine; decide, fun p5 hp5 => ?_⟩⟩⟩⟩
        have k1 := e3.get2 (st1.ne n1).1 (st1.ne n1).2 g1
        have k2 := e3.get2 (st1.ne n2).1 (st1.ne n2).2 g2
        have k3 := e3.get2 (st1.ne n3).1 (st1.ne n3).2 g3
        have er : cutV (ys.map V.str) (some 1) none = (ys.drop 1).map V.str := by
          rw [show (some (1 : Int)) = some ((1 : Nat) : Int) from rfl, cut_from, List.map_drop]
        have m1 : Ex [] H3 (upd H3 r (.lst (cutV (ys.map V.str) (some 1) none))) := Ex.new hr
        have m2 : Ex [] (upd H3 r (.lst (cutV (ys.map V.str) (some 1) none))) (upd (upd H3 r (.lst (cutV (ys.map V.str) (some 1) none))) p4 (.lst [.ref r])) := Ex.new hp4
        have m3 : Ex [] (upd (upd H3 r (.lst (cutV (ys.map V.str) (some 1) none))) p4 (.lst [.ref r])) (upd (upd (upd H3 r (.lst (cutV (ys.map V.str) (some 1) none))) p4 (.lst [.ref r])) p5 (.lst [.ref p1, .ref p3, .ref p4])) := Ex.new hp5
        have m : Ex [] H3 (upd (upd (upd H3 r (.lst (cutV (ys.map V.str) (some 1) none))) p4 (.lst [.ref r])) p5 (.lst [.ref p1, .ref p3, .ref p4])) := m1.trans (m2.trans m3)
        have k4 : (upd (upd (upd H3 r (.lst (cutV (ys.map V.str) (some 1) none))) p4 (.lst [.ref r])) p5 (.lst [.ref p1, .ref p3, .ref p4])) r = some (.lst ((ys.drop 1).map V.str)) := by rw [← er]; exact m3.at (m2.at upd_same)
        have k5 : (upd (upd (upd H3 r (.lst (cutV (ys.map V.str) (some 1) none))) p4 (.lst [.ref r])) p5 (.lst [.ref p1, .ref p3, .ref p4])) p4 = some (.lst [.ref r]) := m3.at upd_same
        have k6 : (upd (upd (upd H3 r (.lst (cutV (ys.map V.str) (some 1) none))) p4 (.lst [.ref r])) p5 (.lst [.ref p1, .ref p3, .ref p4])) p5 = some (.lst [.ref p1, .ref p3, .ref p4]) := upd_same
        have n4 : H3 r = none := hr
        have n5 : H3 p4 = none := m1.back hp4
        have n6 : H3 p5 = none := m1.back (m2.back hp5)
        show spPick [.ref S, .ref p5] (upd (upd (upd H3 r (.lst (cutV (ys.map V.str) (some 1) none))) p4 (.lst [.ref r])) p5 (.lst [.ref p1, .ref p3, .ref p4])) _ C8.E0
        generalize (upd (upd (upd H3 r (.lst (cutV (ys.map V.str) (some 1) none))) p4 (.lst [.ref r])) p5 (.lst [.ref p1, .ref p3, .ref p4])) = H4 at m k4 k5 k6 ⊢
        refine ⟨S, L, p5, n + 61, _, rfl, (st3.ex m).le (by omega), by omega, (st3.ne n6).1, (st3.ne n6).2, k6, by show 0 < 3; decide, by show 3 < 1000; decide, fun i v H5 hi e5 st5 => ?_⟩
        have e35 : Ex [S, L] H3 H5 := m.any.trans e5
        have d3 : Dom A H3 := (d1.ex f).ex e3
        have eAll : Ex [S, L] H H5 := (e01.trans (f.any.trans e3)).trans e35
        have w1 : wo A H5 p1 = some (.lst []) := wo_of (d1.not n1) (e35.get2 (st1.ne n1).1 (st1.ne n1).2 k1)
        have w2 : wo A H5 p2 = some (.lst []) := wo_of (d1.not n2) (e35.get2 (st1.ne n2).1 (st1.ne n2).2 k2)
        have w3 : wo A H5 p3 = some (.lst [.ref p2]) := wo_of (d1.not n3) (e35.get2 (st1.ne n3).1 (st1.ne n3).2 k3)
        have w4 : wo A H5 r = some (.lst ((ys.drop 1).map V.str)) := wo_of (d3.not n4) (e5.get2 (st3.ne n4).1 (st3.ne n4).2 k4)
        have w5 : wo A H5 p4 = some (.lst [.ref r]) := wo_of (d3.not n5) (e5.get2 (st3.ne n5).1 (st3.ne n5).2 k5)
        match i, hi with
        | 0, hi =>
          cases hi
          exact k _ [] H5 ⟨by decide, fun b hb => absurd hb (by simp), fun b hb => absurd hb (by simp)⟩ eAll (st5.le (by omega)) ⟨p1, _, rfl, w1, rfl⟩
        | 1, hi =>
          cases hi
          refine k _ [[]] H5 ⟨by show 1 ≤ 10; decide, fun b hb => ?_, fun b hb z hz => ?_⟩ eAll (st5.le (by omega)) ⟨p3, _, rfl, w3, .cons (Rep.ls.mpr ⟨p2, rfl, w2⟩) .nil⟩
          · rw [List.mem_singleton.mp hb]; exact List.nodup_nil
          · rw [List.mem_singleton.mp hb] at hz; cases hz
        | 2, hi =>
          cases hi
          refine k _ [ys.drop 1] H5 ⟨by show 1 ≤ 10; decide, fun b hb => ?_, fun b hb z hz => ?_⟩ eAll (st5.le (by omega)) ⟨p4, _, rfl, w5, .cons (Rep.ls.mpr ⟨r, rfl, w4⟩) .nil⟩
          · rw [List.mem_singleton.mp hb]; exact (hperm.nodup_iff.mpr hnd).sublist (List.drop_sublist _ _)
          · rw [List.mem_singleton.mp hb] at hz; exact hperm.mem_iff.mp (List.mem_of_mem_drop hz)
        | i + 3, hi => exact absurd hi (by simp)
      · rw [decide_eq_false c1]
        refine iteF ⟨_, rfl, S, L, n + 1, 4, rfl, by decide, by decide, st1, by omega, fun d2 H2 hd2 e2 st2 => ⟨_, _, rfl, rfl, _, rfl, by omega, by omega, ?_⟩⟩
        rw [show ((1 : Int) + (d2 : Nat)).toNat = 1 + d2 by omega]
        have hpS := st0.ne hp
        have dp1 : Dom A H2 := (d1.ex (e2.of2 mS mL))
        have hp2 := e2.get2 hpS.1 hpS.2 hp1
        have s2 : Sub (wo A H0) (wo (p :: A) H2) := s1p.trans (e2.of2 (List.mem_cons_of_mem p mS) (List.mem_cons_of_mem p mL)).old
        refine for_src (src_rng (lo := 0) (n := 1 + d2)) (fun i σ H' => ∃ y4 y5 acc bs, σ = [some (.ref S), some (.ref a), some (.int (d : Nat)), some (.ref p), y4, y5] ∧ Ex [S, L] H0 H' ∧ Strm H' S L (n + 2 + 61 * i) ∧ H' p = some (.lst acc) ∧ RepL (wo (p :: A) H') (bs.map ls) acc ∧ bs.length = i ∧ (∀ b ∈ bs, b.Nodup ∧ ∀ z ∈ b, z ∈ hs))
          ⟨_, _, [], [], rfl, e1.any.trans e2, st2.le (by omega), hp2, RepL.nil, rfl, fun b hb => by cases hb⟩ (fun _ _ _ _ _ => trivial) ?_ ?_
        · rintro i x σ H9 H3 hi ⟨y4, y5, acc, bs, rfl, e3, st3, hp3, racc, hbl, hbs⟩ ⟨rfl, rfl⟩
          have ha3 := (e3.of2 mS mL).old _ _ (e0A.old _ _ ha)
          refine ⟨_, rfl, .inl ⟨rfl, _, SqL.of hp3⟩, _, rfl, _, rfl, S, L, a, n + 2 + 61 * i, hs, rfl, st3, by omega, wo_at ha3, by omega, fun q ys H4 hperm e4 st4 hq0 hq4 => ?_⟩
          have ha4 := (e4.of2 mS mL).old _ _ ha3
          refine ⟨_, rfl, _, rfl, a, _, rfl, .inl (wo_at ha4), _, _, rfl, rfl, by show 7 ≤ sizeLine; decide, fun r hr => ?_⟩
          have m1 : Ex [] H4 (upd H4 r (.lst [.int 0, .int 1, .int 1, .int 1, .int 2, .int 2, .int (((hs.map V.str).length : Nat) - 1)])) := Ex.new hr
          have hr1 : (upd H4 r (.lst [.int 0, .int 1, .int 1, .int 1, .int 2, .int 2, .int (((hs.map V.str).length : Nat) - 1)])) r = some (.lst [.int 0, .int 1, .int 1, .int 1, .int 2, .int 2, .int (((hs.map V.str).length : Nat) - 1)]) := upd_same
          refine ⟨S, L, r, n + 2 + 61 * i + 60, _, rfl, st4.ex m1, by omega, (st4.ne hr).1, (st4.ne hr).2, hr1, by show 0 < 7; decide, by show 7 < 1000; decide, fun l v H5 hl e5 st5 => ?_⟩
          have hv : ∃ m : Nat, v = .int (m : Nat) := by
            match l, hl with
            | 0, hl => cases hl; exact ⟨0, rfl⟩
            | 1, hl => cases hl; exact ⟨1, rfl⟩
            | 2, hl => cases hl; exact ⟨1, rfl⟩
            | 3, hl => cases hl; exact ⟨1, rfl⟩
            | 4, hl => cases hl; exact ⟨2, rfl⟩
            | 5, hl => cases hl; exact ⟨2, rfl⟩
            | 6, hl => cases hl; exact ⟨(hs.map V.str).length - 1, by rw [List.length_map]; exact congrArg V.int (by omega)⟩
            | l + 7, hl => exact absurd hl (by simp)
          obtain ⟨m, rfl⟩ := hv
          have hq5 := e5.get2 (st3.ne hq0).1 (st3.ne hq0).2 (m1.at hq4)
          refine ⟨_, rfl, q, _, rfl, hq5, fun t ht => ?_⟩
          rw [cut_to, ← List.map_take]
          have m2 : Ex [] H5 (upd H5 t (.lst ((ys.take m).map V.str))) := Ex.new ht
          have e36 : Ex [S, L] H3 (upd H5 t (.lst ((ys.take m).map V.str))) := ((e4.trans m1.any).trans e5).trans m2.any
          have hp6 := e36.get2 hpS.1 hpS.2 hp3
          have e36p := e36.of2 (List.mem_cons_of_mem p mS) (List.mem_cons_of_mem p mL)
          refine ⟨p, acc, _, rfl, rfl, hp6, ?_, ?_⟩
          · have := racc.len
            rw [List.length_map, hbl] at this
            exact Nat.lt_of_le_of_lt (show acc.length ≤ 10 by omega) (by decide)
          have hpn2 : p ∉ [S, L] := by simp [hpS.1, hpS.2]
          have dpA : Dom (p :: A) H5 := fun c hc => by
            rcases List.mem_cons.1 hc with z | hc
            · rw [z, (((e4.trans m1.any).trans e5)).get2 hpS.1 hpS.2 hp3]; simp
            · exact ((e4.trans m1.any).trans e5).dom c (e3.dom c (d0 c hc))
          have hput : Ex [p] (upd H5 t (.lst ((ys.take m).map V.str))) (upd (upd H5 t (.lst ((ys.take m).map V.str))) p (.lst (acc ++ [.ref t]))) := Ex.put (List.mem_cons_self ..) hp6
          refine ⟨_, _, acc ++ [.ref t], bs ++ [ys.take m], rfl, ?_, ?_, upd_same, ?_, by rw [List.length_append, hbl]; rfl, fun b hb => ?_⟩
          · exact (e3.trans e36).putNew hp hp6
          · obtain ⟨xs, aa, mm, cc, z1, z2, z3, z4⟩ := (st5.ex m2).le (show n + 2 + 61 * i + 60 + 1 ≤ n + 2 + 61 * (i + 1) by omega)
            exact ⟨xs, aa, mm, cc, z1, by rw [upd_ne (Ne.symm hpS.1)]; exact z2, by rw [upd_ne (Ne.symm hpS.2)]; exact z3, z4⟩
          · rw [wo_put (List.mem_cons_self ..), List.map_append]
            exact (racc.mono e36p.old).snoc (Rep.ls.mpr ⟨t, rfl, wo_of (dpA.not ht) upd_same⟩)
          · rcases List.mem_append.1 hb with hb | hb
            · exact hbs b hb
            · rw [List.mem_singleton.1 hb]
              exact ⟨(hperm.nodup_iff.mpr hnd).sublist (List.take_sublist _ _), fun z hz => hperm.mem_iff.mp (List.mem_of_mem_take hz)⟩
        · rintro σ H3 ⟨y4, y5, acc, bs, rfl, e3, st3, hp3, racc, hbl, hbs⟩
          refine ⟨_, rfl, k _ bs H3 ⟨by omega, fun b hb => (hbs b hb).1, fun b hb => (hbs b hb).2⟩ (e0.trans e3) (st3.le (by omega)) ⟨p, acc, rfl, wo_of hpA hp3, racc.mono wo_cons⟩⟩
end
end K70
end
section
set_option maxHeartbeats 4000000
/-! The law's own greatest lots. -/
namespace K70
open PySem PySem.Spec PyProof.Rows L2
variable [Tbs]
structure GoodD (d : PyData) : Prop where
  pu : pure_ d = true
  lay : d.canLay0 = true
  dep : d.depth ≤ 9
theorem good_all : ∀ {ds : List PyData}, (∀ d ∈ ds, GoodD d) → pureL ds = true ∧ PyData.canLayAll0 ds = true ∧ PyData.depthAll ds ≤ 9
  | [], _ => ⟨rfl, rfl, by simp [PyData.depthAll]⟩
  | d :: ds, h => by
    obtain ⟨h1, h2, h3⟩ := good_all (ds := ds) fun e he => h e (List.mem_cons_of_mem _ he)
    obtain ⟨g1, g2, g3⟩ := h d (List.mem_cons_self ..)
    refine ⟨?_, ?_, ?_⟩
    · show (pure_ d && pureL ds) = true
      rw [g1, h1]; rfl
    · show (PyData.canLay0 d && PyData.canLayAll0 ds) = true
      rw [g2, h2]; rfl
    · rw [PyData.depthAll]
      omega
theorem datAt_list {A : List Addr} {H : Hp} {ds : List PyData} {v : V} (r : Rep (wo A H) (.list ds) v) (h : ∀ d ∈ ds, GoodD d) : DatAt H (.list ds) v := by
  obtain ⟨h1, h2, h3⟩ := good_all h
  refine ⟨⟨A, r⟩, h1, ?_⟩
  unfold SeqAt.shaped
  rw [show PyData.canLay0 (.list ds) = PyData.canLayAll0 ds by simp [PyData.canLay0], h2]
  have e : (PyData.list ds).depth = PyData.depthAll ds + 1 := by simp [PyData.depth]
  simp only [Bool.true_and, decide_eq_true_eq]
  omega
theorem datAt_good {A : List Addr} {H : Hp} {d : PyData} {v : V} (r : Rep (wo A H) d v) (h : GoodD d) : DatAt H d v := by
  refine ⟨⟨A, r⟩, h.pu, ?_⟩
  unfold SeqAt.shaped
  have := h.dep
  rw [h.lay]
  simp only [Bool.true_and, decide_eq_true_eq]
  omega
theorem good_ls {z : Lot} (h : okLot z) : GoodD (ls z) := ⟨pureL_strs z, by rw [show PyData.canLay0 (ls z) = PyData.canLayAll0 (z.map .str) by simp [PyData.canLay0]]; exact lay_strs h, by have := depth_ls z; omega⟩
theorem good_str {z : Str} (h : PyData.strOk z = true) : GoodD (.str z) := ⟨rfl, by simp [PyData.canLay0, h], by simp [PyData.depth]⟩
def onceDStep (acc : List PyData) (d : PyData) : List PyData := if (acc.any fun z => PyData.eqv z d) = true then acc else acc ++ [d]
def onceD (ds : List PyData) : List PyData := ds.foldl onceDStep []
theorem onceD_snoc (ds : List PyData) (d : PyData) : onceD (ds ++ [d]) = onceDStep (onceD ds) d := by
  unfold onceD
  rw [List.foldl_append]
  rfl
theorem onceD_mem : ∀ (rs : List PyData), (∀ x ∈ onceD rs.reverse, x ∈ rs) ∧ (onceD rs.reverse).length ≤ rs.length
  | [] => ⟨fun x h => by simp [onceD] at h, Nat.le_refl _⟩
  | r :: rs => by
    obtain ⟨h1, h2⟩ := onceD_mem rs
    rw [List.reverse_cons, onceD_snoc]
    unfold onceDStep
    split
    · exact ⟨fun x h => List.mem_cons_of_mem _ (h1 x h), Nat.le_trans h2 (Nat.le_succ _)⟩
    · refine ⟨fun x h => ?_, by rw [List.length_append, List.length_singleton, List.length_cons]; omega⟩
      rcases List.mem_append.1 h with h | h
      · exact List.mem_cons_of_mem _ (h1 x h)
      · rw [List.mem_singleton.mp h]; exact List.mem_cons_self ..
theorem onceD_sub {ds : List PyData} : (∀ x ∈ onceD ds, x ∈ ds) ∧ (onceD ds).length ≤ ds.length := by
  have q := onceD_mem ds.reverse
  rw [List.reverse_reverse, List.length_reverse] at q
  exact ⟨fun x h => by simpa using q.1 x h, q.2⟩
theorem onceD_lots (bs : List Lot) : onceD (bs.map ls) = (once bs).map ls := by
  suffices h : ∀ rs : List Lot, onceD (rs.reverse.map ls) = (once rs.reverse).map ls by
    have q := h bs.reverse
    rw [List.reverse_reverse] at q
    exact q
  intro rs
  induction rs with
  | nil => rfl
  | cons r rs ih =>
    rw [List.reverse_cons, List.map_append, List.map_singleton, onceD_snoc, ih, once_snoc]
    unfold onceDStep onceStep
    rw [any_lss]
    by_cases c : r ∈ once rs.reverse
    · rw [if_pos (decide_eq_true c), if_pos c]
    · rw [decide_eq_false c, if_neg (by simp), if_neg c, List.map_append]
      rfl
theorem any_str (zs : Lot) (z : Str) : ((zs.map PyData.str).any fun d => PyData.eqv d (.str z)) = decide (z ∈ zs) := by
  rw [List.any_map]
  induction zs with
  | nil => simp
  | cons b bs ih =>
    rw [List.any_cons, ih]
    have e : PyData.eqv (.str b) (.str z) = decide (z = b) := by
      simp only [PyData.eqv]
      by_cases h : z = b
      · simp [h]
      · simp [h, Ne.symm h]
    show (PyData.eqv (.str b) (.str z) || _) = _
    rw [e]
    by_cases h : z = b <;> by_cases h2 : z ∈ bs <;> simp [h, h2]
theorem onceD_strs (zs : Lot) : ((onceD (zs.map .str)).length = zs.length ↔ zs.Nodup) := by
  suffices h : ∀ rs : Lot, ∃ ys : Lot, onceD (rs.reverse.map .str) = ys.map .str ∧ (∀ x, x ∈ ys ↔ x ∈ rs) ∧ ys.length ≤ rs.length ∧ (ys.length = rs.length ↔ rs.Nodup) by
    obtain ⟨ys, q1, q2, q3, q4⟩ := h zs.reverse
    rw [List.reverse_reverse] at q1
    rw [q1, List.length_map]
    rw [List.length_reverse] at q4
    rw [q4]
    exact (List.reverse_perm zs).nodup_iff
  intro rs
  induction rs with
  | nil => exact ⟨[], rfl, fun x => Iff.rfl, Nat.le_refl _, by simp⟩
  | cons r rs ih =>
    obtain ⟨ys, q1, q2, q3, q4⟩ := ih
    rw [List.reverse_cons, List.map_append, List.map_singleton, onceD_snoc, q1]
    unfold onceDStep
    rw [any_str]
    by_cases c : r ∈ ys
    · rw [(if_pos (decide_eq_true c))]
      refine ⟨ys, rfl, fun x => ?_, by rw [List.length_cons]; omega, ?_⟩
      · rw [q2, List.mem_cons]
        exact ⟨.inr, fun q => q.elim (fun q => by rw [q]; exact (q2 r).mp c) id⟩
      · rw [List.length_cons, List.nodup_cons]
        exact ⟨fun q => by omega, fun q => absurd ((q2 r).mp c) q.1⟩
    · rw [decide_eq_false c, if_neg (by simp)]
      refine ⟨ys ++ [r], by rw [List.map_append]; rfl, fun x => ?_, by rw [List.length_append, List.length_singleton, List.length_cons]; omega, ?_⟩
      · rw [List.mem_append, List.mem_singleton, q2, List.mem_cons]
        exact ⟨fun q => q.elim .inr .inl, fun q => q.elim .inr .inl⟩
      · rw [List.length_append, List.length_singleton, List.length_cons, List.nodup_cons]
        constructor
        · intro q; exact ⟨fun z => c ((q2 r).mpr z), q4.mp (by omega)⟩
        · intro q; rw [q4.mpr q.2]
section
variable {P : Program} {w : World} {K : PySem.W.Frag} {mg : Str → Option Value} {base : Heap}
def spOnce : Sp := fun vs H Q _ => ∃ A ds v, Dom A H ∧ vs = [v] ∧ Rep (wo A H) (.list ds) v ∧ (∀ d ∈ ds, GoodD d) ∧ ds.length ≤ 1000 ∧ ∀ v H', Ex [] H H' → Rep (wo A H') (.list (onceD ds)) v → Q v H'
theorem ok_wXeachXonce (T : Top K mg base) : FnOk P w K mg base CX0 2 (He.ga K "_law_each_once") (fdOf K (He.ga K "_law_each_once")) ["_law_things"] spOnce := by
  refine T.d_wXeachXonce.ok sc_wXeachXonce (fun vs H Q E h => ?len) (fun cdv A outer s H vs Q E hr h => ⟨_, PSs.nox (pss_cons (ps_set (i := 1) sc_wXeachXonce.nd rfl (Or.inl rfl) (pe_lst pa_nil))
    (pss_cons (ps_for PassesOwn.never rfl (pi_seqA (pv 0)) (pg_name (i := 2) sc_wXeachXonce.nd rfl (Or.inl rfl)) (pss_one (ps_if (pt_cmpR (op_notInR (hu65 hr)) (pv 2) (pv 1) (by rfl)) (pss_one (ps_expr (pe_bm PySem.F.plainAttrs_list PySem.F.slot_list_append PySem.F.type_list_append mt_append (pv 1) (pa_cons (pv 2) pa_nil)))) pss_nil)))
    (pss_one (ps_ret (pv 1))))), ?go⟩)
  case len =>
    obtain ⟨A, ds, v, _, rfl, _⟩ := h
    rfl
  case go =>
    obtain ⟨A, ds, v, dA, rfl, rv, hg, hn, k⟩ := h
    obtain ⟨a, vs, rfl, ha, rL⟩ := rv
    refine ⟨by show 0 ≤ sizeLine; decide, fun p hp => ?_⟩
    have hpA := dA.not hp
    have s0 : Sub (wo A H) (wo (p :: A) (upd H p (.lst []))) := wo_new hp
    have hvl := rL.len
    refine ⟨_, rfl, a, vs, rfl, .inl (wo_at (s0 _ _ ha)), fun J Ok S hok => for_src S (fun i σ H' => ∃ acc y, σ = [some (.ref a), some (.ref p), y] ∧ Ex [] H H' ∧ H' p = some (.lst acc) ∧ RepL (wo (p :: A) H') (onceD (ds.take i)) acc ∧ Sub (wo A H) (wo (p :: A) H'))
      ⟨[], _, rfl, Ex.new hp, upd_same, RepL.nil, s0⟩ (fun i σ H' hi ⟨acc, y, _, e1, _, _, s1⟩ => hok H' ((wo_at (s1 _ _ ha)).trans (wo_at (s0 _ _ ha)).symm)) ?_ ?_⟩
    · rintro i x σ H9 H1 hi ⟨acc, y2, rfl, e1, hp1, racc, s1⟩ ⟨rfl, hx⟩
      obtain ⟨d, hd, rx⟩ := rL.get hx
      have hdm := List.mem_of_getElem? hd
      have rx1 := rx.mono s1
      have htk : ds.take (i + 1) = ds.take i ++ [d] := by rw [List.take_add_one, hd]; rfl
      have hfm : ∀ c ∈ onceD (ds.take i), GoodD c := fun c hc => hg c (List.mem_of_mem_take (onceD_sub.1 c hc))
      refine ⟨_, rfl, _, rfl, d, _, datAt_good rx1 (hg d hdm), datAt_list (A := A) ⟨p, acc, rfl, wo_of hpA hp1, racc.mono wo_cons⟩ hfm, _, rfl, ?_⟩
      by_cases c1 : ((onceD (ds.take i)).any fun z => PyData.eqv z d) = true
      · rw [c1]
        refine iteF ⟨acc, _, rfl, e1, hp1, ?_, s1⟩
        rw [htk, onceD_snoc]
        unfold onceDStep
        rw [if_pos c1]
        exact racc
      · rw [Bool.not_eq_true _ |>.mp c1]
        refine iteT ⟨_, rfl, .inl ⟨rfl, _, SqL.of hp1⟩, _, rfl, p, acc, x, rfl, rfl, hp1, ?_, ?_⟩
        · have h1 := racc.len
          have h2 := (onceD_sub (ds := ds.take i)).2
          rw [List.length_take] at h2
          exact Nat.lt_of_le_of_lt (show acc.length ≤ 1000 by omega) (by decide)
        · refine ⟨acc ++ [x], _, rfl, e1.putNew hp hp1, upd_same, ?_, ?_⟩
          · rw [wo_put (List.mem_cons_self ..), htk, onceD_snoc]
            unfold onceDStep
            rw [if_neg c1]
            exact racc.snoc rx1
          · rw [wo_put (List.mem_cons_self ..)]
            exact s1
    · rintro σ H1 ⟨acc, y2, rfl, e1, hp1, racc, s1⟩
      rw [hvl, List.take_length] at racc
      exact ⟨_, rfl, k _ _ e1 ⟨p, acc, rfl, wo_of hpA hp1, racc.mono wo_cons⟩⟩
end
end K70
end
section
set_option maxHeartbeats 4000000
/-! The law's greatest lots, joined quorums, meetings. -/
namespace K70
open PySem PySem.Spec PyProof.Rows L2
variable [Tbs]
theorem trip_rep {G : Hp} : ∀ {zs : List Lot} {vs : List V}, RepL G (zs.map keyD) vs → ∃ bs : List (Addr × Addr × Lot), vs = bs.map (fun b => V.ref b.1) ∧ bs.map (·.2.2) = zs ∧ ∀ b ∈ bs, G b.1 = some (.tup [.int (b.2.2.length : Nat), .ref b.2.1]) ∧ G b.2.1 = some (.lst (b.2.2.map V.str))
  | [], vs, h => ⟨[], h, rfl, fun b hb => by cases hb⟩
  | z :: zs, vs, ⟨v, r, e, h, t⟩ => by
    obtain ⟨a, ws, e1, h1, h2⟩ := h
    obtain ⟨v1, v2, e2, r1, r2⟩ := h2.two
    obtain ⟨b, e3, h3⟩ := Rep.ls.mp r2
    obtain ⟨bs, e4, e5, h4⟩ := trip_rep t
    refine ⟨(a, b, z) :: bs, by rw [e, e1, e4]; rfl, by rw [List.map_cons, e5], fun c hc => ?_⟩
    rcases List.mem_cons.1 hc with q | hc
    · rw [q]
      refine ⟨?_, h3⟩
      rw [h1, e2, e3, show v1 = .int (z.length : Nat) from r1]
    · exact h4 c hc
theorem sub_upd_new {A : List Addr} {H : Hp} {p : Addr} {o : HO} (h : H p = none) : Sub (wo A H) (wo A (upd H p o)) := (Ex.new h).old
section
variable {P : Program} {w : World} {K : PySem.W.Frag} {mg : Str → Option Value} {base : Heap}
def spOG : Sp := fun vs H Q _ => ∃ A bs v, Dom A H ∧ vs = [v] ∧ Rep (wo A H) (lls bs) v ∧ Lots bs ∧ bs.length ≤ 50 ∧ ∀ v H', Ex [] H H' → Rep (wo A H') (lls (great ([] :: bs.map srt))) v → Q v H'
theorem ok_qXgreatest (T : Top K mg base) : FnOk P w K mg base CX0 4 (He.ga K "_law_o_greatest") (fdOf K (He.ga K "_law_o_greatest")) ["_law_bands"] spOG := by
  have G_wXeachXonce := ok_wXeachXonce (P := P) (w := w) T
  have b_wXeachXonce := bd_wXeachXonce T
  have G_qXliesXin := ok_qXliesXin (P := P) (w := w) T
  have b_qXliesXin := bd_qXliesXin T
  refine T.d_qXgreatest.ok sc_qXgreatest (fun vs H Q E h => ?len) (fun cdv A outer s H vs Q E hr h => ⟨_, PSs.nox (pss_cons (ps_set (i := 1) sc_qXgreatest.nd rfl (Or.inr rfl) (pe_call G_wXeachXonce (hr.mono (by decide)) rfl T.g_wXeachXonce T.d_wXeachXonce.kp b_wXeachXonce .nil pass0 (pa_cons (pe_op op_cat (pe_lc (own := [("_law_band", 5)]) (g := gName 5) (tt := _) rfl sc_qXgreatest.nd (pi_seqA (pv 0)) (blkOk_by (by kernel_rfl)) (fun _ _ _ _ _ => (pg_name (i := 5) sc_qXgreatest.nd rfl (Or.inl rfl))) (fun _ _ _ _ _ => pts_nil) (fun _ _ _ _ _ => (pe_callB cr_sortedQ (by rfl) T.n_sorted (by decide +kernel) (pa_cons (pv 5) pa_nil)))) (pe_lst (pa_cons (pe_lst pa_nil) pa_nil))) pa_nil)))
    (pss_cons (ps_setLc (i := 2) (own := [("_law_x", 3)]) (g := gName 3) (tt := _) rfl sc_qXgreatest.nd rfl rfl (sw_true rfl rfl rfl (by decide +kernel)) (pi_seqA (pv 1)) (blkOk_by (by kernel_rfl)) (fun _ _ _ _ _ => (pg_name (i := 3) sc_qXgreatest.nd rfl (Or.inr rfl))) (fun _ _ _ _ _ => (pts_one (pt_not (pt_val (pe_callB (cr_anyS rfl) (by rfl) T.n_any (by decide +kernel) (pa_cons (pe_lc (own := [("_law_other", 6)]) (g := gName 6) (tt := _) rfl sc_qXgreatest.nd (pi_seqA (pv 1)) (blkOk_by (by kernel_rfl)) (fun _ _ _ _ _ => (pg_name (i := 6) sc_qXgreatest.nd rfl (Or.inl rfl))) (fun _ _ _ _ _ => pts_nil) (fun _ _ _ _ _ => (pe_and (pe_cmpR op_gt (pe_callB call_lenS (by rfl) T.n_len (by decide +kernel) (pa_cons (pv 6) pa_nil)) (pe_callB call_lenS (by rfl) T.n_len (by decide +kernel) (pa_cons (pv 3) pa_nil)) (nomark _)) (pe_one (pe_call G_qXliesXin (hr.mono (by decide)) rfl T.g_qXliesXin T.d_qXliesXin.kp b_qXliesXin .nil pass0 (pa_cons (pv 3) (pa_cons (pv 6) pa_nil))))))) pa_nil)))))) (fun _ _ _ _ _ => (pv 3)))
    (pss_one (ps_ret (pe_lc (own := [("_law_many", 4), ("_law_x", 3)]) (g := gTup K 2 (gCons (gName 4) (gCons (gName 3) gNil))) (tt := _) rfl sc_qXgreatest.nd (pi_seqA (pe_callB (cr_sortedP (hr.mono (by decide))) (by rfl) T.n_sorted (by decide +kernel) (pa_cons (pe_lc (own := [("_law_x", 3)]) (g := gName 3) (tt := _) rfl sc_qXgreatest.nd (pi_seqA (pv 2)) (blkOk_by (by kernel_rfl)) (fun _ _ _ _ _ => (pg_name (i := 3) sc_qXgreatest.nd rfl (Or.inl rfl))) (fun _ _ _ _ _ => pts_nil) (fun _ _ _ _ _ => (pe_tup (pa_cons (pe_callB call_lenS (by rfl) T.n_len (by decide +kernel) (pa_cons (pv 3) pa_nil)) (pa_cons (pv 3) pa_nil))))) pa_nil))) (blkOk_by (by kernel_rfl)) (fun _ _ _ _ _ => (pg_tup rfl (pgs_cons (pg_name (i := 4) sc_qXgreatest.nd rfl (Or.inl rfl)) (pgs_cons (pg_name (i := 3) sc_qXgreatest.nd rfl (Or.inl rfl)) pgs_nil)))) (fun _ _ _ _ _ => pts_nil) (fun _ _ _ _ _ => (pv 3))))))), ?go⟩)
  case len =>
    obtain ⟨A, bs, v, _, rfl, _⟩ := h
    rfl
  case go =>
    obtain ⟨A, bs, v, dA, rfl, rv, hL, hn, k⟩ := h
    obtain ⟨a, vs, rfl, ha, rL⟩ := rv
    have hvl : bs.length = vs.length := by rw [rL.len, List.length_map]
    refine ⟨_, rfl, a, vs, rfl, .inl (wo_at ha), fun J Ok S hok => lc_map S (A := A) bs (fun _ => true) (fun b => ls (srt b)) hvl dA (by omega) (fun H' s => hok H' (seqAt_same (.inl ha) s)) ?_ ?_⟩
    · rintro i z x A1 H9 H1 Kt Kf hz hA d1 s1 e1 ⟨rfl, hx⟩ kt kf
      obtain ⟨b, rfl, hb⟩ := lot_at (rL.mono s1) hx hz
      exact ⟨rfl, _, rfl, b, z, rfl, .inl (wo_at hb), fun q hq => kt rfl _ _ (Ex.new hq) (Rep.ls.mpr ⟨q, rfl, wo_of (d1.not hq) upd_same⟩)⟩
    · intro D H1 hD e1 r1
      rw [List.filter_eq_self.mpr (fun _ _ => rfl)] at r1
      obtain ⟨D', vs1, eD, hD1, rv1⟩ := r1
      obtain rfl : D = D' := by cases eD; rfl
      have hl1 := rv1.len
      rw [List.length_map] at hl1
      have d1 := dA.ex e1
      refine ⟨by show 0 ≤ sizeLine; decide, fun p1 hp1 => ⟨by show 1 ≤ sizeLine; decide, fun p2 hp2 => ?_⟩⟩
      have g1 : Ex [] H1 (upd H1 p1 (.lst [])) := Ex.new hp1
      have g2 : Ex [] (upd H1 p1 (.lst [])) (upd (upd H1 p1 (.lst [])) p2 (.lst [.ref p1])) := Ex.new hp2
      refine ⟨D, p2, vs1, [.ref p1], rfl, rfl, g2.at (g1.at (wo_at hD1)), upd_same, ?_, fun p3 hp3 => ?_⟩
      · exact Nat.le_trans (show vs1.length + 1 ≤ 60 by omega) (by decide)
      have g3 : Ex [] (upd (upd H1 p1 (.lst [])) p2 (.lst [.ref p1])) (upd (upd (upd H1 p1 (.lst [])) p2 (.lst [.ref p1])) p3 (.lst (vs1 ++ [.ref p1]))) := Ex.new hp3
      have g13 := g1.trans (g2.trans g3)
      have d2 := d1.ex (g1.trans g2)
      have elots : bs.map (fun b => ls (srt b)) ++ [ls []] = (bs.map srt ++ [[]]).map ls := by
        rw [List.map_append, List.map_map]
        rfl
      have rep3 : Rep (wo A (upd (upd (upd H1 p1 (.lst [])) p2 (.lst [.ref p1])) p3 (.lst (vs1 ++ [.ref p1])))) (lls (bs.map srt ++ [[]])) (.ref p3) := by
        refine ⟨p3, _, rfl, wo_of (d2.not hp3) upd_same, ?_⟩
        rw [← elots]
        exact (rv1.mono g13.any.old).snoc (Rep.ls.mpr ⟨p1, rfl, wo_of (d1.not hp1) (g3.at (g2.at upd_same))⟩)
      have hkey : ∀ c ∈ bs.map srt ++ [[]], okLot c ∧ c.length ≤ 60 := fun c hc => by
        rcases List.mem_append.1 hc with hc | hc
        · obtain ⟨c', hc', rfl⟩ := List.mem_map.mp hc
          exact ⟨fun y hy => hL.ok c' hc' y (mem_srt.mp hy), by rw [len_srt]; exact hL.len c' hc'⟩
        · rw [List.mem_singleton.1 hc]
          exact ⟨fun y hy => absurd hy (by simp), by decide⟩
      refine ⟨A, _, .ref p3, d1.ex g13, rfl, rep3, fun d hd => ?_, ?_, fun u H4 e4 r4 => ?_⟩
      · obtain ⟨c, hc, rfl⟩ := List.mem_map.mp hd
        exact good_ls (hkey c hc).1
      · rw [List.length_map, List.length_append, List.length_map, List.length_singleton]; omega
      rw [onceD_lots] at r4
      have hOm : ∀ c ∈ ogs bs, okLot c ∧ c.length ≤ 60 := fun c hc => hkey c (once_mem.mp hc)
      have hOl : (ogs bs).length ≤ 51 := by
        have := (once_spec (bs.map srt ++ [[]])).2.2
        rw [List.length_append, List.length_map, List.length_singleton] at this
        show (once (bs.map srt ++ [[]])).length ≤ 51
        omega
      change Rep (wo A H4) (lls (ogs bs)) u at r4
      obtain ⟨a4, vs4, rfl, h4, rL4⟩ := r4
      have d4 := (d1.ex g13).ex e4
      have hvl4 : (ogs bs).length = vs4.length := by rw [rL4.len, List.length_map]
      have e04 := (e1.trans g13).trans e4
      refine ⟨_, rfl, a4, vs4, rfl, .inl (wo_at h4), fun J Ok S hok => lc_map S (A := A) (ogs bs) (big (ogs bs)) ls hvl4 d4 (by omega) (fun H' s => hok H' (seqAt_same (.inl h4) s)) ?_ ?_⟩
      · rintro i z x A1 H9 H5 Kt Kf hz hA d5 s5 e5 ⟨rfl, hx⟩ kt kf
        have hzm := List.mem_of_getElem? hz
        obtain ⟨b, rfl, hb⟩ := lot_at (rL4.mono s5) hx hz
        refine ⟨rfl, _, rfl, a4, vs4, rfl, .inl (wo_at (s5 _ _ h4)), fun J Ok S hok => lc_map S (A := A1) (ogs bs) (fun _ => true) (fun o => .bool (decide (z.length < o.length) && liesB z o)) hvl4 d5 (by omega) (fun H' s => hok H' (seqAt_same (.inl (s5 _ _ h4)) s)) ?_ ?_⟩
        · rintro j o x A2 H9 H6 Kt2 Kf2 ho hA2 d6 s6 e6 ⟨rfl, hx⟩ kt2 kf2
          obtain ⟨c, rfl, hc⟩ := lot_at ((rL4.mono s5).mono s6) hx ho
          have hb6 := s6 _ _ hb
          refine ⟨rfl, _, rfl, c, o.map V.str, rfl, .inl (wo_at hc), _, rfl, b, z.map V.str, rfl, .inl (wo_at hb6), _, _, rfl, rfl, _, rfl, ?_⟩
          rw [List.length_map, List.length_map]
          by_cases c2 : z.length < o.length
          · have c3 : ((z.length : Nat) : Int) < (o.length : Nat) := by omega
            rw [decide_eq_true c3]
            refine iteT ⟨_, rfl, _, rfl, A2, b, c, z, o, d6, rfl, .inl hb6, hc, by have := (hOm z hzm).2; omega, fun H7 e7 => kt2 rfl _ _ e7 ?_⟩
            show V.bl _ = V.bl _
            rw [decide_eq_true c2, Bool.true_and]
          · have c3 : ¬ ((z.length : Nat) : Int) < (o.length : Nat) := by omega
            rw [decide_eq_false c3]
            refine iteF (kt2 rfl _ _ (Ex.refl _ _) ?_)
            show V.bl _ = V.bl _
            rw [decide_eq_false c2, Bool.false_and]
        · intro D2 H6 hD2 e6 r6
          refine ⟨D2, _, rfl, bl_fin r6, _, rfl, ?_⟩
          have eb : ((ogs bs).map fun o => decide (z.length < o.length) && liesB z o).any id = !big (ogs bs) z := by
            unfold big
            rw [Bool.not_not]
          rw [eb]
          by_cases c2 : big (ogs bs) z = true
          · rw [c2]
            exact iteT ⟨_, rfl, kt c2 _ _ e6 (Rep.ls.mpr ⟨b, rfl, (e6.any (A := A1)).old _ _ hb⟩)⟩
          · rw [Bool.not_eq_true _ |>.mp c2]
            exact iteF (kf (Bool.not_eq_true _ |>.mp c2) _ e6)
      · intro D2 H5 hD2 e5 r5
        generalize hfs : (ogs bs).filter (big (ogs bs)) = fs at r5
        have hfm : ∀ c ∈ fs, okLot c ∧ c.length ≤ 60 := fun c hc => by rw [← hfs] at hc; exact hOm c (List.mem_filter.mp hc).1
        have hfl : fs.length ≤ 51 := by
          have := List.length_filter_le (big (ogs bs)) (ogs bs)
          rw [hfs] at this
          omega
        obtain ⟨D3, vs5, eD, h5, rL5⟩ := r5
        obtain rfl : D2 = D3 := by cases eD; rfl
        have d5 := d4.ex e5
        have hvl5 : fs.length = vs5.length := by rw [rL5.len, List.length_map]
        refine ⟨_, rfl, D2, vs5, rfl, .inl (wo_at h5), fun J Ok S hok => lc_map S (A := A) fs (fun _ => true) keyD hvl5 d5 (by omega) (fun H' s => hok H' (seqAt_same (.inl h5) s)) ?_ ?_⟩
        · rintro i z x A1 H9 H6 Kt Kf hz hA d6 s6 e6 ⟨rfl, hx⟩ kt kf
          obtain ⟨b, rfl, hb⟩ := lot_at (rL5.mono s6) hx hz
          refine ⟨rfl, _, rfl, b, z.map V.str, rfl, .inl (wo_at hb), _, rfl, by show 2 ≤ sizeLine; decide, fun q hq => kt rfl _ _ (Ex.new hq) ?_⟩
          rw [List.length_map]
          exact ⟨q, _, rfl, wo_of (d6.not hq) upd_same, .cons rfl (.cons (Rep.ls.mpr ⟨b, rfl, (Ex.new hq).old _ _ hb⟩) .nil)⟩
        · intro D4 H6 hD4 e6 r6
          rw [List.filter_eq_self.mpr (fun _ _ => rfl)] at r6
          obtain ⟨D5, vs6, eD6, h6, rL6⟩ := r6
          obtain rfl : D4 = D5 := by cases eD6; rfl
          obtain ⟨ts, rfl, e7, hts⟩ := trip_rep rL6
          refine ⟨D4, ts, rfl, wo_at h6, fun b hb => ⟨wo_at (hts b hb).1, wo_at (hts b hb).2⟩, fun p hp => ?_⟩
          have e8 : Ex [] H6 (upd H6 p (.lst ((ts.mergeSort fun x y => leK x.2.2 y.2.2).map fun b => V.ref b.1))) := Ex.new hp
          have d6 := d5.ex e6
          have hpw : wo A (upd H6 p (.lst ((ts.mergeSort fun x y => leK x.2.2 y.2.2).map fun b => V.ref b.1))) p = some (.lst ((ts.mergeSort fun x y => leK x.2.2 y.2.2).map fun b => V.ref b.1)) := wo_of (d6.not hp) upd_same
          have hls : (ts.mergeSort fun x y => leK x.2.2 y.2.2).length ≤ 51 := by
            have h1 := congrArg List.length e7
            rw [List.length_map] at h1
            rw [List.length_mergeSort]
            omega
          have emap : (ts.mergeSort fun x y => leK x.2.2 y.2.2).map (fun b => b.2.2) = great ([] :: bs.map srt) := by
            rw [srtK_map (fun b : Addr × Addr × Lot => b.2.2), e7, ← hfs]
            exact og_great bs
          have hmem : ∀ b ∈ ts.mergeSort fun x y => leK x.2.2 y.2.2, b ∈ ts := fun b hb => (List.mergeSort_perm ts _).mem_iff.mp hb
          generalize (ts.mergeSort fun x y => leK x.2.2 y.2.2) = us at e8 hpw hls emap hmem ⊢
          refine ⟨p, _, rfl, .inl (wo_at hpw), fun J Ok S hok => lc_map S (A := A) us (fun _ => true) (fun b => ls b.2.2) (by simp) (d6.ex e8) (by rw [List.length_map]; omega) (fun H' s => hok H' (seqAt_same (.inl hpw) s)) ?_ ?_⟩
          · rintro i b x A1 H9 H7 Kt Kf hb hA d7 s7 e7 ⟨rfl, hx⟩ kt kf
            rw [List.getElem?_map, hb] at hx
            obtain rfl : V.ref b.1 = x := Option.some.inj hx
            obtain ⟨q1, q2⟩ := hts b (hmem b (List.mem_of_getElem? hb))
            have q1' := s7 _ _ (e8.any.old _ _ q1)
            have q2' := s7 _ _ (e8.any.old _ _ q2)
            refine ⟨b.1, _, rfl, SqT.of (wo_at q1'), rfl, _, _, rfl, _, _, rfl, rfl, rfl, _, rfl, kt rfl _ _ (Ex.refl _ _) (Rep.ls.mpr ⟨_, rfl, q2'⟩)⟩
          · intro D7 H7 hD7 e9 r9
            rw [List.filter_eq_self.mpr (fun _ _ => rfl)] at r9
            refine k _ _ ((((e04.trans e5).trans e6).trans e8).trans e9) ?_
            have eq : us.map (fun b => ls b.2.2) = (great ([] :: bs.map srt)).map ls := by
              rw [← emap, List.map_map]
              rfl
            rw [eq] at r9
            exact r9
end
end K70
end
section
set_option maxHeartbeats 4000000
/-! Joined quorums, meetings, the law's first pair. -/
namespace K70
open PySem PySem.Spec PyProof.Rows L2
variable [Tbs]
theorem getL {G : Hp} {α : Type} {f : α → PyData} {bs : List α} {vs : List V} {i : Nat} {x : V} {z : α} (r : RepL G (bs.map f) vs) (hx : vs[i]? = some x) (hz : bs[i]? = some z) : Rep G (f z) x := by
  obtain ⟨d, hd, rd⟩ := r.get hx
  rw [List.getElem?_map, hz] at hd
  obtain rfl : f z = d := Option.some.inj hd
  exact rd
theorem iteT' {b : Bool} {p q : Prop} (c : b = true) (h : p) : if b = true then p else q := by rw [if_pos c]; exact h
theorem iteF' {b : Bool} {p q : Prop} (c : b = false) (h : q) : if b = true then p else q := by rw [c, if_neg (by simp)]; exact h
def meetB (ps qs : List Lot) : Bool := (ps.map fun p => (qs.map fun q => (p.map fun z => decide (z ∈ q)).any id).all id).all id
/-- a hand, or None -/
def optD : Option Str → PyData
  | none => .none
  | some z => .str z
def fpB (hs : Lot) (w r : Option Str) (a b : Lot) : Bool := (hs.map fun x => (decide (x ∈ a) && !decide (some x = w)) || (decide (x ∈ b) && !decide (some x = r))).all id
theorem ne_opt {x : Str} {w : Option Str} {v : V} {G : Hp} (r : Rep G (optD w) v) : scal (.str x) v = true ∧ (!decide (V.str x = v)) = !decide (some x = w) := by
  cases w with
  | none =>
    obtain rfl : v = .non := r
    exact ⟨rfl, rfl⟩
  | some z =>
    obtain rfl : v = .str z := r
    refine ⟨rfl, ?_⟩
    rw [show decide (V.str x = V.str z) = decide (some x = some z) from decide_eq_decide.mpr ⟨fun e => by injection e with e; rw [e], fun e => by injection e with e; rw [e]⟩]
section
variable {P : Program} {w : World} {K : PySem.W.Frag} {mg : Str → Option Value} {base : Heap}
def spJoin : Sp := fun vs H Q _ => ∃ (A : List Addr) (qss : List (List Lot)) (v : V), Dom A H ∧ vs = [v] ∧ Rep (wo A H) (.list (qss.map lls)) v ∧ (∀ qs ∈ qss, (∀ q ∈ qs, okLot q) ∧ qs.length ≤ 100) ∧ qss.length ≤ 10 ∧ ∀ v js H', Ex [] H H' → (∀ x, x ∈ js ↔ ∃ qs ∈ qss, x ∈ qs) → js.length ≤ 1000 → Rep (wo A H') (lls js) v → Q v H'
theorem ok_qXjoined (T : Top K mg base) : FnOk P w K mg base CX0 2 (He.ga K "_law_o_joined") (fdOf K (He.ga K "_law_o_joined")) ["_law_lots"] spJoin := by
  refine T.d_qXjoined.ok sc_qXjoined (fun vs H Q E h => ?len) (fun cdv A outer s H vs Q E hr h => ⟨_, PSs.nox (pss_cons (ps_set (i := 1) sc_qXjoined.nd rfl (Or.inr rfl) (pe_lst pa_nil))
    (pss_cons (ps_for PassesOwn.never rfl (pi_seqA (pv 0)) (pg_name (i := 2) sc_qXjoined.nd rfl (Or.inl rfl)) (pss_one (ps_expr (pe_bm PySem.F.plainAttrs_list PySem.F.slot_list_extend PySem.F.type_list_extend mt_extend (pv 1) (pa_cons (pe_lc (own := [("_law_one", 3)]) (g := gName 3) (tt := _) rfl sc_qXjoined.nd (pi_seqA (pv 2)) (blkOk_by (by kernel_rfl)) (fun _ _ _ _ _ => (pg_name (i := 3) sc_qXjoined.nd rfl (Or.inl rfl))) (fun _ _ _ _ _ => (pts_one (pt_cmpR (op_notInR (hu65 hr)) (pv 3) (pv 1) (by rfl)))) (fun _ _ _ _ _ => (pv 3))) pa_nil)))))
    (pss_one (ps_ret (pv 1))))), ?go⟩)
  case len =>
    obtain ⟨A, qss, v, _, rfl, _⟩ := h
    rfl
  case go =>
    obtain ⟨A, qss, v, dA, rfl, rv, hq, hn, k⟩ := h
    obtain ⟨a, vs, rfl, ha, rL⟩ := rv
    have hvl : qss.length = vs.length := by rw [rL.len, List.length_map]
    refine ⟨by show 0 ≤ sizeLine; decide, fun p hp => ?_⟩
    have hpA := dA.not hp
    have s0 : Sub (wo A H) (wo (p :: A) (upd H p (.lst []))) := wo_new hp
    refine ⟨_, rfl, a, vs, rfl, .inl (wo_at (s0 _ _ ha)), fun J Ok S hok => for_src S (fun i σ H' => ∃ acc js y4 y5, σ = [some (.ref a), some (.ref p), y4, y5] ∧ Ex [] H H' ∧ H' p = some (.lst acc) ∧ RepL (wo (p :: A) H') (js.map ls) acc ∧ Sub (wo A H) (wo (p :: A) H') ∧ (∀ x, x ∈ js ↔ ∃ qs ∈ qss.take i, x ∈ qs) ∧ js.length ≤ 100 * i)
      ⟨[], [], _, _, rfl, Ex.new hp, upd_same, RepL.nil, s0, fun x => by simp, Nat.le_refl _⟩ (fun i σ H' hi ⟨acc, js, y4, y5, _, e1, _, _, s1, _⟩ => hok H' ((wo_at (s1 _ _ ha)).trans (wo_at (s0 _ _ ha)).symm)) ?_ ?_⟩
    · rintro i x σ H9 H1 hi ⟨acc, js, y4, y5, rfl, e1, hp1, racc, s1, hjs, hjl⟩ ⟨rfl, hx⟩
      have hz : qss[i]? = some qss[i] := by simp [hvl ▸ hi]
      generalize qss[i] = qs at hz
      have hzm := List.mem_of_getElem? hz
      obtain ⟨hok1, hl1⟩ := hq qs hzm
      obtain ⟨b, ws, rfl, hb, rq⟩ := getL rL hx hz
      have hb1 := s1 _ _ hb
      have rq1 := rq.mono s1
      have hql : qs.length = ws.length := by rw [rq.len, List.length_map]
      have d1 : Dom (p :: A) H1 := fun c hc => by
        rcases List.mem_cons.mp hc with q | q
        · rw [q, hp1]; simp
        · exact e1.dom c (dA c q)
      have hjok : ∀ c ∈ js, okLot c := fun c hc => by
        obtain ⟨qs', h1, h2⟩ := (hjs c).mp hc
        exact (hq qs' (List.mem_of_mem_take h1)).1 c h2
      refine ⟨_, rfl, .inl ⟨rfl, _, SqL.of hp1⟩, _, rfl, b, ws, rfl, .inl (wo_at hb1), fun J Ok S hok => lc_map S (A := p :: A) qs (fun c => !decide (c ∈ js)) ls hql d1 (by omega) (fun H' s => hok H' (seqAt_same (.inl hb1) s)) ?_ ?_⟩
      · rintro j z x A1 H9 H2 Kt Kf hz hA d2 s2 e2 ⟨rfl, hx⟩ kt kf
        obtain ⟨c, rfl, hc⟩ := lot_at (rq1.mono s2) hx hz
        refine ⟨rfl, _, rfl, _, rfl, ls z, _, datAt_ls (Rep.ls.mpr ⟨c, rfl, hc⟩) (hok1 z (List.mem_of_getElem? hz)), datAt_lls (A := A) ⟨p, acc, rfl, wo_of hpA (e2.at hp1), (racc.mono (e2.any (A := p :: A)).old).mono wo_cons⟩ hjok, !decide (z ∈ js), by rw [any_lss]; rfl, ?_⟩
        by_cases c1 : z ∈ js
        · rw [decide_eq_true c1]
          exact iteF (kf (by rw [decide_eq_true c1]; rfl) _ (Ex.refl _ _))
        · rw [decide_eq_false c1]
          exact iteT ⟨_, rfl, kt (by rw [decide_eq_false c1]; rfl) _ _ (Ex.refl _ _) (Rep.ls.mpr ⟨c, rfl, hc⟩)⟩
      · intro D H2 hD e2 r2
        obtain ⟨D', us, eD, hD2, rL2⟩ := r2
        obtain rfl : D = D' := by cases eD; rfl
        have hp2 := e2.at hp1
        have hfl := List.length_filter_le (fun c => !decide (c ∈ js)) qs
        have hul := rL2.len
        rw [List.length_map] at hul
        have hal := racc.len
        rw [List.length_map] at hal
        have hul2 : us.length ≤ 100 := by
          rw [hul]
          exact Nat.le_trans (List.length_filter_le _ _) hl1
        have hfl2 : (qs.filter fun c => !decide (c ∈ js)).length ≤ 100 := Nat.le_trans (List.length_filter_le _ _) hl1
        refine ⟨p, D, acc, us, rfl, rfl, hp2, wo_at hD2, ?_, ?_⟩
        · exact Nat.le_trans (show acc.length + us.length ≤ 10000 by omega) (by decide)
        refine ⟨acc ++ us, js ++ qs.filter (fun c => !decide (c ∈ js)), _, _, rfl, (e1.trans e2).putNew hp hp2, upd_same, ?_, ?_, fun x => ?_, by rw [List.length_append]; omega⟩
        · rw [wo_put (List.mem_cons_self ..), List.map_append]
          exact (racc.mono (e2.any (A := p :: A)).old).app rL2
        · rw [wo_put (List.mem_cons_self ..)]
          exact s1.trans (e2.any (A := p :: A)).old
        · rw [List.mem_append, List.mem_filter, List.take_add_one, hz]
          constructor
          · rintro (q | ⟨q, _⟩)
            · obtain ⟨qs', h1, h2⟩ := (hjs x).mp q
              exact ⟨qs', List.mem_append.mpr (.inl h1), h2⟩
            · exact ⟨qs, List.mem_append.mpr (.inr (List.mem_singleton.mpr rfl)), q⟩
          · rintro ⟨qs', h1, h2⟩
            by_cases c : x ∈ js
            · exact .inl c
            · rcases List.mem_append.mp h1 with h1 | h1
              · exact .inl ((hjs x).mpr ⟨qs', h1, h2⟩)
              · rw [List.mem_singleton.mp h1] at h2
                exact .inr ⟨h2, by simp [c]⟩
    · rintro σ H1 ⟨acc, js, y4, y5, rfl, e1, hp1, racc, s1, hjs, hjl⟩
      rw [← hvl, List.take_length] at hjs
      exact ⟨_, rfl, k _ js _ e1 hjs (by omega) ⟨p, acc, rfl, wo_of hpA hp1, racc.mono wo_cons⟩⟩
def spMeet : Sp := fun vs H Q _ => ∃ A ps qs v1 v2, Dom A H ∧ vs = [v1, v2] ∧ Rep (wo A H) (lls ps) v1 ∧ Rep (wo A H) (lls qs) v2 ∧ ps.length ≤ 1000 ∧ qs.length ≤ 1000 ∧ (∀ p ∈ ps, p.length ≤ 1000) ∧ ∀ H', Ex [] H H' → Q (.bl (meetB ps qs)) H'
theorem ok_wXdoXmeet (T : Top K mg base) : FnOk P w K mg base CX0 2 (He.ga K "_law_do_meet") (fdOf K (He.ga K "_law_do_meet")) ["_law_some", "_law_others"] spMeet := by
  refine T.d_wXdoXmeet.ok sc_wXdoXmeet (fun vs H Q E h => ?len) (fun cdv A outer s H vs Q E hr h => ⟨_, PSs.nox (pss_one (ps_ret (pe_callB (cr_allS rfl) (by rfl) T.n_all (by decide +kernel) (pa_cons (pe_lc (own := [("_law_one", 2)]) (g := gName 2) (tt := _) rfl sc_wXdoXmeet.nd (pi_seqA (pv 0)) (blkOk_by (by kernel_rfl)) (fun _ _ _ _ _ => (pg_name (i := 2) sc_wXdoXmeet.nd rfl (Or.inr rfl))) (fun _ _ _ _ _ => pts_nil) (fun _ _ _ _ _ => (pe_callB (cr_allS rfl) (by rfl) T.n_all (by decide +kernel) (pa_cons (pe_lc (own := [("_law_other", 3)]) (g := gName 3) (tt := _) rfl sc_wXdoXmeet.nd (pi_seqA (pv 1)) (blkOk_by (by kernel_rfl)) (fun _ _ _ _ _ => (pg_name (i := 3) sc_wXdoXmeet.nd rfl (Or.inr rfl))) (fun _ _ _ _ _ => pts_nil) (fun _ _ _ _ _ => (pe_callB (cr_anyS rfl) (by rfl) T.n_any (by decide +kernel) (pa_cons (pe_lc (own := [("_law_hand", 4)]) (g := gName 4) (tt := _) rfl sc_wXdoXmeet.nd (pi_seqA (pv 2)) (blkOk_by (by kernel_rfl)) (fun _ _ _ _ _ => (pg_name (i := 4) sc_wXdoXmeet.nd rfl (Or.inl rfl))) (fun _ _ _ _ _ => pts_nil) (fun _ _ _ _ _ => (pe_cmpR op_inS (pv 4) (pv 3) (by rfl)))) pa_nil)))) pa_nil)))) pa_nil)))), ?go⟩)
  case len =>
    obtain ⟨A, ps, qs, v1, v2, _, rfl, _⟩ := h
    rfl
  case go =>
    obtain ⟨A, ps, qs, v1, v2, dA, rfl, r1, r2, hl1, hl2, hpl, k⟩ := h
    obtain ⟨a, vs, rfl, ha, ra⟩ := r1
    obtain ⟨b, us, rfl, hb, rb⟩ := r2
    have hvl : ps.length = vs.length := by rw [ra.len, List.length_map]
    have hul : qs.length = us.length := by rw [rb.len, List.length_map]
    refine ⟨_, rfl, a, vs, rfl, .inl (wo_at ha), fun J Ok S hok => lc_map S (A := A) ps (fun _ => true) (fun p => .bool ((qs.map fun q => (p.map fun z => decide (z ∈ q)).any id).all id)) hvl dA (by omega) (fun H' s => hok H' (seqAt_same (.inl ha) s)) ?_ ?_⟩
    · rintro i p x A1 H9 H1 Kt Kf hp hA d1 s1 e1 ⟨rfl, hx⟩ kt kf
      obtain ⟨c, rfl, hc⟩ := lot_at (ra.mono s1) hx hp
      have hpm := hpl p (List.mem_of_getElem? hp)
      refine ⟨rfl, _, rfl, b, us, rfl, .inl (wo_at (s1 _ _ hb)), fun J Ok S hok => lc_map S (A := A1) qs (fun _ => true) (fun q => .bool ((p.map fun z => decide (z ∈ q)).any id)) hul d1 (by omega) (fun H' s => hok H' (seqAt_same (.inl (s1 _ _ hb)) s)) ?_ ?_⟩
      · rintro j q x A2 H9 H2 Kt2 Kf2 hq hA2 d2 s2 e2 ⟨rfl, hx⟩ kt2 kf2
        obtain ⟨d, rfl, hd⟩ := lot_at ((rb.mono s1).mono s2) hx hq
        have hc2 := s2 _ _ hc
        refine ⟨rfl, _, rfl, c, _, rfl, .inl (wo_at hc2), fun J Ok S hok => lc_map S (A := A2) p (fun _ => true) (fun z => .bool (decide (z ∈ q))) (by simp) d2 (by rw [List.length_map]; omega) (fun H' s => hok H' (seqAt_same (.inl hc2) s)) ?_ ?_⟩
        · rintro l z x A3 H9 H3 Kt3 Kf3 hz hA3 d3 s3 e3 ⟨rfl, hx⟩ kt3 kf3
          obtain rfl := str_at hz hx
          refine ⟨rfl, _, rfl, _, rfl, d, q.map V.str, rfl, .inl (wo_at (s3 _ _ hd)), rfl, flat_strs, kt3 rfl _ _ (Ex.refl _ _) ?_⟩
          rw [inV_strs]
          rfl
        · intro D H3 hD e3 r3
          exact ⟨D, _, rfl, bl_fin r3, kt2 rfl _ _ e3 rfl⟩
      · intro D H2 hD e2 r2
        exact ⟨D, _, rfl, bl_fin r2, kt rfl _ _ e2 rfl⟩
    · intro D H1 hD e1 r1
      exact ⟨D, _, rfl, bl_fin r1, k _ e1⟩
def spFP : Sp := fun vs H Q _ => ∃ A hs gs w r a v2 v3 v4, Dom A H ∧ vs = [.ref a, v2, v3, v4] ∧ wo A H a = some (.lst (hs.map V.str)) ∧ Rep (wo A H) (lls gs) v2 ∧ Rep (wo A H) (optD w) v3 ∧ Rep (wo A H) (optD r) v4 ∧ hs.length ≤ 1000 ∧ ∀ v H', Ex [] H H' → Rep (wo A H') (pairD (firstPair (fpB hs w r) gs)) v → Q v H'
theorem ok_wXfirstXpair (T : Top K mg base) : FnOk P w K mg base CX0 2 (He.ga K "_law_first_pair") (fdOf K (He.ga K "_law_first_pair")) ["_law_hands_here", "_law_bands", "_law_writer", "_law_reader"] spFP := by
  refine T.d_wXfirstXpair.ok sc_wXfirstXpair (fun vs H Q E h => ?len) (fun cdv A outer s H vs Q E hr h => ⟨_, PSs.nox (pss_cons (ps_for PassesOwn.never rfl (pi_seqA (pv 1)) (pg_name (i := 4) sc_wXfirstXpair.nd rfl (Or.inr rfl)) (pss_one (ps_for PassesOwn.never rfl (pi_seqA (pv 1)) (pg_name (i := 5) sc_wXfirstXpair.nd rfl (Or.inr rfl)) (pss_one (ps_if (pt_val (pe_callB (cr_allS rfl) (by rfl) T.n_all (by decide +kernel) (pa_cons (pe_lc (own := [("_law_x", 6)]) (g := gName 6) (tt := _) rfl sc_wXfirstXpair.nd (pi_seqA (pv 0)) (blkOk_by (by kernel_rfl)) (fun _ _ _ _ _ => (pg_name (i := 6) sc_wXfirstXpair.nd rfl (Or.inl rfl))) (fun _ _ _ _ _ => pts_nil) (fun _ _ _ _ _ => (pe_or (pe_and (pe_cmpR op_inS (pv 6) (pv 4) (by rfl)) (pe_one (pe_cmpR op_ne (pv 6) (pv 2) (nomark _)))) (pe_one (pe_and (pe_cmpR op_inS (pv 6) (pv 5) (by rfl)) (pe_one (pe_cmpR op_ne (pv 6) (pv 3) (nomark _)))))))) pa_nil))) (pss_one (ps_ret (pe_tup (pa_cons (pe_callTy call_tupleS (by rfl) T.n_tuple (by decide +kernel) (pa_cons (pv 4) pa_nil)) (pa_cons (pe_callTy call_tupleS (by rfl) T.n_tuple (by decide +kernel) (pa_cons (pv 5) pa_nil)) pa_nil))))) pss_nil)))))
    (pss_one (ps_ret pe_non))), ?go⟩)
  case len =>
    obtain ⟨A, hs, gs, w, r, a, v2, v3, v4, _, rfl, _⟩ := h
    rfl
  case go =>
    obtain ⟨A, hs, gs, wr, rd, a, v2, v3, v4, dA, rfl, ha, r2, r3, r4, hn, k⟩ := h
    obtain ⟨b, us, rfl, hb, rb⟩ := r2
    have hul : us.length = gs.length := by rw [rb.len, List.length_map]
    refine ⟨_, rfl, b, us, rfl, .inl (wo_at hb), fun J Ok S hok => for_src S (fun i σ H' => ∃ y1 y2 y3, σ = [some (.ref a), some (.ref b), some v3, some v4, y1, y2, y3] ∧ Ex [] H H' ∧ firstPair (fpB hs wr rd) gs = (gs.drop i).findSome? fun a => (gs.find? (fpB hs wr rd a)).map fun b => (a, b))
      ⟨_, _, _, rfl, Ex.refl _ _, rfl⟩ (fun i σ H' hi ⟨_, _, _, _, e2, _⟩ => hok H' ((e2.at (wo_at hb)).trans (wo_at hb).symm)) ?_ ?_⟩
    · rintro i y σ H9 H2 hi ⟨y1, y2, y3, rfl, e2, hgo⟩ ⟨rfl, hy⟩
      have hz : gs[i]? = some gs[i] := by simp [hul ▸ hi]
      generalize gs[i] = z at hz
      obtain ⟨c, rfl, hc⟩ := lot_at rb hy hz
      rw [drop_at hz, List.findSome?_cons] at hgo
      have hb2 := e2.at (wo_at hb)
      refine ⟨_, rfl, b, us, rfl, .inl hb2, fun J Ok S hok => for_src S (fun i σ H' => ∃ y2 y3, σ = [some (.ref a), some (.ref b), some v3, some v4, some (.ref c), y2, y3] ∧ Ex [] H2 H' ∧ gs.find? (fpB hs wr rd z) = (gs.drop i).find? (fpB hs wr rd z))
        ⟨_, _, rfl, Ex.refl _ _, rfl⟩ (fun i σ H' hi ⟨_, _, _, e4, _⟩ => hok H' ((e4.at hb2).trans hb2.symm)) ?_ ?_⟩
      · rintro j y' σ H9 H4 hj ⟨y2, y3, rfl, e4, hgo2⟩ ⟨rfl, hy2⟩
        have hz2 : gs[j]? = some gs[j] := by simp [hul ▸ hj]
        generalize gs[j] = z2 at hz2
        obtain ⟨d, rfl, hd⟩ := lot_at rb hy2 hz2
        rw [drop_at hz2, List.find?_cons] at hgo2
        have e04 := e2.trans e4
        have s4 := (e04.any (A := A)).old
        have d4 : Dom A H4 := dA.ex e04
        have ha4 := s4 _ _ ha
        have hc4 := s4 _ _ hc
        have hd4 := s4 _ _ hd
        refine ⟨_, rfl, a, _, rfl, .inl (wo_at ha4), fun J Ok S hok => lc_map S (A := A) hs (fun _ => true) (fun x => .bool ((decide (x ∈ z) && !decide (some x = wr)) || (decide (x ∈ z2) && !decide (some x = rd)))) (by simp) d4 (by rw [List.length_map]; omega) (fun H' s => hok H' (seqAt_same (.inl ha4) s)) ?_ ?_⟩
        · rintro l x xv A1 H9 H5 Kt Kf hx hA d5 s5 e5 ⟨rfl, hxv⟩ kt kf
          obtain rfl := str_at hx hxv
          obtain ⟨n3, m3⟩ := ne_opt (x := x) r3
          obtain ⟨n4, m4⟩ := ne_opt (x := x) r4
          have second : ∀ Q2 : VK, (Q2 (.bl (decide (x ∈ z2) && !decide (some x = rd))) H5) → Q2 (.bl (decide (x ∈ z2) && !decide (some x = rd))) H5 := fun _ q => q
          refine ⟨rfl, _, rfl, _, rfl, c, z.map V.str, rfl, .inl (wo_at (s5 _ _ hc4)), rfl, flat_strs, decide (x ∈ z), by rw [inV_strs]; rfl, ?_⟩
          by_cases q1 : x ∈ z
          · rw [decide_eq_true q1]
            refine iteT ⟨_, rfl, _, rfl, n3, _, rfl, ?_⟩
            rw [m3]
            by_cases q2 : some x = wr
            · rw [decide_eq_true q2]
              refine iteF ⟨_, rfl, _, rfl, d, z2.map V.str, rfl, .inl (wo_at (s5 _ _ hd4)), rfl, flat_strs, decide (x ∈ z2), by rw [inV_strs]; rfl, ?_⟩
              by_cases q3 : x ∈ z2
              · rw [decide_eq_true q3]
                refine iteT ⟨_, rfl, _, rfl, n4, ?_⟩
                rw [m4]
                refine kt rfl _ _ (Ex.refl _ _) ?_
                show V.bl _ = V.bl _
                rw [decide_eq_true q1, decide_eq_true q2, decide_eq_true q3]
                rfl
              · rw [decide_eq_false q3]
                refine iteF (kt rfl _ _ (Ex.refl _ _) ?_)
                show V.bl _ = V.bl _
                rw [decide_eq_true q1, decide_eq_true q2, decide_eq_false q3]
                rfl
            · rw [decide_eq_false q2]
              refine iteT (kt rfl _ _ (Ex.refl _ _) ?_)
              show V.bl _ = V.bl _
              rw [decide_eq_true q1, decide_eq_false q2]
              rfl
          · rw [decide_eq_false q1]
            refine iteF ⟨_, rfl, iteF ⟨_, rfl, _, rfl, d, z2.map V.str, rfl, .inl (wo_at (s5 _ _ hd4)), rfl, flat_strs, decide (x ∈ z2), by rw [inV_strs]; rfl, ?_⟩⟩
            by_cases q3 : x ∈ z2
            · rw [decide_eq_true q3]
              refine iteT ⟨_, rfl, _, rfl, n4, ?_⟩
              rw [m4]
              refine kt rfl _ _ (Ex.refl _ _) ?_
              show V.bl _ = V.bl _
              rw [decide_eq_false q1, decide_eq_true q3]
              rfl
            · rw [decide_eq_false q3]
              refine iteF (kt rfl _ _ (Ex.refl _ _) ?_)
              show V.bl _ = V.bl _
              rw [decide_eq_false q1, decide_eq_false q3]
              rfl
        · intro D H5 hD e5 r5
          refine ⟨D, _, rfl, bl_fin r5, _, rfl, ?_⟩
          by_cases cc : fpB hs wr rd z z2 = true
          · rw [cc] at hgo2
            refine iteT' cc ?_
            have hc5 := e5.at (wo_at hc4)
            refine ⟨_, rfl, c, _, rfl, hc5, fun q1 hq1 => ?_⟩
            have hd5 := (Ex.new (o := .tup (z.map V.str)) hq1 : Ex [] H5 _).at (e5.at (wo_at hd4))
            refine ⟨_, rfl, d, _, rfl, hd5, fun q2 hq2 => ⟨by show 2 ≤ sizeLine; decide, fun q3 hq3 => ?_⟩⟩
            obtain ⟨e6, r6⟩ := rep_pair (d4.ex e5) hq1 hq2 hq3
            refine k _ _ ((e04.trans e5).trans e6) ?_
            rw [hgo, hgo2]
            exact r6
          · rw [Bool.not_eq_true _ |>.mp cc] at hgo2
            refine iteF' (Bool.not_eq_true _ |>.mp cc) ⟨_, _, rfl, e4.trans e5, hgo2⟩
      · rintro σ H4 ⟨y2, y3, rfl, e4, hgo2⟩
        have hdr : gs.drop us.length = [] := by rw [hul]; exact List.drop_length
        rw [hdr] at hgo2
        rw [hgo2] at hgo
        exact ⟨_, _, _, rfl, e2.trans e4, hgo⟩
    · rintro σ H2 ⟨y1, y2, y3, rfl, e2, hgo⟩
      have hdr : gs.drop us.length = [] := by rw [hul]; exact List.drop_length
      rw [hdr] at hgo
      refine k _ _ e2 ?_
      rw [hgo]
      rfl
end
end K70
end
section
set_option maxHeartbeats 4000000
/-! The law's quorums. -/
namespace K70
open PySem PySem.Spec PyProof.Rows L2
variable [Tbs]
def testB (bits at_ : Nat) : Bool := decide (Builtin.bitAnd ((bits : Int) / 2 ^ at_) 1 = 1)
def pickB (bits : Nat) (hs : Lot) : Lot := (hs.zipIdx.filter fun p => testB bits p.2).map (·.1)
def condB (hs : Lot) (gs : List Lot) (h : Str) (x : Lot) : Bool := decide (h ∈ x) && (gs.map fun g => liesB (hs.filter fun z => !decide (z ∈ x)) g).any id
theorem testB_eq (bits i : Nat) : testB bits i = decide (bits / 2 ^ i % 2 = 1) := by
  unfold testB
  have e : (bits : Int) / 2 ^ i = ((bits / 2 ^ i : Nat) : Int) := by
    rw [Int.natCast_ediv]
    congr 1
  rw [e, bitAnd_pp (Int.natCast_nonneg _) (by decide)]
  have e2 : (((bits / 2 ^ i : Nat) : Int).toNat &&& (1 : Int).toNat) = bits / 2 ^ i % 2 := by
    rw [Int.toNat_natCast]
    exact Nat.and_one_is_mod _
  rw [e2]
  exact decide_eq_decide.mpr ⟨fun h => by omega, fun h => by omega⟩
theorem idx_at {α : Type} {hs : List α} {i : Nat} {p : α × Nat} (h : hs.zipIdx[i]? = some p) : hs[i]? = some p.1 ∧ p.2 = i := by
  rw [List.getElem?_zipIdx] at h
  cases q : hs[i]? with
  | none => rw [q] at h; cases h
  | some z =>
    rw [q] at h
    have h : some (z, 0 + i) = some p := h
    rw [← Option.some.inj h]
    exact ⟨rfl, by simp⟩
section
variable {P : Program} {w : World} {K : PySem.W.Frag} {mg : Str → Option Value} {base : Heap}
def spQuo : Sp := fun vs H Q _ => ∃ (A : List Addr) (hs : Lot) (gs : List Lot) (h : Str) (a : Addr) (v : V), Dom A H ∧ vs = [.ref a, v, .str h] ∧ wo A H a = some (.lst (hs.map V.str)) ∧ Rep (wo A H) (lls gs) v ∧ hs.length ≤ 6 ∧ gs.length ≤ 1000 ∧ okLot hs ∧
  ∀ v qs H', Ex [] H H' → (∀ x, x ∈ qs ↔ ∃ b, b < 2 ^ hs.length ∧ x = pickB b hs ∧ condB hs gs h x = true) → qs.length ≤ 2 ^ hs.length → Rep (wo A H') (lls qs) v → Q v H'
theorem ok_qXquorums (T : Top K mg base) : FnOk P w K mg base CX0 3 (He.ga K "_law_o_quorums") (fdOf K (He.ga K "_law_o_quorums")) ["_law_hands_here", "_law_bands", "_law_hand"] spQuo := by
  have G_qXliesXin := ok_qXliesXin (P := P) (w := w) T
  have b_qXliesXin := bd_qXliesXin T
  refine T.d_qXquorums.ok sc_qXquorums (fun vs H Q E h => ?len) (fun cdv A outer s H vs Q E hr h => ⟨_, PSs.nox (pss_cons (ps_set (i := 3) sc_qXquorums.nd rfl (Or.inl rfl) (pe_lst pa_nil))
    (pss_cons (ps_for PassesOwn.never rfl (pi_range1 rfl T.n_range (pa_cons (pe_op op_shl pe_int (pe_callB call_lenS (by rfl) T.n_len (by decide +kernel) (pa_cons (pv 0) pa_nil))) pa_nil)) (pg_name (i := 4) sc_qXquorums.nd rfl (Or.inr rfl)) (pss_cons (ps_set (i := 5) sc_qXquorums.nd rfl (Or.inr rfl) (pe_lc (own := [("_law_at", 7), ("_law_one", 8)]) (g := gTup K 2 (gCons (gName 7) (gCons (gName 8) gNil))) (tt := _) rfl sc_qXquorums.nd (pi_enumB rfl T.n_enumerate (pa_cons (pv 0) pa_nil)) (blkOk_by (by kernel_rfl)) (fun _ _ _ _ _ => (pg_tup rfl (pgs_cons (pg_name (i := 7) sc_qXquorums.nd rfl (Or.inl rfl)) (pgs_cons (pg_name (i := 8) sc_qXquorums.nd rfl (Or.inl rfl)) pgs_nil)))) (fun _ _ _ _ _ => (pts_one (pt_cmpR op_eq (pe_op op_and (pe_op op_shr (pv 4) (pv 7)) pe_int) pe_int (nomark _)))) (fun _ _ _ _ _ => (pv 8))))
    (pss_cons (ps_set (i := 6) sc_qXquorums.nd rfl (Or.inr rfl) (pe_lc (own := [("_law_one", 8)]) (g := gName 8) (tt := _) rfl sc_qXquorums.nd (pi_seqA (pv 0)) (blkOk_by (by kernel_rfl)) (fun _ _ _ _ _ => (pg_name (i := 8) sc_qXquorums.nd rfl (Or.inl rfl))) (fun _ _ _ _ _ => (pts_one (pt_cmpR op_notInS (pv 8) (pv 5) (by rfl)))) (fun _ _ _ _ _ => (pv 8))))
    (pss_one (ps_if (PW.pt (pw_and (pt_cmpR op_inS (pv 2) (pv 5) (by rfl)) (pw_and1 (pt_val (pe_callB (cr_anyS rfl) (by rfl) T.n_any (by decide +kernel) (pa_cons (pe_lc (own := [("_law_band", 9)]) (g := gName 9) (tt := _) rfl sc_qXquorums.nd (pi_seqA (pv 1)) (blkOk_by (by kernel_rfl)) (fun _ _ _ _ _ => (pg_name (i := 9) sc_qXquorums.nd rfl (Or.inl rfl))) (fun _ _ _ _ _ => pts_nil) (fun _ _ _ _ _ => (pe_call G_qXliesXin (hr.mono (by decide)) rfl T.g_qXliesXin T.d_qXliesXin.kp b_qXliesXin .nil pass0 (pa_cons (pv 6) (pa_cons (pv 9) pa_nil))))) pa_nil)))))) (pss_one (ps_expr (pe_bm PySem.F.plainAttrs_list PySem.F.slot_list_append PySem.F.type_list_append mt_append (pv 3) (pa_cons (pv 5) pa_nil)))) pss_nil)))))
    (pss_one (ps_ret (pv 3))))), ?go⟩)
  case len =>
    obtain ⟨A, hs, gs, h, a, v, _, rfl, _⟩ := h
    rfl
  case go =>
    obtain ⟨A, hs, gs, hand, a, v, dA, rfl, ha, rv, hn, hgl, hok, k⟩ := h
    obtain ⟨g, us, rfl, hg, rg⟩ := rv
    have hul : gs.length = us.length := by rw [rg.len, List.length_map]
    refine ⟨by show 0 ≤ sizeLine; decide, fun p hp => ?_⟩
    have hpA := dA.not hp
    have s0 : Sub (wo A H) (wo (p :: A) (upd H p (.lst []))) := wo_new hp
    have hp64 : 2 ^ hs.length ≤ 64 := Nat.pow_le_pow_right (by decide) hn
    generalize hm : 2 ^ hs.length = m at hp64 k
    have e64 : ((1 : Int) * 2 ^ (((hs.map V.str).length : Nat) : Int).toNat) = ((m : Nat) : Int) := by
      rw [← hm, Int.toNat_natCast, List.length_map, Int.one_mul, Int.natCast_pow]
      rfl
    refine ⟨_, rfl, a, _, rfl, .inl (wo_at (s0 _ _ ha)), _, _, rfl, rfl, ⟨by omega, by rw [List.length_map]; omega, by decide⟩, _, rfl, ?_, ?_, ?_⟩
    · rw [e64]; omega
    · rw [e64]; omega
    rw [e64, Int.toNat_natCast]
    refine for_src (src_rng (lo := 0) (n := m)) (fun i σ H' => ∃ acc qs y4 y5 y6 y7 y8 y9, σ = [some (.ref a), some (.ref g), some (.str hand), some (.ref p), y4, y5, y6, y7, y8, y9] ∧ Ex [] H H' ∧ H' p = some (.lst acc) ∧ RepL (wo (p :: A) H') (qs.map ls) acc ∧ Sub (wo A H) (wo (p :: A) H') ∧ (∀ x, x ∈ qs ↔ ∃ b, b < i ∧ x = pickB b hs ∧ condB hs gs hand x = true) ∧ qs.length ≤ i)
      ⟨[], [], _, _, _, _, _, _, rfl, Ex.new hp, upd_same, RepL.nil, s0, fun x => by simp, Nat.le_refl _⟩ (fun _ _ _ _ _ => trivial) ?_ ?_
    · rintro i x σ H9 H1 hi ⟨acc, qs, y4, y5, y6, y7, y8, y9, rfl, e1, hp1, racc, s1, hqs, hql⟩ ⟨rfl, rfl⟩
      have d1 : Dom (p :: A) H1 := fun c hc => by
        rcases List.mem_cons.mp hc with q | q
        · rw [q, hp1]; simp
        · exact e1.dom c (dA c q)
      have ha1 := s1 _ _ ha
      have hzl : hs.zipIdx.length = (hs.map V.str).length := by rw [List.length_zipIdx, List.length_map]
      refine ⟨_, rfl, a, _, rfl, .inl (wo_at ha1), fun J Ok S hok => lc_map S (A := p :: A) hs.zipIdx (fun q => testB i q.2) (fun q => .str q.1) hzl d1 (by rw [List.length_map]; omega) (fun H' s => hok H' (seqAt_same (.inl ha1) s)) ?_ ?_⟩
      · rintro j zi x A1 H2 H3 Kt Kf hz hA d2 s2 e2 ⟨Tt, y, rfl, hTt, rfl, hy⟩ kt kf
        obtain ⟨hz1, hz2⟩ := idx_at hz
        obtain rfl := str_at hz1 hy
        refine ⟨Tt, _, rfl, SqT.of upd_same, rfl, _, _, rfl, _, _, rfl, rfl, rfl, ?_⟩
        refine ⟨_, rfl, _, rfl, _, _, rfl, rfl, (by show (0 : Int) ≤ (j : Nat); omega), _, _, rfl, rfl, rfl, _, rfl, ?_⟩
        have et : decide (V.int (Builtin.bitAnd ((0 + (i : Int)) / 2 ^ ((j : Nat) : Int).toNat) 1) = V.int 1) = testB i zi.2 := by
          unfold testB
          rw [hz2, Int.zero_add, Int.toNat_natCast]
          exact decide_eq_decide.mpr ⟨fun e => by injection e, fun e => by rw [e]⟩
        refine Eq.mpr (congrArg (fun b => if b = true then _ else _) et) ?_
        by_cases c : testB i zi.2 = true
        · exact iteT' c ⟨_, rfl, kt c _ _ (Ex.new hTt) rfl⟩
        · exact iteF' (Bool.not_eq_true _ |>.mp c) (kf (Bool.not_eq_true _ |>.mp c) _ (Ex.new hTt))
      · intro D H2 hD e2 r2
        have r2 : Rep (wo (p :: A) H2) (ls (pickB i hs)) (.ref D) := by
          show Rep (wo (p :: A) H2) (.list ((pickB i hs).map .str)) (.ref D)
          unfold pickB
          rw [List.map_map]
          exact r2
        obtain ⟨D', eD, hD2⟩ := Rep.ls.mp r2
        cases eD
        have d2 := d1.ex e2
        have ha2 := (e2.any (A := p :: A)).old _ _ ha1
        have hpl : (pickB i hs).length ≤ 6 := by
          unfold pickB
          rw [List.length_map]
          have := List.length_filter_le (fun q => testB i q.2) hs.zipIdx
          rw [List.length_zipIdx] at this
          omega
        refine ⟨_, rfl, a, _, rfl, .inl (wo_at ha2), fun J Ok S hok => lc_map S (A := p :: A) hs (fun z => !decide (z ∈ pickB i hs)) .str (by simp) d2 (by rw [List.length_map]; omega) (fun H' s => hok H' (seqAt_same (.inl ha2) s)) ?_ ?_⟩
        · rintro j z x A1 H9 H3 Kt Kf hz hA d3 s3 e3 ⟨rfl, hx⟩ kt kf
          obtain rfl := str_at hz hx
          refine ⟨rfl, _, rfl, _, rfl, D, (pickB i hs).map V.str, rfl, .inl (wo_at (s3 _ _ hD2)), rfl, flat_strs, !decide (z ∈ pickB i hs), by rw [inV_strs]; rfl, ?_⟩
          by_cases c : z ∈ pickB i hs
          · rw [decide_eq_true c]
            exact iteF (kf (by rw [decide_eq_true c]; rfl) _ (Ex.refl _ _))
          · rw [decide_eq_false c]
            exact iteT ⟨_, rfl, kt (by rw [decide_eq_false c]; rfl) _ _ (Ex.refl _ _) rfl⟩
        · intro D3 H3 hD3 e3 r3
          obtain ⟨D3', eD3, hD33⟩ := Rep.ls.mp r3
          cases eD3
          have d3 := d2.ex e3
          have hD23 := (e3.any (A := p :: A)).old _ _ hD2
          have e13 := e2.trans e3
          have hp3 := e13.at hp1
          have racc3 := racc.mono (e13.any (A := p :: A)).old
          have s3 := s1.trans (e13.any (A := p :: A)).old
          have skip : ∀ H4, Ex [] H3 H4 → condB hs gs hand (pickB i hs) = false → ∃ (acc' : List V) (qs' : List Lot) (z4 z5 z6 z7 z8 z9 : Option V), [some (V.ref a), some (V.ref g), some (V.str hand), some (V.ref p), some (V.int (0 + (i : Int))), some (V.ref D), some (V.ref D3), y7, y8, y9] = [some (V.ref a), some (V.ref g), some (V.str hand), some (V.ref p), z4, z5, z6, z7, z8, z9] ∧ Ex [] H H4 ∧ H4 p = some (.lst acc') ∧ RepL (wo (p :: A) H4) (qs'.map ls) acc' ∧ Sub (wo A H) (wo (p :: A) H4) ∧ (∀ x, x ∈ qs' ↔ ∃ b, b < i + 1 ∧ x = pickB b hs ∧ condB hs gs hand x = true) ∧ qs'.length ≤ i + 1 := fun H4 e4 hc => by
            refine ⟨acc, qs, _, _, _, _, _, _, rfl, (e1.trans e13).trans e4, e4.at hp3, racc3.mono (e4.any (A := p :: A)).old, s3.trans (e4.any (A := p :: A)).old, fun x => ?_, by omega⟩
            rw [hqs]
            constructor
            · rintro ⟨b, h1, h2⟩; exact ⟨b, by omega, h2⟩
            · rintro ⟨b, h1, h2, h3⟩
              by_cases hb : b = i
              · rw [hb] at h2; rw [h2, hc] at h3; cases h3
              · exact ⟨b, by omega, h2, h3⟩
          refine ⟨_, rfl, _, rfl, D, (pickB i hs).map V.str, rfl, .inl (wo_at hD23), rfl, flat_strs, decide (hand ∈ pickB i hs), by rw [inV_strs]; rfl, ?_⟩
          by_cases c : hand ∈ pickB i hs
          · rw [decide_eq_true c]
            have hg3 := s3 _ _ hg
            have rg3 := rg.mono s3
            refine iteT ⟨_, rfl, g, us, rfl, .inl (wo_at hg3), fun J Ok S hok => lc_map S (A := p :: A) gs (fun _ => true) (fun g => .bool (liesB (hs.filter fun z => !decide (z ∈ pickB i hs)) g)) hul d3 (by omega) (fun H' s => hok H' (seqAt_same (.inl hg3) s)) ?_ ?_⟩
            · rintro j z x A1 H9 H4 Kt Kf hz hA d4 s4 e4 ⟨rfl, hx⟩ kt kf
              obtain ⟨c, rfl, hc⟩ := lot_at (rg3.mono s4) hx hz
              refine ⟨rfl, _, rfl, _, rfl, A1, D3, c, _, z, d4, rfl, .inl (s4 _ _ hD33), hc, ?_, fun H5 e5 => kt rfl _ _ e5 rfl⟩
              have := List.length_filter_le (fun z => !decide (z ∈ pickB i hs)) hs
              omega
            · intro D4 H4 hD4 e4 r4
              refine ⟨D4, _, rfl, bl_fin r4, _, rfl, ?_⟩
              by_cases c2 : (gs.map fun g => liesB (hs.filter fun z => !decide (z ∈ pickB i hs)) g).any id = true
              · refine iteT' c2 ?_
                have hp4 := e4.at hp3
                refine ⟨_, rfl, .inl ⟨rfl, _, SqL.of hp4⟩, _, rfl, p, acc, _, rfl, rfl, hp4, ?_, ?_⟩
                · have := racc.len
                  rw [List.length_map] at this
                  exact Nat.lt_of_le_of_lt (show acc.length ≤ 64 by omega) (by decide)
                have hcond : condB hs gs hand (pickB i hs) = true := by
                  unfold condB
                  rw [decide_eq_true c, c2]
                  rfl
                refine ⟨acc ++ [.ref D], qs ++ [pickB i hs], _, _, _, _, _, _, rfl, ((e1.trans e13).trans e4).putNew hp hp4, upd_same, ?_, ?_, fun x => ?_, by rw [List.length_append]; exact Nat.succ_le_succ hql⟩
                · rw [wo_put (List.mem_cons_self ..), List.map_append]
                  exact (racc3.mono (e4.any (A := p :: A)).old).snoc (Rep.ls.mpr ⟨D, rfl, (e4.any (A := p :: A)).old _ _ hD23⟩)
                · rw [wo_put (List.mem_cons_self ..)]
                  exact s3.trans (e4.any (A := p :: A)).old
                · rw [List.mem_append, List.mem_singleton, hqs]
                  constructor
                  · rintro (⟨b, h1, h2⟩ | rfl)
                    · exact ⟨b, by omega, h2⟩
                    · exact ⟨i, by omega, rfl, hcond⟩
                  · rintro ⟨b, h1, h2, h3⟩
                    by_cases hb : b = i
                    · rw [hb] at h2; exact .inr h2
                    · exact .inl ⟨b, by omega, h2, h3⟩
              · refine iteF' (Bool.not_eq_true _ |>.mp c2) (skip _ e4 ?_)
                unfold condB
                rw [Bool.not_eq_true _ |>.mp c2, Bool.and_false]
          · rw [decide_eq_false c]
            refine iteF (skip _ (Ex.refl _ _) ?_)
            unfold condB
            rw [decide_eq_false c, Bool.false_and]
    · rintro σ H1 ⟨acc, qs, y4, y5, y6, y7, y8, y9, rfl, e1, hp1, racc, s1, hqs, hql⟩
      exact ⟨_, rfl, k _ qs _ e1 hqs hql ⟨p, acc, rfl, wo_of hpA hp1, racc.mono wo_cons⟩⟩
end
end K70
end
section
set_option maxHeartbeats 4000000
/-! Pairs of bands and quorums. No program here. -/
namespace K70
open PySem PySem.Spec PyProof.Rows L2
variable [Tbs]
/-! ### each predicate has its bits -/
def bitsOf (p : Str → Bool) : Lot → Nat
  | [] => 0
  | z :: zs => (if p z = true then 1 else 0) + 2 * bitsOf p zs
theorem bitsOf_lt (p : Str → Bool) : ∀ zs : Lot, bitsOf p zs < 2 ^ zs.length
  | [] => Nat.one_pos
  | z :: zs => by
    have := bitsOf_lt p zs
    unfold bitsOf
    rw [List.length_cons, Nat.pow_succ]
    split <;> omega
theorem testB_zero (p : Str → Bool) (z : Str) (zs : Lot) : testB (bitsOf p (z :: zs)) 0 = p z := by
  rw [testB_eq]
  unfold bitsOf
  by_cases h : p z = true
  · rw [if_pos h, h, Nat.pow_zero, Nat.div_one]
    exact (decide_eq_true (by omega))
  · rw [if_neg h, Bool.not_eq_true _ |>.mp h, Nat.pow_zero, Nat.div_one]
    exact (decide_eq_false (by omega))
theorem testB_succ (p : Str → Bool) (z : Str) (zs : Lot) (i : Nat) : testB (bitsOf p (z :: zs)) (i + 1) = testB (bitsOf p zs) i := by
  rw [testB_eq, testB_eq]
  have e : bitsOf p (z :: zs) / 2 ^ (i + 1) = bitsOf p zs / 2 ^ i := by
    rw [Nat.pow_succ]
    rw [Nat.mul_comm, ← Nat.div_div_eq_div_mul]
    congr 1
    show ((if p z = true then 1 else 0) + 2 * bitsOf p zs) / 2 = _
    split <;> omega
  rw [e]
theorem pick_filter (p : Str → Bool) : ∀ (zs : Lot) (b k : Nat), (∀ i z, zs[i]? = some z → testB b (k + i) = p z) → ((zs.zipIdx k).filter fun q => testB b q.2).map (·.1) = zs.filter p
  | [], _, _, _ => rfl
  | z :: zs, b, k, h => by
    have h0 : testB b k = p z := h 0 z rfl
    have ih := pick_filter p zs b (k + 1) fun i y hy => by
      rw [show k + 1 + i = k + (i + 1) by omega]
      exact h (i + 1) y hy
    rw [List.zipIdx_cons, List.filter_cons, List.filter_cons, h0]
    by_cases c : p z = true
    · rw [if_pos c, if_pos c, List.map_cons, ih]
    · rw [if_neg c, if_neg c, ih]
theorem bits_all (p : Str → Bool) : ∀ (zs : Lot) (i : Nat) (z : Str), zs[i]? = some z → testB (bitsOf p zs) i = p z
  | [], i, z, h => by simp at h
  | y :: zs, 0, z, h => by
    have : y = z := by simpa using h
    rw [← this]
    exact testB_zero p y zs
  | y :: zs, i + 1, z, h => by
    rw [testB_succ]
    exact bits_all p zs i z (by simpa using h)
theorem pick_bits (p : Str → Bool) (hs : Lot) : pickB (bitsOf p hs) hs = hs.filter p :=
  pick_filter p hs _ 0 fun i z h => by rw [Nat.zero_add]; exact bits_all p hs i z h
theorem pick_sub {b : Nat} {hs : Lot} {z : Str} (h : z ∈ pickB b hs) : z ∈ hs := by
  unfold pickB at h
  obtain ⟨q, hq, rfl⟩ := List.mem_map.mp h
  obtain ⟨i, hi, e⟩ := List.mem_iff_getElem.mp (List.mem_filter.mp hq).1
  have e2 : hs.zipIdx[i]? = some q := by rw [List.getElem?_eq_getElem hi, e]
  exact List.mem_of_getElem? (idx_at e2).1
/-! ### quorums -/
def IsQ (hs : Lot) (gs : List Lot) (h : Str) (qs : List Lot) : Prop := ∀ x, x ∈ qs ↔ ∃ b, b < 2 ^ hs.length ∧ x = pickB b hs ∧ condB hs gs h x = true
theorem cond_iff {hs : Lot} {gs : List Lot} {h : Str} {x : Lot} : condB hs gs h x = true ↔ h ∈ x ∧ ∃ g ∈ gs, ∀ z ∈ hs, z ∉ x → z ∈ g := by
  unfold condB
  rw [Bool.and_eq_true, decide_eq_true_eq, List.any_map, List.any_eq_true]
  simp only [Function.comp, id_eq]
  constructor
  · rintro ⟨h1, g, hg, hl⟩
    exact ⟨h1, g, hg, fun z hz hx => liesB_iff.mp hl z (List.mem_filter.mpr ⟨hz, by simp [hx]⟩)⟩
  · rintro ⟨h1, g, hg, hl⟩
    exact ⟨h1, g, hg, liesB_iff.mpr fun z hz => by
      obtain ⟨h2, h3⟩ := List.mem_filter.mp hz
      exact hl z h2 (by simpa using h3)⟩
theorem IsQ.into {hs : Lot} {gs : List Lot} {h : Str} {qs : List Lot} (q : IsQ hs gs h qs) {x : Lot} (hx : x ∈ qs) : h ∈ x ∧ (∀ z ∈ x, z ∈ hs) ∧ ∃ g ∈ gs, ∀ z ∈ hs, z ∉ x → z ∈ g := by
  obtain ⟨b, _, rfl, hc⟩ := (q x).mp hx
  obtain ⟨h1, h2⟩ := cond_iff.mp hc
  exact ⟨h1, fun z hz => pick_sub hz, h2⟩
theorem IsQ.all {hs : Lot} {gs : List Lot} {h : Str} {qs : List Lot} (q : IsQ hs gs h qs) (p : Str → Bool) (hh : h ∈ hs) (hp : p h = true) {g : Lot} (hg : g ∈ gs) (hl : ∀ z ∈ hs, p z = false → z ∈ g) : hs.filter p ∈ qs := by
  refine (q _).mpr ⟨bitsOf p hs, bitsOf_lt p hs, (pick_bits p hs).symm, cond_iff.mpr ⟨List.mem_filter.mpr ⟨hh, hp⟩, g, hg, fun z hz hx => hl z hz ?_⟩⟩
  cases c : p z with
  | false => rfl
  | true => exact absurd (List.mem_filter.mpr ⟨hz, c⟩) hx
theorem firstPair_none {p : Lot → Lot → Bool} {gs : List Lot} : (firstPair p gs).isNone = true ↔ ∀ a ∈ gs, ∀ b ∈ gs, p a b = false := by
  unfold firstPair
  rw [Option.isNone_iff_eq_none, List.findSome?_eq_none_iff]
  constructor
  · intro h a ha b hb
    have := h a ha
    rw [Option.map_eq_none_iff, List.find?_eq_none] at this
    exact Bool.not_eq_true _ |>.mp (this b hb)
  · intro h a ha
    rw [Option.map_eq_none_iff, List.find?_eq_none]
    intro b hb
    rw [h a ha b hb]
    simp
theorem meet_iff {ps qs : List Lot} : meetB ps qs = true ↔ ∀ p ∈ ps, ∀ q ∈ qs, ∃ z ∈ p, z ∈ q := by
  unfold meetB
  rw [List.all_map, List.all_eq_true]
  constructor
  · intro h p hp q hq
    have h1 := h p hp
    simp only [Function.comp, id_eq] at h1
    rw [List.all_map, List.all_eq_true] at h1
    have h2 := h1 q hq
    simp only [Function.comp, id_eq] at h2
    rw [List.any_map, List.any_eq_true] at h2
    obtain ⟨z, hz, h3⟩ := h2
    exact ⟨z, hz, by simpa using h3⟩
  · intro h p hp
    simp only [Function.comp, id_eq]
    rw [List.all_map, List.all_eq_true]
    intro q hq
    simp only [Function.comp, id_eq]
    rw [List.any_map, List.any_eq_true]
    obtain ⟨z, hz, h3⟩ := h p hp q hq
    exact ⟨z, hz, by simpa using h3⟩
theorem fp_iff {hs : Lot} {w r : Option Str} {a b : Lot} : fpB hs w r a b = true ↔ ∀ x ∈ hs, (x ∈ a ∧ some x ≠ w) ∨ (x ∈ b ∧ some x ≠ r) := by
  unfold fpB
  rw [List.all_map, List.all_eq_true]
  simp only [Function.comp, id_eq, Bool.or_eq_true, Bool.and_eq_true, decide_eq_true_eq, Bool.not_eq_true', decide_eq_false_iff_not, ne_eq]
theorem hold_iff {hs a b : Lot} : holdB hs a b = true ↔ ∀ x ∈ hs, x ∈ a ∨ x ∈ b := by
  unfold holdB
  rw [List.all_map, List.all_eq_true]
  simp only [Function.comp, id_eq, Bool.or_eq_true, decide_eq_true_eq]
theorem fp_none_eq (hs : Lot) : fpB hs none none = holdB hs := by
  funext a b
  rw [Bool.eq_iff_iff, fp_iff, hold_iff]
  simp
theorem fp_some_eq (hs : Lot) (w r : Str) : fpB hs (some w) (some r) = halfB hs w r := by
  funext a b
  rw [Bool.eq_iff_iff, fp_iff]
  show _ ↔ holdB hs _ _ = true
  rw [hold_iff]
  refine forall_congr' fun x => forall_congr' fun hx => ?_
  rw [List.mem_filter, List.mem_filter]
  simp
/-- halves: None just if the quorums of both meet -/
theorem half_meet {hs : Lot} {gs qw qr : List Lot} {w r : Str} (hw : w ∈ hs) (hr : r ∈ hs) (q1 : IsQ hs gs w qw) (q2 : IsQ hs gs r qr) : (firstPair (fpB hs (some w) (some r)) gs).isNone = meetB qw qr := by
  rw [Bool.eq_iff_iff, firstPair_none, meet_iff]
  constructor
  · intro h p hp q hq
    obtain ⟨i1, i2, a, ha, i3⟩ := q1.into hp
    obtain ⟨j1, j2, b, hb, j3⟩ := q2.into hq
    refine Classical.byContradiction fun hno => ?_
    have hno2 : ∀ z, z ∈ p → z ∉ q := fun z hz hq => hno ⟨z, hz, hq⟩
    have := h a ha b hb
    rw [Bool.eq_false_iff] at this
    refine this (fp_iff.mpr fun x hx => ?_)
    by_cases c : x ∈ p
    · exact .inr ⟨j3 x hx (hno2 x c), fun e => by injection e with e; exact hno2 x c (by rw [e]; exact j1)⟩
    · exact .inl ⟨i3 x hx c, fun e => by injection e with e; exact c (by rw [e]; exact i1)⟩
  · intro h a ha b hb
    rw [Bool.eq_false_iff]
    intro hf
    have hf := fp_iff.mp hf
    have m1 := q1.all (fun z => !decide (z ∈ a) || decide (z = w)) hw (by simp) ha fun z _ hz => by
      simp only [Bool.or_eq_false_iff, Bool.not_eq_false', decide_eq_true_eq] at hz
      exact hz.1
    have m2 := q2.all (fun z => !decide (z ∈ b) || decide (z = r)) hr (by simp) hb fun z _ hz => by
      simp only [Bool.or_eq_false_iff, Bool.not_eq_false', decide_eq_true_eq] at hz
      exact hz.1
    obtain ⟨z, hz1, hz2⟩ := h _ m1 _ m2
    obtain ⟨hz, c1⟩ := List.mem_filter.mp hz1
    obtain ⟨_, c2⟩ := List.mem_filter.mp hz2
    simp only [Bool.or_eq_true, Bool.not_eq_true', decide_eq_false_iff_not, decide_eq_true_eq] at c1 c2
    rcases hf z hz with ⟨k1, k2⟩ | ⟨k1, k2⟩
    · rcases c1 with c1 | c1
      · exact c1 k1
      · exact k2 (by rw [c1])
    · rcases c2 with c2 | c2
      · exact c2 k1
      · exact k2 (by rw [c2])
/-- two hands -/
theorem two_of {hs : Lot} (nd : hs.Nodup) (h2 : 2 ≤ hs.length) : ∃ a b, a ∈ hs ∧ b ∈ hs ∧ a ≠ b := by
  match hs, h2, nd with
  | a :: b :: r, _, nd =>
    refine ⟨a, b, List.mem_cons_self .., List.mem_cons_of_mem _ (List.mem_cons_self ..), fun e => ?_⟩
    rw [e] at nd
    exact (List.nodup_cons.mp nd).1 (List.mem_cons_self ..)
/-- two_bands: None just if any two quorums meet -/
theorem two_meet {hs : Lot} {gs js : List Lot} {Qs : Str → List Lot} (nd : hs.Nodup) (h2 : 2 ≤ hs.length) (hQ : ∀ h ∈ hs, IsQ hs gs h (Qs h)) (hj : ∀ x, x ∈ js ↔ ∃ h ∈ hs, x ∈ Qs h) : (firstPair (fpB hs none none) gs).isNone = meetB js js := by
  rw [Bool.eq_iff_iff, firstPair_none, meet_iff]
  constructor
  · intro h p hp q hq
    obtain ⟨h1, hh1, hp⟩ := (hj p).mp hp
    obtain ⟨h3, hh3, hq⟩ := (hj q).mp hq
    obtain ⟨i1, i2, a, ha, i3⟩ := (hQ h1 hh1).into hp
    obtain ⟨j1, j2, b, hb, j3⟩ := (hQ h3 hh3).into hq
    refine Classical.byContradiction fun hno => ?_
    have hno2 : ∀ z, z ∈ p → z ∉ q := fun z hz hq => hno ⟨z, hz, hq⟩
    have := h a ha b hb
    rw [Bool.eq_false_iff] at this
    refine this (fp_iff.mpr fun x hx => ?_)
    by_cases c : x ∈ p
    · exact .inr ⟨j3 x hx (hno2 x c), by simp⟩
    · exact .inl ⟨i3 x hx c, by simp⟩
  · intro h a ha b hb
    rw [Bool.eq_false_iff]
    intro hf
    have hf := fp_iff.mp hf
    have whole : ∀ g ∈ gs, (∀ x ∈ hs, x ∈ g) → False := fun g hg hall => by
      obtain ⟨x, y, hx, hy, ne⟩ := two_of nd h2
      have m1 := (hj _).mpr ⟨x, hx, (hQ x hx).all (fun z => decide (z = x)) hx (by simp) hg fun z hz _ => hall z hz⟩
      have m2 := (hj _).mpr ⟨y, hy, (hQ y hy).all (fun z => decide (z = y)) hy (by simp) hg fun z hz _ => hall z hz⟩
      obtain ⟨z, hz1, hz2⟩ := h _ m1 _ m2
      have c1 := (List.mem_filter.mp hz1).2
      have c2 := (List.mem_filter.mp hz2).2
      simp only [decide_eq_true_eq] at c1 c2
      exact ne (c1.symm.trans c2)
    by_cases ea : ∀ x ∈ hs, x ∈ a
    · exact whole a ha ea
    by_cases eb : ∀ x ∈ hs, x ∈ b
    · exact whole b hb eb
    simp only [Classical.not_forall] at ea eb
    obtain ⟨x, hx, nx⟩ := ea
    obtain ⟨y, hy, ny⟩ := eb
    have m1 := (hj _).mpr ⟨x, hx, (hQ x hx).all (fun z => !decide (z ∈ a)) hx (by simp [nx]) ha fun z _ hz => by simpa using hz⟩
    have m2 := (hj _).mpr ⟨y, hy, (hQ y hy).all (fun z => !decide (z ∈ b)) hy (by simp [ny]) hb fun z _ hz => by simpa using hz⟩
    obtain ⟨z, hz1, hz2⟩ := h _ m1 _ m2
    obtain ⟨hz, c1⟩ := List.mem_filter.mp hz1
    have c2 := (List.mem_filter.mp hz2).2
    simp only [Bool.not_eq_true', decide_eq_false_iff_not] at c1 c2
    rcases hf z hz with ⟨k1, _⟩ | ⟨k1, _⟩
    · exact c1 k1
    · exact c2 k1
/-- free_hands: just the hands in every quorum -/
theorem free_eq {hs : Lot} {gs js : List Lot} {Qs : Str → List Lot} (nd : hs.Nodup) (h2 : 2 ≤ hs.length) (hQ : ∀ h ∈ hs, IsQ hs gs h (Qs h)) (hj : ∀ x, x ∈ js ↔ ∃ h ∈ hs, x ∈ Qs h) : freeL hs gs = hs.filter fun z => (js.map fun x => decide (z ∈ x)).all id := by
  unfold freeL
  refine List.filter_congr fun z hz => ?_
  rw [Bool.eq_iff_iff]
  simp only [Bool.not_eq_true', List.any_map, List.all_map, List.any_eq_false, List.all_eq_true, Function.comp, id_eq, decide_eq_true_eq]
  constructor
  · intro h x hx
    obtain ⟨y, hy, hx⟩ := (hj x).mp hx
    obtain ⟨i1, i2, g, hg, i3⟩ := (hQ y hy).into hx
    refine Classical.byContradiction fun c => ?_
    exact h g hg (i3 z hz c)
  · intro h g hg c
    obtain ⟨y, hy, ne⟩ : ∃ y, y ∈ hs ∧ y ≠ z := by
      obtain ⟨a, b, ha, hb, ne⟩ := two_of nd h2
      by_cases e : a = z
      · exact ⟨b, hb, fun e2 => ne (e.trans e2.symm)⟩
      · exact ⟨a, ha, e⟩
    have m := (hj _).mpr ⟨y, hy, (hQ y hy).all (fun u => !decide (u = z)) hy (by simp [ne]) hg fun u _ hu => by
      have : u = z := by simpa using hu
      rw [this]; exact c⟩
    have := (List.mem_filter.mp (h _ m)).2
    simp at this
end K70
end
section
set_option maxHeartbeats 4000000
/-! _law_same, _law_loose. -/
namespace K70
open PySem PySem.Spec PyProof.Rows L2
variable [Tbs]
def sized : Nat → PyData → Prop
  | 0, d => isL d = false
  | m + 1, d => (itemsD d).length ≤ 1000 ∧ ∀ x ∈ itemsD d, sized m x
theorem items_nil {d : PyData} (h : isL d = false) : itemsD d = [] := by
  cases d <;> first | rfl | cases h
theorem sized_up : ∀ {m : Nat} {d : PyData}, sized m d → sized (m + 1) d
  | 0, d, h => by
    have e := items_nil h
    exact ⟨by rw [e]; exact Nat.zero_le _, fun x hx => by rw [e] at hx; cases hx⟩
  | m + 1, d, ⟨h1, h2⟩ => ⟨h1, fun x hx => sized_up (h2 x hx)⟩
def isLs : PyData → Bool
  | .list _ => true
  | _ => false
def isTu : PyData → Bool
  | .tuple _ => true
  | _ => false
def isDi : PyData → Bool
  | .dict _ => true
  | _ => false
theorem kit_list (d : PyData) : kitB (tyn d) "list" = some (isLs d) := by
  cases d with
  | none => exact (by decide +kernel : kitB "NoneType" "list" = some false)
  | bool b => exact (by decide +kernel : kitB "bool" "list" = some false)
  | int b => exact (by decide +kernel : kitB "int" "list" = some false)
  | str b => exact (by decide +kernel : kitB "str" "list" = some false)
  | list b => exact (by decide +kernel : kitB "list" "list" = some true)
  | tuple b => exact (by decide +kernel : kitB "tuple" "list" = some false)
  | dict b => exact (by decide +kernel : kitB "dict" "list" = some false)
theorem kit_tuple (d : PyData) : kitB (tyn d) "tuple" = some (isTu d) := by
  cases d with
  | none => exact (by decide +kernel : kitB "NoneType" "tuple" = some false)
  | bool b => exact (by decide +kernel : kitB "bool" "tuple" = some false)
  | int b => exact (by decide +kernel : kitB "int" "tuple" = some false)
  | str b => exact (by decide +kernel : kitB "str" "tuple" = some false)
  | list b => exact (by decide +kernel : kitB "list" "tuple" = some false)
  | tuple b => exact (by decide +kernel : kitB "tuple" "tuple" = some true)
  | dict b => exact (by decide +kernel : kitB "dict" "tuple" = some false)
theorem kit_dict (d : PyData) : kitB (tyn d) "dict" = some (isDi d) := by
  cases d with
  | none => exact (by decide +kernel : kitB "NoneType" "dict" = some false)
  | bool b => exact (by decide +kernel : kitB "bool" "dict" = some false)
  | int b => exact (by decide +kernel : kitB "int" "dict" = some false)
  | str b => exact (by decide +kernel : kitB "str" "dict" = some false)
  | list b => exact (by decide +kernel : kitB "list" "dict" = some false)
  | tuple b => exact (by decide +kernel : kitB "tuple" "dict" = some false)
  | dict b => exact (by decide +kernel : kitB "dict" "dict" = some true)
theorem pure_items {ds : List PyData} (h : pureL ds = true) : ∀ x ∈ ds, pure_ x = true := by
  induction ds with
  | nil => intro x hx; cases hx
  | cons d ds ih =>
    obtain ⟨h1, h2⟩ := Bool.and_eq_true_iff.mp (show (pure_ d && pureL ds) = true from h)
    intro x hx
    rcases List.mem_cons.1 hx with e | hx
    · rw [e]; exact h1
    · exact ih h2 x hx
def spSame : Nat → Sp
  | 0 => fun _ _ _ _ => False
  | m + 1 => fun vs H Q _ => ∃ A d v1 v2, Dom A H ∧ vs = [v1, v2] ∧ Rep (wo A H) d v1 ∧ Rep (wo A H) d v2 ∧ pure_ d = true ∧ sized m d ∧ ∀ H', Ex [] H H' → Q (.bl true) H'
/-- never reached -/
def tNever : TE := fun _ _ _ => False
theorem pe_never {X : Cx} {e : Expr} : PE X e tNever := ⟨fun _ _ _ _ _ _ h => h.elim⟩
def spNone : Sp := fun _ _ _ _ => False
section
variable {P : Program} {w : World} {K : PySem.W.Frag} {mg : Str → Option Value} {base : Heap}
theorem ok_none {k : Nat} {f : Addr} {fd : FuncData} {ps : List Str} : FnOk P w K mg base CX0 k f fd ps spNone := ⟨fun _ _ _ _ h => h.elim, fun _ _ _ _ _ _ _ _ _ _ _ _ _ h => h.elim⟩
theorem okS_wXsame {j m : Nat} (T : Top K mg base) (G_wXsame : FnOk P w K mg base CX0 j (He.ga K "_law_same") (fdOf K (He.ga K "_law_same")) ["_law_found", "_law_due"] (spSame m)) (hj : 6 ≤ j) : FnOk P w K mg base CX0 (j + 1) (He.ga K "_law_same") (fdOf K (He.ga K "_law_same")) ["_law_found", "_law_due"] (spSame (m + 1)) := by
  have b_wXsame := bd_wXsame T
  refine T.d_wXsame.ok sc_wXsame (fun vs H Q E h => ?len) (fun cdv A outer s H vs Q E hr h => ⟨_, PSs.nox (pss_cons (ps_if (pt_val (pe_callB call_isiT (by rfl) T.n_isinstance (by decide +kernel) (pa_cons (pv 1) (pa_cons (pe_tup (pa_cons (pe_bltn (v := .ty "list") (by rfl) T.n_list (by decide +kernel) rfl) (pa_cons (pe_bltn (v := .ty "tuple") (by rfl) T.n_tuple (by decide +kernel) rfl) pa_nil))) pa_nil)))) (pss_cons (ps_if (PW.pt (pw_or (pt_cmpR op_ne (pe_callB call_isi (by rfl) T.n_isinstance (by decide +kernel) (pa_cons (pv 0) (pa_cons (pe_bltn (v := .ty "list") (by rfl) T.n_list (by decide +kernel) rfl) pa_nil))) (pe_callB call_isi (by rfl) T.n_isinstance (by decide +kernel) (pa_cons (pv 1) (pa_cons (pe_bltn (v := .ty "list") (by rfl) T.n_list (by decide +kernel) rfl) pa_nil))) (nomark _)) (pw_or1 (pt_cmpR op_ne (pe_callB call_isi (by rfl) T.n_isinstance (by decide +kernel) (pa_cons (pv 0) (pa_cons (pe_bltn (v := .ty "tuple") (by rfl) T.n_tuple (by decide +kernel) rfl) pa_nil))) (pe_callB call_isi (by rfl) T.n_isinstance (by decide +kernel) (pa_cons (pv 1) (pa_cons (pe_bltn (v := .ty "tuple") (by rfl) T.n_tuple (by decide +kernel) rfl) pa_nil))) (nomark _))))) (pss_one (ps_ret pe_bl)) pss_nil)
    (pss_one (ps_ret (pe_and (pe_cmpR op_eq (pe_callB call_lenS (by rfl) T.n_len (by decide +kernel) (pa_cons (pv 0) pa_nil)) (pe_callB call_lenS (by rfl) T.n_len (by decide +kernel) (pa_cons (pv 1) pa_nil)) (nomark _)) (pe_one (pe_callB (cr_allS rfl) (by rfl) T.n_all (by decide +kernel) (pa_cons (pe_lc (own := [("_law_x", 2), ("_law_y", 3)]) (g := gTup K 2 (gCons (gName 2) (gCons (gName 3) gNil))) (tt := _) rfl sc_wXsame.nd (pi_zipB rfl T.n_zip (pa_cons (pv 0) (pa_cons (pv 1) pa_nil))) (blkOk_by (by kernel_rfl)) (fun _ _ _ _ _ => (pg_tup rfl (pgs_cons (pg_name (i := 2) sc_wXsame.nd rfl (Or.inl rfl)) (pgs_cons (pg_name (i := 3) sc_wXsame.nd rfl (Or.inl rfl)) pgs_nil)))) (fun _ _ _ _ _ => pts_nil) (fun _ _ _ _ _ => (pe_call G_wXsame (hr.mono (by omega)) rfl T.g_wXsame T.d_wXsame.kp b_wXsame .nil pass0 (pa_cons (pv 2) (pa_cons (pv 3) pa_nil))))) pa_nil))))))) pss_nil)
    (pss_cons (ps_if (pt_val (pe_callB call_isi (by rfl) T.n_isinstance (by decide +kernel) (pa_cons (pv 1) (pa_cons (pe_bltn (v := .ty "dict") (by rfl) T.n_dict (by decide +kernel) rfl) pa_nil)))) (pss_one (ps_ret (pe_and (pe_callB call_isi (by rfl) T.n_isinstance (by decide +kernel) (pa_cons (pv 0) (pa_cons (pe_bltn (v := .ty "dict") (by rfl) T.n_dict (by decide +kernel) rfl) pa_nil))) (pe_one pe_never)))) pss_nil)
    (pss_cons (ps_if (pt_val (pe_callB call_isi (by rfl) T.n_isinstance (by decide +kernel) (pa_cons (pv 1) (pa_cons (pe_bltn (v := .ty "int") (by rfl) T.n_int (by decide +kernel) rfl) pa_nil)))) (pss_one (ps_ret (pe_and (pe_callB call_isi (by rfl) T.n_isinstance (by decide +kernel) (pa_cons (pv 0) (pa_cons (pe_bltn (v := .ty "int") (by rfl) T.n_int (by decide +kernel) rfl) pa_nil))) (pe_and (pe_cmpR op_eq (pe_callB call_isi (by rfl) T.n_isinstance (by decide +kernel) (pa_cons (pv 0) (pa_cons (pe_bltn (v := .ty "bool") (by rfl) T.n_bool (by decide +kernel) rfl) pa_nil))) (pe_callB call_isi (by rfl) T.n_isinstance (by decide +kernel) (pa_cons (pv 1) (pa_cons (pe_bltn (v := .ty "bool") (by rfl) T.n_bool (by decide +kernel) rfl) pa_nil))) (nomark _)) (pe_one (pe_cmpR op_eq (pv 0) (pv 1) (nomark _))))))) pss_nil)
    (pss_one (ps_ret (pe_and (pe_not (pe_callB call_isiT (by rfl) T.n_isinstance (by decide +kernel) (pa_cons (pv 0) (pa_cons (pe_tup (pa_cons (pe_bltn (v := .ty "int") (by rfl) T.n_int (by decide +kernel) rfl) (pa_cons (pe_bltn (v := .ty "list") (by rfl) T.n_list (by decide +kernel) rfl) (pa_cons (pe_bltn (v := .ty "tuple") (by rfl) T.n_tuple (by decide +kernel) rfl) (pa_cons (pe_bltn (v := .ty "dict") (by rfl) T.n_dict (by decide +kernel) rfl) pa_nil))))) pa_nil)))) (pe_one (pe_cmpR op_eq (pv 0) (pv 1) (nomark _))))))))), ?go⟩)
  case len =>
    obtain ⟨A, d, v1, v2, _, rfl, _⟩ := h
    rfl
  case go =>
    obtain ⟨A, d, v1, v2, dA, rfl, r1, r2, hp, hsz, k⟩ := h
    have hl : (itemsD d).length ≤ 1000 := by
      cases m with
      | zero => rw [items_nil hsz]; exact Nat.zero_le _
      | succ m => exact hsz.1
    have hs : ∀ x ∈ itemsD d, ∃ i, m = i + 1 ∧ sized i x := fun x hx => by
      cases m with
      | zero => rw [items_nil hsz] at hx; cases hx
      | succ m => exact ⟨m, rfl, hsz.2 x hx⟩
    refine ⟨_, rfl, by show 2 ≤ sizeLine; decide, fun p hp0 => ?_⟩
    have ex : Ex [] H (upd H p (.tup [.ty "list", .ty "tuple"])) := Ex.new hp0
    refine ⟨v2, p, [.ty "list", .ty "tuple"], _, [.type "list", .type "tuple"], _, rfl, upd_same, .cons (.ty _) (.cons (.ty _) .nil), (r2.mono ex.any.old).ty, kit_isL d, _, rfl, ?_⟩
    replace r1 := r1.mono (ex.any (A := A)).old
    replace r2 := r2.mono (ex.any (A := A)).old
    have d0 := dA.ex ex
    replace k : ∀ H', Ex [] (upd H p (.tup [.ty "list", .ty "tuple"])) H' → Q (.bl true) H' := fun H' e => k H' (ex.trans e)
    generalize (upd H p (.tup [.ty "list", .ty "tuple"])) = H0 at r1 r2 d0 k ⊢
    by_cases hd : isL d = true
    · refine iteT' hd ?_
      refine ⟨_, rfl, v1, _, _, _, _, rfl, .ty _, r1.ty, kit_tyn (kit_list d), _, rfl, v2, _, _, _, _, rfl, .ty _, r2.ty, kit_tyn (kit_list d), rfl, false, by simp, iteF ?_⟩
      refine ⟨_, rfl, v1, _, _, _, _, rfl, .ty _, r1.ty, kit_tyn (kit_tuple d), _, rfl, v2, _, _, _, _, rfl, .ty _, r2.ty, kit_tyn (kit_tuple d), rfl, false, by simp, iteF ?_⟩
      have hd2 : (∃ ds, d = .list ds) ∨ ∃ ds, d = .tuple ds := by
        cases d <;> first | exact .inl ⟨_, rfl⟩ | exact .inr ⟨_, rfl⟩ | cases hd
      have hq : ∃ a b vs us, v1 = .ref a ∧ v2 = .ref b ∧ ((wo A H0 a = some (.lst vs) ∧ wo A H0 b = some (.lst us)) ∨ (wo A H0 a = some (.tup vs) ∧ wo A H0 b = some (.tup us))) ∧ RepL (wo A H0) (itemsD d) vs ∧ RepL (wo A H0) (itemsD d) us := by
        rcases hd2 with ⟨ds, rfl⟩ | ⟨ds, rfl⟩
        · obtain ⟨a, vs, e1, h1, t1⟩ := r1
          obtain ⟨b, us, e2, h2, t2⟩ := r2
          exact ⟨a, b, vs, us, e1, e2, .inl ⟨h1, h2⟩, t1, t2⟩
        · obtain ⟨a, vs, e1, h1, t1⟩ := r1
          obtain ⟨b, us, e2, h2, t2⟩ := r2
          exact ⟨a, b, vs, us, e1, e2, .inr ⟨h1, h2⟩, t1, t2⟩
      have hpi : ∀ x ∈ itemsD d, pure_ x = true := by
        rcases hd2 with ⟨ds, rfl⟩ | ⟨ds, rfl⟩ <;> exact pure_items hp
      obtain ⟨a, b, vs, us, rfl, rfl, hab, ra, rb⟩ := hq
      have sa : SeqAt H0 a vs := hab.elim (fun h => .inl (wo_at h.1)) (fun h => .inr (wo_at h.1))
      have sb : SeqAt H0 b us := hab.elim (fun h => .inl (wo_at h.2)) (fun h => .inr (wo_at h.2))
      have hll : vs.length = us.length := by rw [ra.len, rb.len]
      refine ⟨_, rfl, a, vs, rfl, sa, _, rfl, b, us, rfl, sb, rfl, true, by simp [hll], iteT ?_⟩
      have same_a : ∀ H', Sub (wo A H0) (wo A H') → H' a = H0 a := fun H' s => by
        rcases hab with h | h
        · rw [wo_at h.1, wo_at (s _ _ h.1)]
        · rw [wo_at h.1, wo_at (s _ _ h.1)]
      have same_b : ∀ H', Sub (wo A H0) (wo A H') → H' b = H0 b := fun H' s => by
        rcases hab with h | h
        · rw [wo_at h.2, wo_at (s _ _ h.2)]
        · rw [wo_at h.2, wo_at (s _ _ h.2)]
      refine ⟨_, rfl, _, rfl, a, b, vs, us, rfl, hll, hab.elim (fun h => .inl ⟨wo_at h.1, wo_at h.2⟩) (fun h => .inr ⟨wo_at h.1, wo_at h.2⟩), fun J Ok S hok => lc_map S (A := A) (itemsD d) (fun _ => true) (fun _ => .bool true) ra.len.symm d0 (by rw [ra.len]; omega) (fun H' s => hok H' (same_a H' s) (same_b H' s)) ?_ ?_⟩
      · rintro i x xv A1 H2 H3 Kt Kf hx hA d1 s1 e1 ⟨Tt, y, z, rfl, hTt, rfl, hy, hz⟩ kt kf
        obtain ⟨x1, hx1, rx1⟩ := ra.get hy
        obtain ⟨x2, hx2, rx2⟩ := rb.get hz
        obtain rfl : x1 = x := Option.some.inj (hx1.symm.trans hx)
        obtain rfl : x2 = x1 := Option.some.inj (hx2.symm.trans hx1)
        have e2 : Ex [] H2 (upd H2 Tt (.tup [y, z])) := Ex.new hTt
        have s2 := s1.trans (e2.any (A := A1)).old
        have hxm := List.mem_of_getElem? hx
        obtain ⟨mm, rfl, hsx⟩ := hs x2 hxm
        exact ⟨Tt, _, rfl, SqT.of upd_same, rfl, _, _, rfl, _, _, rfl, rfl, rfl, _, rfl, _, rfl, A1, x2, y, z, d1.ex e2, rfl, rx1.mono s2, rx2.mono s2, hpi x2 hxm, hsx, fun H' e => kt rfl _ _ (e2.trans e) rfl⟩
      · intro D H1 hD e1 r3
        refine ⟨D, _, rfl, bl_fin r3, ?_⟩
        have ea : ((itemsD d).map fun _ => true).all id = true := by
          rw [List.all_map, List.all_eq_true]
          intro _ _
          rfl
        rw [ea]
        exact k _ e1
    · refine iteF' (Bool.not_eq_true _ |>.mp hd) ?_
      have hdi : isDi d = false := by cases d <;> first | rfl | cases hp
      refine ⟨_, rfl, v2, _, _, _, _, rfl, .ty _, r2.ty, kit_tyn (kit_dict d), _, rfl, ?_⟩
      refine iteF' hdi ?_
      refine ⟨_, rfl, v2, _, _, _, _, rfl, .ty _, r2.ty, kit_tyn (kit_int d), _, rfl, ?_⟩
      by_cases hi : isIB d = true
      · refine iteT' hi ?_
        refine ⟨_, rfl, v1, _, _, _, _, rfl, .ty _, r1.ty, kit_tyn (kit_int d), _, rfl, ?_⟩
        refine iteT' hi ?_
        refine ⟨_, rfl, v1, _, _, _, _, rfl, .ty _, r1.ty, kit_tyn (kit_bool d), _, rfl, v2, _, _, _, _, rfl, .ty _, r2.ty, kit_tyn (kit_bool d), rfl, true, by simp, iteT ?_⟩
        have e12 : v1 = v2 ∧ scal v1 v2 = true := by
          cases d with
          | int i => rw [show v1 = .int i from r1, show v2 = .int i from r2]; exact ⟨rfl, rfl⟩
          | bool i => rw [show v1 = .bl i from r1, show v2 = .bl i from r2]; exact ⟨rfl, rfl⟩
          | _ => cases hi
        refine ⟨_, rfl, _, rfl, e12.2, ?_⟩
        rw [decide_eq_true e12.1]
        exact k _ (Ex.refl _ _)
      · refine iteF' (Bool.not_eq_true _ |>.mp hi) ?_
        refine ⟨_, rfl, by show 4 ≤ sizeLine; decide, fun q hq => ?_⟩
        have e1 : Ex [] H0 (upd H0 q (.tup [.ty "int", .ty "list", .ty "tuple", .ty "dict"])) := Ex.new hq
        have ha : anyB (tyn d) ["int", "list", "tuple", "dict"] = some false := by
          cases d with
          | none => exact (by decide +kernel : anyB "NoneType" ["int", "list", "tuple", "dict"] = some false)
          | str z => exact (by decide +kernel : anyB "str" ["int", "list", "tuple", "dict"] = some false)
          | int _ => exact absurd rfl hi
          | bool _ => exact absurd rfl hi
          | list _ => exact absurd rfl hd
          | tuple _ => exact absurd rfl hd
          | dict _ => cases hp
        refine ⟨v1, q, [.ty "int", .ty "list", .ty "tuple", .ty "dict"], _, [.type "int", .type "list", .type "tuple", .type "dict"], _, rfl, upd_same, .cons (.ty _) (.cons (.ty _) (.cons (.ty _) (.cons (.ty _) .nil))), (r1.mono (e1.any (A := A)).old).ty, kit_any (cs := ["int", "list", "tuple", "dict"]) ha, ?_⟩
        have e12 : v1 = v2 ∧ scal v1 v2 = true := by
          cases d with
          | none => rw [show v1 = .non from r1, show v2 = .non from r2]; exact ⟨rfl, rfl⟩
          | str z => rw [show v1 = .str z from r1, show v2 = .str z from r2]; exact ⟨rfl, rfl⟩
          | int _ => exact absurd rfl hi
          | bool _ => exact absurd rfl hi
          | list _ => exact absurd rfl hd
          | tuple _ => exact absurd rfl hd
          | dict _ => cases hp
        refine ⟨_, rfl, true, rfl, iteT ⟨_, rfl, _, rfl, e12.2, ?_⟩⟩
        rw [decide_eq_true e12.1]
        exact k _ e1
theorem ok_same (T : Top K mg base) : ∀ m : Nat, FnOk P w K mg base CX0 (6 + m) (He.ga K "_law_same") (fdOf K (He.ga K "_law_same")) ["_law_found", "_law_due"] (spSame m)
  | 0 => ⟨fun _ _ _ _ h => h.elim, fun _ _ _ _ _ _ _ _ _ _ _ _ _ h => h.elim⟩
  | m + 1 => okS_wXsame T (m := m) (j := 6 + m) (ok_same T m) (by omega)
end
end K70
end
section
set_option maxHeartbeats 4000000
/-! _law_loose. -/
namespace K70
open PySem PySem.Spec PyProof.Rows L2
variable [Tbs]
def looseD : Nat → PyData → PyData → Prop
  | 0, d, d' => d' = d
  | m + 1, d, d' => (isL d = false ∧ d' = d) ∨ (isL d = true ∧ isL d' = true ∧ (itemsD d').length = (itemsD d).length ∧ ∀ (i : Nat) (x x' : PyData), (itemsD d)[i]? = some x → (itemsD d')[i]? = some x' → looseD m x x')
def cst : Nat → Nat
  | 0 => 0
  | m + 1 => 50 * cst m + 1
def sized50 : Nat → PyData → Prop
  | 0, d => isL d = false
  | m + 1, d => (itemsD d).length ≤ 50 ∧ ∀ x ∈ itemsD d, sized50 m x
theorem loose_items {d d' : PyData} (h : looseD 1 d d') (hd : isL d = true) : isL d' = true ∧ itemsD d' = itemsD d := by
  rcases h with ⟨h, _⟩ | ⟨_, h1, h2, h3⟩
  · rw [hd] at h; cases h
  · refine ⟨h1, List.ext_getElem? fun i => ?_⟩
    cases q : (itemsD d)[i]? with
    | none =>
      rw [List.getElem?_eq_none_iff] at q ⊢
      omega
    | some x =>
      have hi : i < (itemsD d').length := by
        have := (List.getElem?_eq_some_iff.mp q).1
        omega
      have e : (itemsD d')[i]? = some (itemsD d')[i] := by simp [hi]
      rw [e]
      exact congrArg some (h3 i x _ q e)
def spLoose (m : Nat) : Sp := fun vs H Q _ => ∃ (A : List Addr) (S L : Addr) (n : Nat) (d : PyData) (v : V), Dom A H ∧ S ∈ A ∧ L ∈ A ∧ vs = [.ref S, v] ∧ Strm H S L n ∧ n + cst m ≤ 1000000000 ∧ Rep (wo A H) d v ∧ sized50 m d ∧
  ∀ d' v' H', looseD m d d' → Ex [S, L] H H' → Strm H' S L (n + cst m) → Rep (wo A H') d' v' → Q v' H'
section
variable {P : Program} {w : World} {K : PySem.W.Frag} {mg : Str → Option Value} {base : Heap}
def spPrevL : Nat → Sp
  | 0 => spNone
  | m + 1 => spLoose m
theorem okS_wXloose {j m : Nat} (T : Top K mg base) (G_wXloose : FnOk P w K mg base CX0 j (He.ga K "_law_loose") (fdOf K (He.ga K "_law_loose")) ["_law_stream", "_law_thing"] (spPrevL m)) (hj : 6 ≤ j) : FnOk P w K mg base CX0 (j + 1) (He.ga K "_law_loose") (fdOf K (He.ga K "_law_loose")) ["_law_stream", "_law_thing"] (spLoose m) := by
  have b_wXloose := bd_wXloose T
  have G_wXdraw := ok_wXdraw (P := P) (w := w) T
  have b_wXdraw := bd_wXdraw T
  refine T.d_wXloose.ok sc_wXloose (fun vs H Q E h => ?len) (fun cdv A outer s H vs Q E hr h => ⟨_, PSs.nox (pss_cons (ps_if (pt_not (pt_val (pe_callB call_isiT (by rfl) T.n_isinstance (by decide +kernel) (pa_cons (pv 1) (pa_cons (pe_tup (pa_cons (pe_bltn (v := .ty "list") (by rfl) T.n_list (by decide +kernel) rfl) (pa_cons (pe_bltn (v := .ty "tuple") (by rfl) T.n_tuple (by decide +kernel) rfl) pa_nil))) pa_nil))))) (pss_one (ps_ret (pv 1))) pss_nil)
    (pss_cons (ps_setLc (i := 2) (own := [("_law_part", 3)]) (g := gName 3) (tt := _) rfl sc_wXloose.nd rfl rfl (sw_true rfl rfl rfl (by decide +kernel)) (pi_seqA (pv 1)) (blkOk_by (by kernel_rfl)) (fun _ _ _ _ _ => (pg_name (i := 3) sc_wXloose.nd rfl (Or.inl rfl))) (fun _ _ _ _ _ => pts_nil) (fun _ _ _ _ _ => (pe_call G_wXloose (hr.mono (by omega)) rfl T.g_wXloose T.d_wXloose.kp b_wXloose .nil pass0 (pa_cons (pv 0) (pa_cons (pv 3) pa_nil)))))
    (pss_one (ps_ret (pe_ifExp (pt_cmpR op_eq (pe_call G_wXdraw (hr.mono (by omega)) rfl T.g_wXdraw T.d_wXdraw.kp b_wXdraw .nil pass0 (pa_cons (pv 0) (pa_cons pe_int pa_nil))) pe_int (nomark _)) (pv 2) (pe_callTy call_tupleS (by rfl) T.n_tuple (by decide +kernel) (pa_cons (pv 2) pa_nil))))))), ?go⟩)
  case len =>
    obtain ⟨A, S, L, n, d, v, _, _, _, rfl, _⟩ := h
    rfl
  case go =>
    cases m with
    | zero =>
      obtain ⟨A, S, L, n, d, v, dA, mS, mL, rfl, st, hn, rv, hs, k⟩ := h
      refine ⟨_, rfl, by show 2 ≤ sizeLine; decide, fun p hp0 => ?_⟩
      have ex : Ex [] H (upd H p (.tup [.ty "list", .ty "tuple"])) := Ex.new hp0
      refine ⟨v, p, [.ty "list", .ty "tuple"], _, [.type "list", .type "tuple"], _, rfl, upd_same, .cons (.ty _) (.cons (.ty _) .nil), (rv.mono ex.any.old).ty, kit_isL d, _, rfl, ?_⟩
      rw [show isL d = false from hs]
      exact iteT ⟨_, rfl, k d v _ rfl ex.any (st.ex ex) (rv.mono (ex.any (A := A)).old)⟩
    | succ m =>
      obtain ⟨A, S, L, n, d, v, dA, mS, mL, rfl, st, hn, rv, ⟨hl, hs⟩, k⟩ := h
      refine ⟨_, rfl, by show 2 ≤ sizeLine; decide, fun p hp0 => ?_⟩
      have ex : Ex [] H (upd H p (.tup [.ty "list", .ty "tuple"])) := Ex.new hp0
      refine ⟨v, p, [.ty "list", .ty "tuple"], _, [.type "list", .type "tuple"], _, rfl, upd_same, .cons (.ty _) (.cons (.ty _) .nil), (rv.mono ex.any.old).ty, kit_isL d, _, rfl, ?_⟩
      replace rv := rv.mono (ex.any (A := A)).old
      have d0 := dA.ex ex
      replace st := st.ex ex
      replace k : ∀ d' v' H', looseD (m + 1) d d' → Ex [S, L] (upd H p (.tup [.ty "list", .ty "tuple"])) H' → Strm H' S L (n + cst (m + 1)) → Rep (wo A H') d' v' → Q v' H' := fun d' v' H' q e => k d' v' H' q (ex.any.trans e)
      generalize (upd H p (.tup [.ty "list", .ty "tuple"])) = H0 at rv d0 st k ⊢
      have hc : cst (m + 1) = 50 * cst m + 1 := rfl
      by_cases hd : isL d = true
      · rw [hd]
        refine iteF ?_
        obtain ⟨a, vs, rfl, sa, ra⟩ := seq_of_isL rv hd
        have hvl := ra.len
        have mSL : ∀ c, c ∈ [S, L] → c ∈ A := fun c hc => by
          rcases List.mem_cons.mp hc with q | hc
          · rw [q]; exact mS
          · rw [List.mem_singleton.mp hc]; exact mL
        refine ⟨_, rfl, a, vs, rfl, seqAt_of sa, fun J Ok Sr hok => lc_data Sr (A := A) (B := [S, L]) (fun i o => ∃ x x', (itemsD d)[i]? = some x ∧ o = some x' ∧ looseD m x x') (fun i H' => Strm H' S L (n + i * cst m)) mSL d0 (fun q hq => (st.le (by omega)).ex (Ex.new hq)) (by omega) ?_ (fun H' s => hok H' (seqAt_same sa s)) ?_ ?_⟩
        · rintro i H' q o hq hq2 ⟨xs, aa, mm, cc, z1, z2, z3, z4⟩
          exact ⟨xs, aa, mm, cc, z1, by rw [upd_ne (fun e => hq (by rw [← e]; exact mS))]; exact z2, by rw [upd_ne (fun e => hq (by rw [← e]; exact mL))]; exact z3, z4⟩
        · rintro i x A1 H9 H1 Kt Kf hi hA d1 s1 e1 st1 ⟨rfl, hx⟩ kt kf
          obtain ⟨y, hy, ry⟩ := ra.get hx
          have hi2 : i < 50 := by omega
          have hmul : i * cst m + cst m ≤ 50 * cst m := by
            have : (i + 1) * cst m ≤ 50 * cst m := Nat.mul_le_mul_right _ hi2
            rw [Nat.succ_mul] at this
            exact this
          refine ⟨rfl, _, rfl, _, rfl, A1, S, L, n + i * cst m, y, x, d1, hA _ mS, hA _ mL, rfl, st1, by omega, ry.mono s1, hs y (List.mem_of_getElem? hy), fun d' v' H2 q e2 st2 r2 => ?_⟩
          refine kt d' v' H2 ⟨y, d', hy, rfl, q⟩ e2 (st2.le ?_) r2
          rw [Nat.succ_mul]
          omega
        · intro rs D H1 hD ho e1 st1 r1
          obtain ⟨hrl, hra⟩ := ho.all (T := fun i r => ∃ x, (itemsD d)[i]? = some x ∧ looseD m x r) fun i o ⟨x, x', h1, h2, h3⟩ => ⟨x', h2, x, h1, h3⟩
          have key : ∀ d' : PyData, isL d' = true → itemsD d' = rs → looseD (m + 1) d d' := fun d' h1 h2 => Or.inr ⟨hd, h1, by rw [h2, hrl, hvl], fun i x x' hx hx' => by
            rw [h2] at hx'
            obtain ⟨y, hy, q⟩ := hra i x' hx'
            rw [hy] at hx
            rw [← Option.some.inj hx]
            exact q⟩
          have hmul : vs.length * cst m ≤ 50 * cst m := Nat.mul_le_mul_right _ (by omega)
          refine ⟨_, rfl, S, L, n + vs.length * cst m, 3, rfl, by decide, by decide, st1, by omega, fun dd H2 hdd e2 st2 => ⟨rfl, _, rfl, ?_⟩⟩
          have r2 := r1.mono (e2.le mSL).old
          by_cases c : V.int (dd : Nat) = V.int 0
          · rw [decide_eq_true c]
            exact iteT ⟨_, rfl, k (.list rs) _ _ (key _ rfl rfl) (e1.trans e2) (st2.le (by omega)) r2⟩
          · rw [decide_eq_false c]
            obtain ⟨D', us, eD, h2, ru⟩ := id r2
            cases eD
            refine iteF ⟨_, rfl, D, us, rfl, wo_at h2, fun q hq => ?_⟩
            have e3 : Ex [] H2 (upd H2 q (.tup us)) := Ex.new hq
            have d2 : Dom A H2 := (d0.ex e1).ex e2
            exact k (.tuple rs) _ _ (key _ rfl rfl) ((e1.trans e2).trans e3.any) ((st2.ex e3).le (by omega)) ⟨q, us, rfl, wo_of (d2.not hq) upd_same, ru.mono (e3.any (A := A)).old⟩
      · rw [Bool.not_eq_true _ |>.mp hd]
        exact iteT ⟨_, rfl, k d v H0 (Or.inl ⟨Bool.not_eq_true _ |>.mp hd, rfl⟩) (Ex.refl _ _) (st.le (by omega)) rv⟩
theorem ok_loose (T : Top K mg base) : ∀ m : Nat, FnOk P w K mg base CX0 (7 + m) (He.ga K "_law_loose") (fdOf K (He.ga K "_law_loose")) ["_law_stream", "_law_thing"] (spLoose m)
  | 0 => okS_wXloose T (m := 0) (j := 6) ok_none (by decide)
  | m + 1 => okS_wXloose T (m := m + 1) (j := 7 + m) (ok_loose T m) (by omega)
end
end K70
end
section
set_option maxHeartbeats 4000000
/-! try with several clauses 'except A as n'; a lambda handed to a def. -/
namespace K70
open PySem PySem.Spec PyProof.Rows L2
/-! ### a caught exception -/
/-- an except clause that names its exception, and what its suite does -/
structure Clause where
  name : Str
  cls : Value
  first : Stmt
  more : List Stmt
  at_ : Pos
  pos : Pos
  does : Addr → Value → Option Addr → TS
def Clause.node (n : Str) (q : Clause) : ExceptHandler := .ExceptHandler (some (.Name q.name q.at_)) (some n) (q.first :: q.more) q.pos
structure Clause.Ok (X : Cx) (q : Clause) : Prop where
  glob : Gl X q.name
  here : X.mg q.name = some q.cls
  plain : (q.name == ("__debug__" : Str)) = false
  suite : ∀ (a : Addr) (o : Obj) (cls : Value) (d : Option Addr) (pn : List (Addr × Obj)), Zc cls d o → (∃ fs, o.data = .fields fs) → PSs (X.suite a ((a, o) :: pn)) (q.first :: q.more) (q.does a cls d)
theorem Clause.ok {X : Cx} {x : Str} {c : Value} {b : Stmt} {r : List Stmt} {p1 p2 : Pos} {ts : Addr → Value → Option Addr → TS} (glob : Gl X x) (here : X.mg x = some c) (plain : (x == ("__debug__" : Str)) = false)
    (suite : ∀ (a : Addr) (o : Obj) (cls : Value) (d : Option Addr) (pn : List (Addr × Obj)), Zc cls d o → (∃ fs, o.data = .fields fs) → PSs (X.suite a ((a, o) :: pn)) (b :: r) (ts a cls d)) : Clause.Ok X ⟨x, c, b, r, p1, p2, ts⟩ := ⟨glob, here, plain, suite⟩
def okAll (X : Cx) : List Clause → Prop
  | [] => True
  | q :: r => q.Ok X ∧ okAll X r
/-- behind a suite the clause's name, slot i, is gone -/
def gone (i : Nat) (D : Ends) : Ends := { D with nx := fun σ => D.nx (σ.set i none), bk := fun σ => D.bk (σ.set i none), ct := fun σ => D.ct (σ.set i none) }
/-- the exception goes from clause to clause -/
def wClauses (K : PySem.W.Frag) (i : Nat) (W : WX) (D : Ends) : List Clause → WX
  | [], cls, d, σ, H => W cls d σ H
  | q :: r, cls, d, σ, H => (PySem.W.exmOne K cls q.cls = some true ∧ ∀ a, H a = none → q.does a cls d (gone i D) (σ.set i (some (.ref a))) H) ∨ PySem.W.exmOne K cls q.cls = some false ∧ wClauses K i W D r cls d σ H
/-- a is in the air over X's frames; but for it, all is as at s0 -/
structure Caught (X : Cx) (pins : List (Addr × Obj)) (σ : L2.St) (H : Hp) (a : Addr) (cls : Value) (d : Option Addr) (B : Heap) (s0 s : Shared) : Prop where
  was : Inv X pins σ H s0
  ground : ∀ b o, s0.heap.get? b = some o → b ∉ frs X.stack → B.get? b = some o
  slots : s0.heap.UpToSlots s.heap
  air : HandSPX.FlyingZ B (X.env :: X.outer) a (Zc cls d) s.heap
  free : H a = none
  os : s.os = s0.os
  bare : AllBare s.gens
section
variable {X : Cx} {pins : List (Addr × Obj)} {σ : L2.St} {H : Hp} {a : Addr} {cls : Value} {d : Option Addr} {B : Heap} {s0 s : Shared}
theorem Caught.inv (C : Caught X pins σ H a cls d B s0 s) : Inv X pins σ H s := C.was.landed C.ground C.air.1 C.slots C.os C.bare
theorem Caught.on (C : Caught X pins σ H a cls d B s0 s) {h : Heap} (up : s.heap.UpToSlots h) (air : HandSPX.FlyingZ B (X.env :: X.outer) a (Zc cls d) h) : Caught X pins σ H a cls d B s0 { s with heap := h } :=
  ⟨C.was, C.ground, C.slots.trans up, air, C.free, C.os, C.bare⟩
/-- in a suite the exception stands pinned; it is none of the frames -/
theorem Caught.pinned (C : Caught X pins σ H a cls d B s0 s) (hf : X.env.frame = some X.env.locals) : ∃ o, Zc cls d o ∧ (∃ fs, o.data = .fields fs) ∧ s.heap.get? a = some o ∧ Inv (X.suite a ((a, o) :: (X.pn ++ pins))) [] σ H s := by
  obtain ⟨o, fs, ho, z, hd⟩ := C.air.there
  have all_ : frs (X.env :: X.outer) = X.env.locals :: X.fs := by simp [frs, hf]
  have out : a ∉ X.env.locals :: X.fs := fun m => by
    obtain ⟨_, o2, ho2, n⟩ := C.air.2.2.1.mem (all_ ▸ m)
    cases ho.symm.trans ho2
    exact n fs hd
  exact ⟨o, z, ⟨fs, hd⟩, ho, C.inv.suite ho hd C.free (fun e => out (e ▸ List.mem_cons_self ..)) fun m => out (List.mem_cons_of_mem _ m)⟩
/-- a clause asks whether the exception is its own -/
theorem Caught.asked (C : Caught X pins σ H a cls d B s0 s) (hf : X.env.frame = some X.env.locals) {q : Clause} (ok : q.Ok X) {b : Bool} (e : PySem.W.exmOne X.K cls q.cls = some b) {Q : Bool → Shared → Prop} {E E' : Value → Shared → Prop} (h : Q b s) :
    wpAny (model X.prog X.w) (X.A.mark (some (.ref a))) (eval (.Name q.name q.at_) X.env) (fun c s1 => wpAny (model X.prog X.w) (X.A.mark (some (.ref a))) (excMatches (.ref a) c) Q E' s1) E s := by
  obtain ⟨o, z, _, ho, S⟩ := C.pinned hf
  have type : PySem.W.Looks (model X.prog X.w) s.heap (typeOf (.ref a)) cls := fun _ _ _ _ k h => wpAny_typeOf_ref (k _ _ ho) (z.1.symm ▸ h)
  exact ld_glob S ok.glob ok.here ((PySem.W.exm_one C.inv.kIn type e).here h) ok.plain
/-- no clause is left: it flies on -/
theorem Caught.flies (C : Caught X pins σ H a cls d B s0 s) (hs : X.stack = X.env :: X.outer) (hf : X.env.frame = some X.env.locals) {W : WX} (tk : Takes X W) (w : W cls d σ H) {D : Ends} : wpAny (model X.prog X.w) X.A (handleBy (.ref a) X.env []) (SP X pins D) X.xe s := by
  obtain ⟨_, _, _, o, fs, T, _, _, ho, _, hd, h1, _⟩ := C.air
  have up : wpAny (model X.prog X.w) X.A (setFlight (.ref a) (some X.env.locals)) (fun _ s1 => wpAny (model X.prog X.w) X.A (throw (.ref a) : Sem Flow) (SP X pins D) X.xe s1) X.xe s :=
    HandSPX.setFlight_upZ C.air fun h held more => wpAny_throw (tk _ _ ⟨a, B, s0, pins, σ, H, cls, d, rfl, C.was, C.ground, C.slots.trans more, .inr (.inr (hs.symm ▸ held)), C.free, C.os, C.bare, w⟩)
  rw [← hf] at up
  refine wpAny_handleBy_nil (wpAny_bind (wpAny_field ho hd h1 ?_))
  rw [show (Value.ref T == Value.none) = false from rfl]
  exact wpAny_bind up
/-- the end of a suite: its name goes -/
theorem suite_ends {i : Nat} {n : Str} (hN : X.N.Nodup) (hi : X.N[i]? = some n) (hl : X.env.kindOf n = some .local) (ok : X.Ok) {o : Obj} {D : Ends} {f : Flow} {pos : Pos} (h : SP (X.suite a ((a, o) :: (X.pn ++ pins))) [] (gone i D) f s) :
    wpAny (model X.prog X.w) X.A (do bindName X.env n .none; unbindBehindTheSuite X.env n pos) (fun _ s1 => SP X pins D f s1) X.xe s := by
  match f, h with
  | .next, ⟨_, _, S, q⟩ => exact gone_ok (S.unsuite ok) hN hi hl fun _ J => ⟨_, _, J, q⟩
  | .brk, ⟨_, _, S, q⟩ => exact gone_ok (S.unsuite ok) hN hi hl fun _ J => ⟨_, _, J, q⟩
  | .cont, ⟨_, _, S, q⟩ => exact gone_ok (S.unsuite ok) hN hi hl fun _ J => ⟨_, _, J, q⟩
  | .ret _, ⟨_, _, _, S, r, q⟩ => exact gone_ok (S.unsuite ok) hN hi hl fun _ J => ⟨_, _, _, J, r, q⟩
theorem Caught.clauses {i : Nat} {n : Str} (hN : X.N.Nodup) (hi : X.N[i]? = some n) (hl : X.env.kindOf n = some .local) (hs : X.stack = X.env :: X.outer) (hf : X.env.frame = some X.env.locals) {W : WX} (tk : Takes X W) {D : Ends} (C : Caught X pins σ H a cls d B s0 s) :
    ∀ qs : List Clause, okAll X qs → wClauses X.K i W D qs cls d σ H → wpAny (model X.prog X.w) X.A (handleBy (.ref a) X.env (qs.map (Clause.node n))) (SP X pins D) X.xe s
  | [], _, w => C.flies hs hf tk w
  | q :: qs, ok, w => by
    refine wpAny_handleBy_cons (codeAny_handlers_test ?_) nofun
    rcases w with ⟨e, w⟩ | ⟨e, w⟩
    · refine C.asked hf ok.1 e (codeAny_handlers_suite_as (HandSPX.lands_againZ C.air fun h air up => ?_))
      obtain ⟨o, z, fs, _, S⟩ := (C.on up air).pinned hf
      refine store_ok (X := X.suite a ((a, o) :: (X.pn ++ pins))) (v := .ref a) S hN hi (.inl hl) rfl (fun s5 S5 => ?_) (.inr hl)
      exact wpAny_mono ((ok.1.suite a o cls d _ z fs).run [] s5 _ H _ S5 (w a C.free)) (fun f s6 h => suite_ends hN hi hl C.was.ok h) fun _ _ no => no.elim
    · exact C.asked hf ok.1 e (C.clauses hN hi hl hs hf tk qs ok.2 w)
end
/-- try: body, then clauses that bind the name n, slot i -/
theorem ps_clauses {X : Cx} {body : List Stmt} {q : Clause} {qs : List Clause} {pos : Pos} {tb : WX → TS} {W : WX} {i : Nat} {n : Str} (hN : X.N.Nodup) (hi : X.N[i]? = some n) (hl : X.env.kindOf n = some .local) (hs : X.stack = X.env :: X.outer) (hf : X.env.frame = some X.env.locals) (tk : Takes X W)
    (inner : ∀ (W : WX) (pn : List (Addr × Obj)) (xe : Value → Shared → Prop), Takes (X.tr pn xe) W → PassesOwn (model X.prog X.w) X.A X.env xe → PSs (X.tr pn xe) body (tb W)) (ok : okAll X (q :: qs)) :
    PS X (.Try body (q.node n :: qs.map (Clause.node n)) [] [] pos) fun D σ H => tb (wClauses X.K i W D (q :: qs)) D σ H where
  run pins s σ H D I h := by
    have frames : X.A.frames = some (X.env :: X.outer) := I.ok.frames.trans (hs ▸ rfl)
    refine wpAny_Try_except (wpAny_mono ((inner (wClauses X.K i W D (q :: qs)) (X.pn ++ pins) _ ?caught PassesOwn.looking).run [] s σ H D (I.toTry _) h) (fun f s1 r => ?through) fun _ _ e => e)
    case caught =>
      rintro _ s' ⟨a, B, sI, pins', σ', H', cls, d, rfl, J, ground, up, sky, free, os, bare, w⟩
      change Sky B X.stack a (Zc cls d) X.env.locals s'.heap at sky
      rw [hs] at sky
      exact Sky.land Zc.steady frames hf sky fun h air more => Caught.clauses (s := { s' with heap := h }) hN hi hl hs hf tk ⟨J.ofTry I.ok, ground, up.trans more, air, free, os, bare⟩ _ ok w
    case through =>
      match f, r with
      | .next, ⟨_, _, J, z⟩ => exact wpAny_execs_nil ⟨_, _, J.ofTry I.ok, z⟩
      | .brk, ⟨_, _, J, z⟩ => exact ⟨_, _, J.ofTry I.ok, z⟩
      | .cont, ⟨_, _, J, z⟩ => exact ⟨_, _, J.ofTry I.ok, z⟩
      | .ret _, ⟨_, _, _, J, v, z⟩ => exact ⟨_, _, _, J.ofTry I.ok, v, z⟩
/-- a wish may count upon the number of slots -/
theorem takes_len {X : Cx} {W : WX} (t : Takes X W) : Takes X fun cls d σ H => σ.length = X.N.length → W cls d σ H := by
  rintro u s ⟨a, B, sI, pins, σ, H, cls, d, e, I, nb, up, sky, na, os, ag, w⟩
  exact t u s ⟨a, B, sI, pins, σ, H, cls, d, e, I, nb, up, sky, na, os, ag, w I.len⟩
/-! ### x(lambda: body), the tables told -/
variable [Tbs]
/-- the def x at g, of one parameter a, first in its slots Ng -/
structure DefOne (K : PySem.W.Frag) (mg : Str → Option Value) (x a : Str) (g : Addr) (cdv : Value) (bg : List Stmt) (sg : Scope) (Ng : List Str) : Prop where
  here : mg x = some (.ref g)
  kept : PySem.W.keepIn K (.ref g) = true
  plain : (x == ("__debug__" : Str)) = false ∧ (a == ("__debug__" : Str)) = false ∧ (a == ("__classdict__" : Str)) = false
  obj : ∃ (oc dV kV doc pm ct : Value) (an od : Option Addr) (osl : Array (Option Value)) (pg : Arguments), K.lookup g = some ⟨oc, od, .func (PySem.W.fnOf x x pg bg sg dV kV doc pm an cdv ct), osl⟩ ∧ L2.Binds K (PySem.W.fnOf x x pg bg sg dV kV doc pm an cdv ct) [a] []
  code : PySem.W.codeIn K cdv x = true
  names : FnScope Ng [a] sg
  first : Ng[0]? = some a
  seen : Vis sg a
def tLamX (TT : (XK → Hp → VK → Prop) → Hp → VK → Prop) (t : XK → TE) : TE := fun σ H Q => LamX.Tabs Tbs.tabs H ∧ ∀ H1, (∀ A, Ex A H H1) → TT (fun E H' Q' => t E σ H' Q') H1 Q
theorem pe_lamX {X : Cx} {TT : (XK → Hp → VK → Prop) → Hp → VK → Prop} {x a : Str} {g c P : Addr} {k : Nat} {cdv : Value} {bg : List Stmt} {sg : Scope} {Ng : List Str} {params : Arguments} {body : Expr} {scope : Scope} {t : XK → TE} {p lpos pos : Pos} (glob : Gl X x) (G : DefOne X.K X.mg x a g cdv bg sg Ng)
    (gives : LamX.GivesTo X Ng x sg g cdv bg a (X.env.qual ++ "<lambda>") TT) (W : LamAt X c P) (hr : Room (k + 2) X.A) (L : LamX.LamS X.env.scope scope) (plain : defaultsOf params X.env = ([], []))
    (takes : ∀ (q : Str) (cl : List (Str × Addr)) (pm cv ctv : Value), bindArgs (PySem.W.kla_fn "<lambda>" q params body scope cl pm cv ctv) ⟨[], []⟩ = pure [])
    (inner : ∀ (A : Around) (outer : List Env) (s : Shared) (H : Hp) (E : XK) (f d : Addr), Room k (A.deeper (LamX.lamEnv X scope s.heap.objs.size f d)) → PE (LamX.lamCx X A outer s H E scope f d) body (t E)) :
    PE X (.Call (.Name x p) [.Lambda params body scope lpos] [] pos) (tLamX TT t) where
  run pins s σ H Q I h := by
    obtain ⟨oc, dV, kV, doc, pm, ct, an, od, osl, pg, lk, binds⟩ := G.obj
    obtain ⟨d1, d2, d3⟩ := G.plain
    refine wpAny_Call_Name_kw (ld_glob I glob G.here (PySem.W.callWith_K (h₀ := X.base) I.ok.mod.kin G.kept ?_ (by rfl) (by rfl)) d1)
    refine Calls.spliced_cons (lam_new I W h.1 plain (L.has I.ok) fun f d pm1 ctv H1 s1 M => Calls.spliced_nil ⟨M.inv.kIn, ?_⟩)
    refine wpAny_call (codeAny_mono (LamX.run_ofS (CX := C8.CX0) (E := C8.E0) (Q := Q) (us := [.ref f]) (vs := [.ref f]) lk G.code G.names hr M.inv.env0 (binds s1 [.ref f] M.inv.kIn rfl) (.cons rfl .nil) rfl fun room => ?_) fun r s2 got => ?_)
    · obtain ⟨u, hu, hq⟩ := gives f d s1 H1 Q (fun E H' Q' => t E σ H' Q') (fun W pn xe E p1 p2 tk hW => LamX.pe_act M.inv L M.obj M.free M.out (takes _ _ _ _ _) tk hW room (fun A outer s H r => inner A outer s H E f d r) G.first G.seen d2 d3) M.code (h.2 H1 M.ex)
      exact ⟨u, hu.nox, hq⟩
    · match r, got with
      | .error e, got => exact (show False from got).elim
      | .ok (.ret _), got => exact M.inv.after got
end K70
end
section
set_option maxHeartbeats 4000000
/-! _law_met; Stops made, by data. -/
namespace K70
open PySem PySem.Spec PyProof.Rows L2
variable [Tbs]
theorem Ex.drop {H1 H2 H3 : Hp} {x : Addr} (e : Ex [] H1 H2) (hx : H1 x = none) (e2 : Ex [x] H2 H3) : Ex [] H1 H3 := ⟨fun a o z => by
  obtain ⟨_, z1, t⟩ := wo_iff.mp z
  exact wo_of (by simp) (e2.get (by simp [ne_of_none z1 hx]) (e.at z1 t) t) t, fun a h => e2.dom a (e.dom a h), fun h => e2.tab (e.tab h)⟩
theorem init_of {K : PySem.W.Frag} {A B : List Addr} {H1 : Hp} {x dx : Addr} {hv bv : V} {dh db : PyData} {Q : VK} {E : XK} (dA : Dom A H1) (dB : Dom B H1) (hx : H1 x = none) (hdx : H1 dx = none) (hne : dx ≠ x) (rh : Rep (wo A H1) dh hv) (rb : Rep (wo A H1) db bv) (th : tinyD dh) (tb : (itemsD db).length ≤ 50 ∧ ∀ d ∈ itemsD db, tinyD d) (hT : LamX.Tabs Tbs.tabs H1)
    (keH : ∀ i, chk dh = .error i → Err K "BadHands" "index" H1 E (.int (i : Nat))) (kB0 : ∀ hs, chk dh = .ok hs → isL db = false → Err K "BadBand" "index" H1 E (.int (0 : Nat))) (kB : ∀ hs i, chk dh = .ok hs → isL db = true → badAt hs (itemsD db) 0 = some i → Err K "BadBand" "index" H1 E (.int (i : Nat)))
    (kOk : ∀ hs H', chk dh = .ok hs → isL db = true → badAt hs (itemsD db) 0 = none → Ex [] H1 H' → StopsAt K (wo B H') x hs (great ([] :: (lotsOf db).map srt)) → Q .non H') :
    spInit K [.ref x, hv, bv] (upd (upd H1 dx (.own x)) x (.ins (cS K) dx [])) Q E := by
  have e1 : Ex [] H1 (upd H1 dx (.own x)) := Ex.new hdx
  have hx1 : (upd H1 dx (.own x)) x = none := by rw [upd_ne (Ne.symm hne)]; exact hx
  have e2 : Ex [] (upd H1 dx (.own x)) (upd (upd H1 dx (.own x)) x (.ins (cS K) dx [])) := Ex.new hx1
  have s : Sub (wo A H1) (wo (x :: A) (upd (upd H1 dx (.own x)) x (.ins (cS K) dx []))) := (e1.any.old).trans (wo_new hx1)
  have e12 := e1.trans e2
  refine ⟨x :: A, x :: B, dh, db, hv, bv, x, dx, (dA.ex e1).new x _, (dB.ex e1).new x _, List.mem_cons_self .., List.mem_cons_self .., rfl, upd_same, rh.mono s, rb.mono s, th, tb, e12.tab hT, fun i hi e H' ex he => keH i hi e H' (e12.drop hx ex) he, fun hs hc => ⟨fun h e H' ex he => kB0 hs hc h e H' (e12.drop hx ex) he, fun i h1 h2 e H' ex he => kB hs i hc h1 h2 e H' (e12.drop hx ex) he, fun h1 h2 a1 a2 H' ex hx' ha1 ra2 => kOk hs H' hc h1 h2 (e12.drop hx ex) ?_⟩⟩
  exact ⟨dx, a1, a2, wo_of (dB.not hx) hx', wo_cons _ _ ha1, ra2.mono wo_cons⟩
/-! ### what checked_hands makes of hands -/
theorem chkGo_ok : ∀ {zs acc : Lot} {i : Nat}, okHs zs → (acc ++ zs).Nodup → chkGo i (zs.map .str) acc = .ok (acc ++ zs)
  | [], acc, i, _, _ => by
    show Except.ok acc = _
    rw [List.append_nil]
  | z :: zs, acc, i, h, nd => by
    have h1 := h z (List.mem_cons_self ..)
    have h2 : z ∉ acc := fun q => by
      rw [List.nodup_append] at nd
      exact nd.2.2 z q z (List.mem_cons_self ..) rfl
    have h3 : okN (.str z) acc = some z := by
      show (if isNm z = true ∧ z ∉ acc then some z else none) = _
      rw [if_pos ⟨h1, h2⟩]
    show chkGo i (.str z :: zs.map .str) acc = _
    unfold chkGo
    rw [h3]
    show chkGo (i + 1) (zs.map .str) (acc ++ [z]) = _
    rw [chkGo_ok (fun y hy => h y (List.mem_cons_of_mem _ hy)) (by rw [List.append_assoc]; exact nd), List.append_assoc]
    rfl
theorem chk_ls {zs : Lot} (h : okHs zs) (nd : zs.Nodup) : chk (ls zs) = if zs.length < 2 then .error zs.length else .ok (srt zs) := by
  show chkL (zs.map .str) = _
  unfold chkL
  rw [chkGo_ok h (by simpa using nd), List.nil_append]
theorem chk_tpl {zs : Lot} (h : okHs zs) (nd : zs.Nodup) : chk (tpl zs) = if zs.length < 2 then .error zs.length else .ok (srt zs) := chk_ls h nd
theorem chkGo_dup : ∀ {zs acc : Lot} {i : Nat} {r : List PyData} {h : Str}, okHs zs → (acc ++ zs).Nodup → h ∈ acc ++ zs → chkGo i (zs.map .str ++ .str h :: r) acc = .error (i + zs.length)
  | [], acc, i, r, h, _, _, hm => by
    rw [List.append_nil] at hm
    have h3 : okN (.str h) acc = none := by
      show (if isNm h = true ∧ h ∉ acc then some h else none) = _
      rw [if_neg (fun q => q.2 hm)]
    show chkGo i (.str h :: r) acc = _
    unfold chkGo
    rw [h3]
    rfl
  | z :: zs, acc, i, r, hh, h, nd, hm => by
    have h1 := h z (List.mem_cons_self ..)
    have h2 : z ∉ acc := fun q => by
      rw [List.nodup_append] at nd
      exact nd.2.2 z q z (List.mem_cons_self ..) rfl
    have h3 : okN (.str z) acc = some z := by
      show (if isNm z = true ∧ z ∉ acc then some z else none) = _
      rw [if_pos ⟨h1, h2⟩]
    show chkGo i (.str z :: (zs.map .str ++ .str hh :: r)) acc = _
    unfold chkGo
    rw [h3]
    show chkGo (i + 1) (zs.map .str ++ .str hh :: r) (acc ++ [z]) = _
    rw [chkGo_dup (fun y hy => h y (List.mem_cons_of_mem _ hy)) (by rw [List.append_assoc]; exact nd) (by rw [List.append_assoc]; exact hm), List.length_cons]
    congr 1
    omega
theorem chk_dup {zs : Lot} {h : Str} (hz : okHs zs) (nd : zs.Nodup) (hm : h ∈ zs) : chk (ls (zs ++ [h])) = .error zs.length := by
  show chkL ((zs ++ [h]).map .str) = _
  unfold chkL
  rw [List.map_append, List.map_singleton, chkGo_dup hz (by simpa using nd) (by simpa using hm), Nat.zero_add]
/-! ### lots -/
theorem lotD_of {d : PyData} {z hs : Lot} (h1 : isL d = true) (h2 : itemsD d = z.map .str) (nd : z.Nodup) (hz : ∀ y ∈ z, isNm y = true ∧ y ∈ hs) : lotD d hs = true := by
  unfold lotD
  rw [h1, h2, strsD_map]
  have e : ((z.map PyData.str).map fun d => handD d hs).all id = true := by
    rw [List.map_map, List.all_map, List.all_eq_true]
    intro y hy
    obtain ⟨q1, q2⟩ := hz y hy
    show (isNm y && decide (y ∈ hs)) = true
    rw [q1, decide_eq_true q2]
    rfl
  rw [e, Bool.true_and, Bool.true_and]
  exact decide_eq_true nd
theorem strsOf_of {d : PyData} {z : Lot} (h2 : itemsD d = z.map .str) : strsOf d = z := by
  unfold strsOf
  rw [h2, strsD_map]
  rfl
theorem badAt_all {hs : Lot} : ∀ {ds : List PyData} {i : Nat}, (∀ d ∈ ds, lotD d hs = true) → badAt hs ds i = none
  | [], _, _ => rfl
  | d :: r, i, h => by
    unfold badAt
    rw [if_pos (h d (List.mem_cons_self ..))]
    exact badAt_all fun e he => h e (List.mem_cons_of_mem _ he)
theorem badAt_at {hs : Lot} {d : PyData} {r : List PyData} (hd : lotD d hs = false) : ∀ {ds : List PyData} {i : Nat}, (∀ d ∈ ds, lotD d hs = true) → badAt hs (ds ++ d :: r) i = some (i + ds.length)
  | [], i, _ => by
    show badAt hs (d :: r) i = _
    unfold badAt
    rw [if_neg (by rw [hd]; simp)]
    rfl
  | e :: ds, i, h => by
    show badAt hs (e :: (ds ++ d :: r)) i = _
    unfold badAt
    rw [if_pos (h e (List.mem_cons_self ..)), badAt_at hd (fun e he => h e (List.mem_cons_of_mem _ he)), List.length_cons]
    congr 1
    omega
/-! ### _law_met -/
abbrev eH : Str × Str × Str := ("BadHands", "index", "hands")
abbrev eB : Str × Str × Str := ("BadBand", "index", "band")
abbrev eN : Str × Str × Str := ("NoHand", "thing", "no")
abbrev eP : Str × Str × Str := ("BadNumber", "thing", "number")
def ERRS : List (Str × Str × Str) := [eH, eB, eN, eP]
/-- an exception of the four classes, told as a pair -/
def Em (K : PySem.W.Frag) (Q : VK) : XK := fun cls d H1 => ∃ (t : Str × Str × Str) (y : V) (dd : Addr), t ∈ ERRS ∧ cls = .ref (He.ga K t.1) ∧ d = some dd ∧ H1 dd = some (.xd [(t.2.1, y)]) ∧ ∀ p, H1 p = none → Q (.ref p) (upd H1 p (.tup [.str t.2.2, y]))
def TTm (K : PySem.W.Frag) : (XK → Hp → VK → Prop) → Hp → VK → Prop := fun tl H Q => tl (Em K Q) H (fun v H1 => 2 ≤ sizeLine ∧ ∀ p, H1 p = none → Q (.ref p) (upd H1 p (.tup [.str "told", v])))
/-- _law_met, as a call of it takes it -/
theorem met_one {K : PySem.W.Frag} {mg : Str → Option Value} {base : Heap} (T : Top K mg base) : ∃ cdv, DefOne K mg "_law_met" "_law_ask" (He.ga K "_law_met") cdv (defBody s_wXmet) (defScope s_wXmet) ["_law_ask", "e"] := by
  obtain ⟨oc, od, dV, kV, doc, pm, an, cdv, ct, osl, e, lk, code, _, _⟩ := T.d_wXmet.ex
  have b := bd_wXmet T
  rw [e] at lk b
  exact ⟨cdv, T.g_wXmet, T.d_wXmet.kp, by decide, ⟨oc, dV, kV, doc, pm, ct, an, od, osl, _, lk, b⟩, code, sc_wXmet, rfl, .inl rfl⟩
/-- an exception of the t-th class, with y in its field, goes to its clause -/
theorem met_gives {X : Cx} (T : Top X.K X.mg X.base) {g : Addr} {cdg : Value} {q : Str} : LamX.GivesTo X ["_law_ask", "e"] "_law_met" (defScope s_wXmet) g cdg (defBody s_wXmet) "_law_ask" q (TTm X.K) := by
  intro f c' s H Q tl act hc h
  refine ⟨_, pss_one (ps_clauses (X := (cxOf C8.CX0 X.prog X.w X.K X.mg X.base ["_law_ask", "e"] "_law_met" (defScope s_wXmet) g cdg X.A X.stack s H C8.E0).nox) (i := 1) (n := "e")
      (q := ⟨"BadHands", _, _, _, _, _, _⟩) (qs := [⟨"BadBand", _, _, _, _, _, _⟩, ⟨"NoHand", _, _, _, _, _, _⟩, ⟨"BadNumber", _, _, _, _, _, _⟩])
      (tb := fun W D σ H => ∃ Ech : XK, (∀ cls d (σ' : L2.St) H', σ'.length = 2 → Ech cls d H' → W cls d σ' H') ∧ σ[0]? = some (some (.ref f)) ∧ H c' = some (LamX.CodeO c' q) ∧ tl Ech H (fun v H1 => 2 ≤ sizeLine ∧ ∀ p, H1 p = none → D.rt (.ref p) (upd H1 p (.tup [.str "told", v]))))
      sc_wXmet.nd rfl rfl rfl rfl LamX.takes0 (fun W pn xe tk _ => ?_)
      ⟨Clause.ok rfl T.g_BadHands (by decide) fun a oe cls d pn hz hf => pss_one (ps_ret (pe_tup (pa_cons pe_str (pa_cons (pe_xf T.f_BadHands T.no_BadHands hz hf (pv 1)) pa_nil)))),
        Clause.ok rfl T.g_BadBand (by decide) fun a oe cls d pn hz hf => pss_one (ps_ret (pe_tup (pa_cons pe_str (pa_cons (pe_xf T.f_BadBand T.no_BadBand hz hf (pv 1)) pa_nil)))),
        Clause.ok rfl T.g_NoHand (by decide) fun a oe cls d pn hz hf => pss_one (ps_ret (pe_tup (pa_cons pe_str (pa_cons (pe_xf T.f_NoHand T.no_NoHand hz hf (pv 1)) pa_nil)))),
        Clause.ok rfl T.g_BadNumber (by decide) fun a oe cls d pn hz hf => pss_one (ps_ret (pe_tup (pa_cons pe_str (pa_cons (pe_xf T.f_BadNumber T.no_BadNumber hz hf (pv 1)) pa_nil)))), trivial⟩), ?_⟩
  · refine ⟨fun pins s' σ H' D I ⟨Ech, hW, h1, h2, h3⟩ => ?_⟩
    exact (pss_one (ps_ret (pe_tup (pa_cons pe_str (pa_cons (act _ pn xe Ech _ _ (takes_len tk) fun cls d σ' H' e l => hW cls d σ' H' l e) pa_nil))))).run pins s' σ H' D I ⟨h1, h2, h3⟩
  · refine ⟨Em X.K Q, fun cls d σ' H' hl ⟨t, y, dd, ht, hcls, hdd, hxd, hk⟩ => ?_, rfl, hc, h⟩
    obtain ⟨s1, s2, rfl⟩ : ∃ s1 s2, σ' = [s1, s2] := by
      match σ', hl with
      | [s1, s2], _ => exact ⟨s1, s2, rfl⟩
    subst hcls hdd
    have two : 2 ≤ sizeLine := by decide
    have ht' : t = eH ∨ t = eB ∨ t = eN ∨ t = eP := by simpa only [ERRS, List.mem_cons, List.not_mem_nil, or_false] using ht
    rcases ht' with rfl | rfl | rfl | rfl
    · exact .inl ⟨T.e_BadHands_BadHands, fun a _ => ⟨.ref a, rfl, rfl, rfl, dd, _, y, rfl, hxd, rfl, two, hk⟩⟩
    · exact .inr ⟨T.e_BadBand_BadHands, .inl ⟨T.e_BadBand_BadBand, fun a _ => ⟨.ref a, rfl, rfl, rfl, dd, _, y, rfl, hxd, rfl, two, hk⟩⟩⟩
    · exact .inr ⟨T.e_NoHand_BadHands, .inr ⟨T.e_NoHand_BadBand, .inl ⟨T.e_NoHand_NoHand, fun a _ => ⟨.ref a, rfl, rfl, rfl, dd, _, y, rfl, hxd, rfl, two, hk⟩⟩⟩⟩
    · exact .inr ⟨T.e_BadNumber_BadHands, .inr ⟨T.e_BadNumber_BadBand, .inr ⟨T.e_BadNumber_NoHand, .inl ⟨T.e_BadNumber_BadNumber, fun a _ => ⟨.ref a, rfl, rfl, rfl, dd, _, y, rfl, hxd, rfl, two, hk⟩⟩⟩⟩⟩
theorem uq2 {K : PySem.W.Frag} {mg : Str → Option Value} {base : Heap} (T : Top K mg base) : ∀ p ∈ Tbs.tabs, p.1 = (He.cT K ("_law_refused_right", none)).2 → p.2 = (("_law_refused_right" : Str) ++ ".<locals>.") ++ "<lambda>" := by
  rw [T.tt]
  intro p hp e
  rcases List.mem_cons.mp hp with q | q
  · rw [q] at e
    exact absurd e T.t12
  · rw [List.mem_singleton.mp q]
end K70
end
section
set_option maxHeartbeats 4000000
/-! What is refused. -/
namespace K70
open PySem PySem.Spec PyProof.Rows L2
variable [Tbs]
/-- the answers found so far -/
structure Fnd (A : List Addr) (S L q : Addr) (n : Nat) (H0 H : Hp) (ds : List PyData) (acc : List V) : Prop where
  e : Ex [S, L] H0 H
  h : H q = some (.lst acc)
  r : RepL (wo (q :: A) H) ds acc
  new : H0 q = none
  dom : Dom A H0
  mS : S ∈ A
  mL : L ∈ A
  st : Strm H S L n
  len : acc.length ≤ 20
theorem Fnd.sub {A : List Addr} {S L q : Addr} {n : Nat} {H0 H : Hp} {ds : List PyData} {acc : List V} (f : Fnd A S L q n H0 H ds acc) : Sub (wo A H0) (wo A H) := (f.e.of2 f.mS f.mL).old
theorem Fnd.subq {A : List Addr} {S L q : Addr} {n : Nat} {H0 H : Hp} {ds : List PyData} {acc : List V} (f : Fnd A S L q n H0 H ds acc) : Sub (wo A H0) (wo (q :: A) H) := fun a o h => by
  obtain ⟨n1, h1, t⟩ := wo_iff.mp (f.sub a o h)
  refine wo_iff.mpr ⟨fun z => ?_, h1, t⟩
  rcases List.mem_cons.1 z with z | z
  · exact ne_of_none (wo_at h) f.new z
  · exact n1 z
theorem Fnd.step {A : List Addr} {S L q : Addr} {n : Nat} {H0 H : Hp} {ds : List PyData} {acc : List V} (f : Fnd A S L q n H0 H ds acc) {H1 : Hp} {z : Str} {y : V} {dy : PyData} {p : Addr} (e1 : Ex [] H H1) (hp : H1 p = none) (ry : Rep (wo (q :: A) H1) dy y) (hl : acc.length ≤ 19) :
    (upd H1 p (.tup [.str z, y])) q = some (.lst acc) ∧ acc.length < sizeLine ∧ Fnd A S L q n H0 (upd (upd H1 p (.tup [.str z, y])) q (.lst (acc ++ [.ref p]))) (ds ++ [.tuple [.str z, dy]]) (acc ++ [.ref p]) := by
  have e2 : Ex [] H1 (upd H1 p (.tup [.str z, y])) := Ex.new hp
  have e12 := e1.trans e2
  have hq := e12.at f.h
  have ne := f.st.ne (e1.back hp)
  have hqSL : q ≠ S ∧ q ≠ L := by
    have out : ∀ c, c ∈ _ → q ≠ c := fun c m z => f.dom c m (z ▸ f.new)
    exact ⟨out S f.mS, out L f.mL⟩
  have dq : Dom (q :: A) H1 := fun c hc => by
    rcases List.mem_cons.1 hc with z | hc
    · rw [z, e1.at f.h]; simp
    · exact e1.dom c (f.e.dom c (f.dom c hc))
  refine ⟨hq, Nat.lt_of_le_of_lt (show acc.length ≤ 20 by omega) (by decide), (f.e.trans e12.any).putNew f.new hq, upd_same, ?_, f.new, f.dom, f.mS, f.mL, ?_, by rw [List.length_append]; exact Nat.succ_le_succ hl⟩
  · rw [wo_put (List.mem_cons_self ..)]
    exact (f.r.mono (e12.any (A := q :: A)).old).snoc ⟨p, _, rfl, wo_of (dq.not hp) upd_same, .cons rfl (.cons (ry.mono (e2.any (A := q :: A)).old) .nil)⟩
  · obtain ⟨xs, aa, mm, cc, z1, z2, z3, z4⟩ := f.st.ex e12
    exact ⟨xs, aa, mm, cc, z1, by rw [upd_ne (Ne.symm hqSL.1)]; exact z2, by rw [upd_ne (Ne.symm hqSL.2)]; exact z3, z4⟩
theorem nodup_len {xs : Lot} : ∀ {ys : Lot}, xs.Nodup → (∀ x ∈ xs, x ∈ ys) → xs.length ≤ ys.length := by
  induction xs with
  | nil => intro ys _ _; exact Nat.zero_le _
  | cons x xs ih =>
    intro ys nd h
    have hx := h x (List.mem_cons_self ..)
    obtain ⟨n1, n2⟩ := List.nodup_cons.1 nd
    have := ih (ys := ys.erase x) n2 fun y hy => (List.mem_erase_of_ne (fun z => n1 (by rw [← z]; exact hy))).mpr (h y (List.mem_cons_of_mem _ hy))
    rw [List.length_erase_of_mem hx] at this
    have hp : 0 < ys.length := List.length_pos_of_mem hx
    rw [List.length_cons]
    omega
theorem tupNew {A : List Addr} {H : Hp} {p : Addr} {z y : V} {dz dy : PyData} (d : Dom A H) (hp : H p = none) (rz : Rep (wo A H) dz z) (ry : Rep (wo A H) dy y) : Ex [] H (upd H p (.tup [z, y])) ∧ Rep (wo A (upd H p (.tup [z, y]))) (.tuple [dz, dy]) (.ref p) ∧ Dom A (upd H p (.tup [z, y])) := by
  have e : Ex [] H (upd H p (.tup [z, y])) := Ex.new hp
  exact ⟨e, ⟨p, _, rfl, wo_of (d.not hp) upd_same, .cons (rz.mono (e.any (A := A)).old) (.cons (ry.mono (e.any (A := A)).old) .nil)⟩, d.ex e⟩
theorem isNm_A : isNm "A" = false := by decide +kernel
theorem six_zz9 : ("zz9" : Str) ∉ SIX := by decide +kernel
theorem lotD_noL {d : PyData} {hs : Lot} (h : isL d = false) : lotD d hs = false := by
  unfold lotD
  rw [h, Bool.false_and]
theorem lotD_not {d x : PyData} {r : List PyData} {hs : Lot} (h : itemsD d = x :: r) (hx : handD x hs = false) : lotD d hs = false := by
  unfold lotD
  rw [h, List.map_cons, List.all_cons, hx]
  simp
section
variable {P : Program} {w : World} {K : PySem.W.Frag} {mg : Str → Option Value} {base : Heap}
def spRef (K : PySem.W.Frag) : Sp := fun vs H Q _ => ∃ (A : List Addr) (S L x a : Addr) (n : Nat) (hs : Lot) (bs gs : List Lot) (v : V), Dom A H ∧ S ∈ A ∧ L ∈ A ∧ vs = [.ref S, .ref x, .ref a, v] ∧ Strm H S L n ∧ n + 10 ≤ 1000000000 ∧ StopsAt K (wo A H) x (srt hs) gs ∧ wo A H a = some (.lst (hs.map V.str)) ∧ Rep (wo A H) (lls bs) v ∧
  LotsOf hs bs ∧ okHs hs ∧ hs.Nodup ∧ 2 ≤ hs.length ∧ hs.length ≤ 6 ∧ (∀ z ∈ hs, z ∈ SIX) ∧ gs.length ≤ 1000 ∧ (∀ g ∈ gs, g.length ≤ 1000) ∧ LamX.Tabs Tbs.tabs H ∧ ∀ H', Ex [S, L] H H' → Strm H' S L (n + 5) → Q (.bl true) H'
theorem ok_wXrefusedXright (T : Top K mg base) : FnOk P w K mg base CX0 12 (He.ga K "_law_refused_right") (fdOf K (He.ga K "_law_refused_right")) ["_law_stream", "_law_stops", "_law_hands_here", "_law_lists"] (spRef K) := by
  have G_wXpick := ok_wXpick (P := P) (w := w) T
  have b_wXpick := bd_wXpick T
  have G_wXdraw := ok_wXdraw (P := P) (w := w) T
  have b_wXdraw := bd_wXdraw T
  have G_wXsame := ok_same (P := P) (w := w) T 5
  have b_wXsame := bd_wXsame T
  obtain ⟨_, Dm⟩ := met_one T
  have G_StopsXinit := ok_StopsXinit (P := P) (w := w) T
  have b_StopsXinit := bd_StopsXinit T
  have G_halves := ok_halves (P := P) (w := w) T
  have b_halves := bd_halves T
  have G_canXstore := ok_canXstore (P := P) (w := w) T
  have b_canXstore := bd_canXstore T
  refine ok_code T.d_wXrefusedXright (p := ("_law_refused_right", none)) rfl sc_wXrefusedXright (fun vs H Q E h => ?len) (fun A outer s H vs Q E hr h => ⟨_, PSs.nox (pss_cons (ps_set (i := 10) sc_wXrefusedXright.nd rfl (Or.inr rfl) (pe_call G_wXpick (hr.mono (by decide)) rfl T.g_wXpick T.d_wXpick.kp b_wXpick .nil pass0 (pa_cons (pv 0) (pa_cons (pe_lst (pa_cons pe_non (pa_cons pe_int (pa_cons pe_str (pa_cons pe_dnewK (pa_cons pe_bl pa_nil)))))) pa_nil))))
    (pss_cons (ps_set (i := 6) sc_wXrefusedXright.nd rfl (Or.inr rfl) (pe_call G_wXdraw (hr.mono (by decide)) rfl T.g_wXdraw T.d_wXdraw.kp b_wXdraw .nil pass0 (pa_cons (pv 0) (pa_cons (pe_op op_add (pe_callB call_lenS (by rfl) T.n_len (by decide +kernel) (pa_cons (pv 3) pa_nil)) pe_int) pa_nil))))
    (pss_cons (ps_set (i := 9) sc_wXrefusedXright.nd rfl (Or.inr rfl) (pe_call G_wXpick (hr.mono (by decide)) rfl T.g_wXpick T.d_wXpick.kp b_wXpick .nil pass0 (pa_cons (pv 0) (pa_cons (pe_lst (pa_cons pe_non (pa_cons pe_str (pa_cons pe_int (pa_cons (pe_lst (pa_cons pe_str pa_nil)) (pa_cons (pe_op op_rep (pe_slice sl_listS (pv 2) po_none (po_some pe_int)) pe_int) (pa_cons (pe_lst (pa_cons pe_non pa_nil)) (pa_cons pe_dnewK (pa_cons (pe_lst (pa_cons (pe_lst pa_nil) pa_nil)) pa_nil))))))))) pa_nil))))
    (pss_cons (ps_set (i := 7) sc_wXrefusedXright.nd rfl (Or.inr rfl) (pe_call G_wXpick (hr.mono (by decide)) rfl T.g_wXpick T.d_wXpick.kp b_wXpick .nil pass0 (pa_cons (pv 0) (pa_cons (pe_lst (pa_cons pe_non (pa_cons pe_int (pa_cons pe_str (pa_cons (pe_tup pa_nil) (pa_cons (pe_lst pa_nil) (pa_cons pe_bl (pa_cons pe_str pa_nil)))))))) pa_nil))))
    (pss_cons (ps_set (i := 8) sc_wXrefusedXright.nd rfl (Or.inr rfl) (pe_call G_wXpick (hr.mono (by decide)) rfl T.g_wXpick T.d_wXpick.kp b_wXpick .nil pass0 (pa_cons (pv 0) (pa_cons (pe_lst (pa_cons pe_non (pa_cons pe_int (pa_cons (pe_un un_neg pe_int) (pa_cons pe_bl (pa_cons pe_str (pa_cons (pe_tup pa_nil) (pa_cons (pe_lst pa_nil) pa_nil)))))))) pa_nil))))
    (pss_cons (ps_set (i := 4) sc_wXrefusedXright.nd rfl (Or.inl rfl) (pe_lst (pa_cons (pe_lamX (k := 8) rfl Dm (met_gives T) ⟨T.tb2, rfl, (by show _ ∈ Tbs.tabs; rw [T.tt]; exact List.mem_cons_of_mem _ (List.mem_cons_self ..)), uq2 T⟩ (hr.mono (by decide)) (LamX.lamS_by rfl) rfl (fun _ _ _ _ _ => rfl) (fun A outer s H E f c' hr2 => (pe_make T.mk_Stops G_StopsXinit (hr2.mono (by decide)) rfl T.g_Stops b_StopsXinit .nil (passes_call (takes_of rfl rfl rfl rfl) fun _ _ _ _ h => h) (pa_cons (pe_slice sl_listS (pv 2) po_none (po_some pe_int)) (pa_cons (pv 10) pa_nil))))) pa_nil)))
    (pss_cons (ps_expr (pe_bm PySem.F.plainAttrs_list PySem.F.slot_list_append PySem.F.type_list_append mt_append (pv 4) (pa_cons (pe_lamX (k := 8) rfl Dm (met_gives T) ⟨T.tb2, rfl, (by show _ ∈ Tbs.tabs; rw [T.tt]; exact List.mem_cons_of_mem _ (List.mem_cons_self ..)), uq2 T⟩ (hr.mono (by decide)) (LamX.lamS_by rfl) rfl (fun _ _ _ _ _ => rfl) (fun A outer s H E f c' hr2 => (pe_make T.mk_Stops G_StopsXinit (hr2.mono (by decide)) rfl T.g_Stops b_StopsXinit .nil (passes_call (takes_of rfl rfl rfl rfl) fun _ _ _ _ h => h) (pa_cons (pv 10) (pa_cons pe_non pa_nil))))) pa_nil)))
    (pss_cons (ps_expr (pe_bm PySem.F.plainAttrs_list PySem.F.slot_list_append PySem.F.type_list_append mt_append (pv 4) (pa_cons (pe_lamX (k := 8) rfl Dm (met_gives T) ⟨T.tb2, rfl, (by show _ ∈ Tbs.tabs; rw [T.tt]; exact List.mem_cons_of_mem _ (List.mem_cons_self ..)), uq2 T⟩ (hr.mono (by decide)) (LamX.lamS_by rfl) rfl (fun _ _ _ _ _ => rfl) (fun A outer s H E f c' hr2 => (pe_make T.mk_Stops G_StopsXinit (hr2.mono (by decide)) rfl T.g_Stops b_StopsXinit .nil (passes_call (takes_of rfl rfl rfl rfl) fun _ _ _ _ h => h) (pa_cons (pe_op op_cat (pv 2) (pe_slice sl_listS (pv 2) po_none (po_some pe_int))) (pa_cons (pv 3) pa_nil))))) pa_nil)))
    (pss_cons (ps_expr (pe_bm PySem.F.plainAttrs_list PySem.F.slot_list_append PySem.F.type_list_append mt_append (pv 4) (pa_cons (pe_lamX (k := 8) rfl Dm (met_gives T) ⟨T.tb2, rfl, (by show _ ∈ Tbs.tabs; rw [T.tt]; exact List.mem_cons_of_mem _ (List.mem_cons_self ..)), uq2 T⟩ (hr.mono (by decide)) (LamX.lamS_by rfl) rfl (fun _ _ _ _ _ => rfl) (fun A outer s H E f c' hr2 => (pe_make T.mk_Stops G_StopsXinit (hr2.mono (by decide)) rfl T.g_Stops b_StopsXinit .nil (passes_call (takes_of rfl rfl rfl rfl) fun _ _ _ _ h => h) (pa_cons (pv 2) (pa_cons (pv 10) pa_nil))))) pa_nil)))
    (pss_cons (ps_expr (pe_bm PySem.F.plainAttrs_list PySem.F.slot_list_append PySem.F.type_list_append mt_append (pv 4) (pa_cons (pe_lamX (k := 8) rfl Dm (met_gives T) ⟨T.tb2, rfl, (by show _ ∈ Tbs.tabs; rw [T.tt]; exact List.mem_cons_of_mem _ (List.mem_cons_self ..)), uq2 T⟩ (hr.mono (by decide)) (LamX.lamS_by rfl) rfl (fun _ _ _ _ _ => rfl) (fun A outer s H E f c' hr2 => (pe_make T.mk_Stops G_StopsXinit (hr2.mono (by decide)) rfl T.g_Stops b_StopsXinit .nil (passes_call (takes_of rfl rfl rfl rfl) fun _ _ _ _ h => h) (pa_cons (pv 2) (pa_cons (pe_op op_cat (pe_op op_cat (pe_slice sl_listS (pv 3) po_none (po_some (pv 6))) (pe_lst (pa_cons (pv 9) (pa_cons pe_non pa_nil)))) (pe_slice sl_listS (pv 3) (po_some (pv 6)) po_none)) pa_nil))))) pa_nil)))
    (pss_cons (ps_expr (pe_bm PySem.F.plainAttrs_list PySem.F.slot_list_append PySem.F.type_list_append mt_append (pv 4) (pa_cons (pe_lamX (k := 8) rfl Dm (met_gives T) ⟨T.tb2, rfl, (by show _ ∈ Tbs.tabs; rw [T.tt]; exact List.mem_cons_of_mem _ (List.mem_cons_self ..)), uq2 T⟩ (hr.mono (by decide)) (LamX.lamS_by rfl) rfl (fun _ _ _ _ _ => rfl) (fun A outer s H E f c' hr2 => (pe_call G_halves (hr2.mono (by decide)) rfl T.g_halves T.d_halves.kp b_halves .nil (passes_call (takes_of rfl rfl rfl rfl) fun _ _ _ _ h => h) (pa_cons (pv 1) (pa_cons (pv 7) (pa_cons pe_non pa_nil)))))) pa_nil)))
    (pss_cons (ps_expr (pe_bm PySem.F.plainAttrs_list PySem.F.slot_list_append PySem.F.type_list_append mt_append (pv 4) (pa_cons (pe_lamX (k := 8) rfl Dm (met_gives T) ⟨T.tb2, rfl, (by show _ ∈ Tbs.tabs; rw [T.tt]; exact List.mem_cons_of_mem _ (List.mem_cons_self ..)), uq2 T⟩ (hr.mono (by decide)) (LamX.lamS_by rfl) rfl (fun _ _ _ _ _ => rfl) (fun A outer s H E f c' hr2 => (pe_call G_halves (hr2.mono (by decide)) rfl T.g_halves T.d_halves.kp b_halves .nil (passes_call (takes_of rfl rfl rfl rfl) fun _ _ _ _ h => h) (pa_cons (pv 1) (pa_cons (pe_ix ix_listS (pv 2) pe_int (fun _ _ => rfl)) (pa_cons (pv 7) pa_nil)))))) pa_nil)))
    (pss_cons (ps_expr (pe_bm PySem.F.plainAttrs_list PySem.F.slot_list_append PySem.F.type_list_append mt_append (pv 4) (pa_cons (pe_lamX (k := 8) rfl Dm (met_gives T) ⟨T.tb2, rfl, (by show _ ∈ Tbs.tabs; rw [T.tt]; exact List.mem_cons_of_mem _ (List.mem_cons_self ..)), uq2 T⟩ (hr.mono (by decide)) (LamX.lamS_by rfl) rfl (fun _ _ _ _ _ => rfl) (fun A outer s H E f c' hr2 => (pe_call G_canXstore (hr2.mono (by decide)) rfl T.g_canXstore T.d_canXstore.kp b_canXstore .nil (passes_call (takes_of rfl rfl rfl rfl) fun _ _ _ _ h => h) (pa_cons (pv 1) (pa_cons (pv 8) pa_nil))))) pa_nil)))
    (pss_cons (ps_set (i := 5) sc_wXrefusedXright.nd rfl (Or.inl rfl) (pe_lst (pa_cons (pe_tup (pa_cons pe_str (pa_cons pe_int pa_nil))) (pa_cons (pe_tup (pa_cons pe_str (pa_cons pe_int pa_nil))) (pa_cons (pe_tup (pa_cons pe_str (pa_cons (pe_callB call_lenS (by rfl) T.n_len (by decide +kernel) (pa_cons (pv 2) pa_nil)) pa_nil))) (pa_cons (pe_tup (pa_cons pe_str (pa_cons pe_int pa_nil))) (pa_cons (pe_tup (pa_cons pe_str (pa_cons (pv 6) pa_nil))) (pa_cons (pe_tup (pa_cons pe_str (pa_cons (pv 7) pa_nil))) (pa_cons (pe_tup (pa_cons pe_str (pa_cons (pv 7) pa_nil))) pa_nil)))))))))
    (pss_one (ps_ret (pe_call G_wXsame (hr.mono (by decide)) rfl T.g_wXsame T.d_wXsame.kp b_wXsame .nil pass0 (pa_cons (pv 4) (pa_cons (pe_op op_cat (pv 5) (pe_lst (pa_cons (pe_tup (pa_cons pe_str (pa_cons (pv 8) pa_nil))) pa_nil))) pa_nil))))))))))))))))))), ?go⟩)
  case len =>
    obtain ⟨A, S, L, x, a, n, hs, bs, gs, v, _, _, _, rfl, _⟩ := h
    rfl
  case go =>
    obtain ⟨A, S, L, x, a, n, hs, bs, gs, v, dA, mS, mL, rfl, st, hn, hS, ha, rv, hL, hok, hnd, h2, h6, hsix, hgl, hgl2, hT, k⟩ := h
    have mSL : ∀ c, c ∈ [S, L] → c ∈ A := fun c hc => by
      rcases List.mem_cons.1 hc with q | hc
      · rw [q]; exact mS
      · rw [List.mem_singleton.mp hc]; exact mL
    -- thing
    refine ⟨_, rfl, fun p1 hp1 => ⟨by show 5 ≤ sizeLine; decide, fun r hr => ?_⟩⟩
    have f1 : Ex [] H (upd H p1 (.dK [])) := Ex.new hp1
    have f2 : Ex [] (upd H p1 (.dK [])) (upd (upd H p1 (.dK [])) r (.lst [.non, .int 5, .str "ab", .ref p1, .bl true])) := Ex.new hr
    have f12 := f1.trans f2
    have hrH := f1.back hr
    refine ⟨S, L, r, n, _, rfl, st.ex f12, by omega, (st.ne hrH).1, (st.ne hrH).2, upd_same, by show 0 < 5; decide, by show 5 < 1000; decide, fun i1 vt H1 hi1 e1 st1 => ?_⟩
    have rt1 : ∃ d, d ∈ ([.none, .int 5, .str "ab", .dict [], .bool true] : List PyData) ∧ Rep (wo A H1) d vt := by
      have rr : RepL (wo A (upd (upd H p1 (.dK [])) r (.lst [.non, .int 5, .str "ab", .ref p1, .bl true]))) [.none, .int 5, .str "ab", .dict [], .bool true] [.non, .int 5, .str "ab", .ref p1, .bl true] :=
        .cons rfl (.cons rfl (.cons rfl (.cons ⟨p1, rfl, wo_of (dA.not hp1) (f2.at upd_same)⟩ (.cons rfl .nil))))
      obtain ⟨d, hd, rd⟩ := (rr.mono (e1.le mSL).old).get hi1
      exact ⟨d, List.mem_of_getElem? hd, rd⟩
    obtain ⟨dt, hdt, rt⟩ := rt1
    have E1 : Ex [S, L] H H1 := f12.any.trans e1
    clear f1 f2 f12 hrH
    have pt : isL dt = false := by
      simp only [List.mem_cons, List.not_mem_nil, or_false] at hdt
      rcases hdt with q | q | q | q | q <;> rw [q] <;> rfl
    have ti : itemsD dt = [] := items_nil pt
    clear hdt
    -- at
    obtain ⟨av, bvs, rfl, hav, rbs⟩ := rv
    have hbl : bvs.length = bs.length := by rw [rbs.len, List.length_map]
    have hav1 := (E1.le mSL).old _ _ hav
    refine ⟨_, rfl, _, rfl, av, bvs, rfl, .inl (wo_at hav1), _, _, rfl, rfl, S, L, n + 1, bvs.length + 1, by rfl, by omega, by have := hL.len; omega, st1, by omega, fun at_ H2 hat e2 st2 => ?_⟩
    have E2 := E1.trans e2
    have d2 : Dom A H2 := fun c hc => E2.dom c (dA c hc)
    have ha2 := (E2.le mSL).old _ _ ha
    -- odd
    refine ⟨_, rfl, by show 1 ≤ sizeLine; decide, fun p1 hp1 => ?_⟩
    have n1 : Ex [] H2 (upd H2 p1 (.lst [.str "zz9"])) := Ex.new hp1
    have r1 : Rep (wo A (upd H2 p1 (.lst [.str "zz9"]))) (ls ["zz9"]) (.ref p1) := Rep.ls.mpr ⟨p1, rfl, wo_of (d2.not hp1) upd_same⟩
    generalize (upd H2 p1 (.lst [.str "zz9"])) = H3 at n1 r1 ⊢
    have d3 := d2.ex n1
    have ha3 := (n1.any (A := A)).old _ _ ha2
    refine ⟨_, rfl, _, rfl, a, _, rfl, wo_at ha3, fun p2 hp2 => ?_⟩
    have ec : cutV (hs.map V.str) none (some 1) = (hs.take 1).map V.str := by
      rw [show (some (1 : Int)) = some ((1 : Nat) : Int) from rfl, cut_to, ← List.map_take]
    rw [ec]
    have n2 : Ex [] H3 (upd H3 p2 (.lst ((hs.take 1).map V.str))) := Ex.new hp2
    have r2 : (upd H3 p2 (.lst ((hs.take 1).map V.str))) p2 = some (.lst ((hs.take 1).map V.str)) := upd_same
    generalize (upd H3 p2 (.lst ((hs.take 1).map V.str))) = H4 at n2 r2 ⊢
    have d4 := d3.ex n2
    have hone : hs.take 1 = [hs.headD ""] := by
      cases hs with
      | nil => exact absurd h2 (by decide)
      | cons z zs => rfl
    have hhm : hs.headD "" ∈ hs := by
      cases hs with
      | nil => exact absurd h2 (by decide)
      | cons z zs => exact List.mem_cons_self ..
    generalize hs.headD "" = h0 at hone hhm
    rw [hone] at r2
    refine ⟨p2, 2, _, rfl, rfl, r2, by decide, by decide, by show 1 * 2 ≤ sizeLine; decide, fun p3 hp3 => ?_⟩
    have n3 : Ex [] H4 (upd H4 p3 (.lst [.str h0, .str h0])) := Ex.new hp3
    have r3 : Rep (wo A (upd H4 p3 (.lst [.str h0, .str h0]))) (ls [h0, h0]) (.ref p3) := Rep.ls.mpr ⟨p3, rfl, wo_of (d4.not hp3) upd_same⟩
    generalize hH5 : (upd H4 p3 (.lst (List.replicate (2 : Int).toNat ([h0].map V.str)).flatten)) = H5
    have n3 : Ex [] H4 H5 := by rw [← hH5]; exact Ex.new hp3
    have r3 : Rep (wo A H5) (ls [h0, h0]) (.ref p3) := by rw [← hH5]; exact Rep.ls.mpr ⟨p3, rfl, wo_of (d4.not hp3) upd_same⟩
    clear hH5
    have d5 := d4.ex n3
    refine ⟨by show 1 ≤ sizeLine; decide, fun p4 hp4 => ?_⟩
    have n4 : Ex [] H5 (upd H5 p4 (.lst [.non])) := Ex.new hp4
    have r4 : Rep (wo A (upd H5 p4 (.lst [.non]))) (.list [.none]) (.ref p4) := ⟨p4, _, rfl, wo_of (d5.not hp4) upd_same, .cons rfl .nil⟩
    generalize (upd H5 p4 (.lst [.non])) = H6 at n4 r4 ⊢
    have d6 := d5.ex n4
    intro p5 hp5
    have n5 : Ex [] H6 (upd H6 p5 (.dK [])) := Ex.new hp5
    have r5 : Rep (wo A (upd H6 p5 (.dK []))) (.dict []) (.ref p5) := ⟨p5, rfl, wo_of (d6.not hp5) upd_same⟩
    generalize (upd H6 p5 (.dK [])) = H7 at n5 r5 ⊢
    have d7 := d6.ex n5
    refine ⟨by show 0 ≤ sizeLine; decide, fun p6 hp6 => ?_⟩
    have n6 : Ex [] H7 (upd H7 p6 (.lst [])) := Ex.new hp6
    have r6 : Rep (wo A (upd H7 p6 (.lst []))) (.list []) (.ref p6) := ⟨p6, _, rfl, wo_of (d7.not hp6) upd_same, .nil⟩
    generalize (upd H7 p6 (.lst [])) = H8 at n6 r6 ⊢
    have d8 := d7.ex n6
    refine ⟨by show 1 ≤ sizeLine; decide, fun p7 hp7 => ?_⟩
    have n7 : Ex [] H8 (upd H8 p7 (.lst [.ref p6])) := Ex.new hp7
    have r7 : Rep (wo A (upd H8 p7 (.lst [.ref p6]))) (.list [.list []]) (.ref p7) := ⟨p7, _, rfl, wo_of (d8.not hp7) upd_same, .cons (r6.mono (n7.any (A := A)).old) .nil⟩
    generalize (upd H8 p7 (.lst [.ref p6])) = H9 at n7 r7 ⊢
    have d9 := d8.ex n7
    refine ⟨by show 8 ≤ sizeLine; decide, fun r8 hr8 => ?_⟩
    have n8 : Ex [] H9 (upd H9 r8 (.lst [.non, .str "a", .int 5, .ref p1, .ref p3, .ref p4, .ref p5, .ref p7])) := Ex.new hr8
    have k8 : (upd H9 r8 (.lst [.non, .str "a", .int 5, .ref p1, .ref p3, .ref p4, .ref p5, .ref p7])) r8 = some (.lst [.non, .str "a", .int 5, .ref p1, .ref p3, .ref p4, .ref p5, .ref p7]) := upd_same
    have n29 : Ex [] H2 H9 := n1.trans (n2.trans (n3.trans (n4.trans (n5.trans (n6.trans n7)))))
    have hr82 := n29.back hr8
    refine ⟨S, L, r8, n + 2, _, rfl, (st2.ex n29).ex n8, by omega, (st2.ne hr82).1, (st2.ne hr82).2, k8, by show 0 < 8; decide, by show 8 < 1000; decide, fun i3 vo H10 hi3 e3 st3 => ?_⟩
    have ro1 : ∃ d, d ∈ ([.none, .str "a", .int 5, ls ["zz9"], ls [h0, h0], .list [.none], .dict [], .list [.list []]] : List PyData) ∧ Rep (wo A H10) d vo := by
      have rr : RepL (wo A H9) [.none, .str "a", .int 5, ls ["zz9"], ls [h0, h0], .list [.none], .dict [], .list [.list []]] [.non, .str "a", .int 5, .ref p1, .ref p3, .ref p4, .ref p5, .ref p7] :=
        .cons rfl (.cons rfl (.cons rfl (.cons (r1.mono ((n2.trans (n3.trans (n4.trans (n5.trans (n6.trans n7))))).any (A := A)).old) (.cons (r3.mono ((n4.trans (n5.trans (n6.trans n7))).any (A := A)).old) (.cons (r4.mono ((n5.trans (n6.trans n7)).any (A := A)).old) (.cons (r5.mono ((n6.trans n7).any (A := A)).old) (.cons r7 .nil)))))))
      obtain ⟨d, hd, rd⟩ := ((rr.mono (n8.any (A := A)).old).mono (e3.le mSL).old).get hi3
      exact ⟨d, List.mem_of_getElem? hd, rd⟩
    obtain ⟨dod, hdo, ro⟩ := ro1
    have e210 : Ex [S, L] H2 H10 := (n29.trans n8).any.trans e3
    have E3 : Ex [S, L] H H10 := E2.trans e210
    clear n1 n2 n3 n4 n5 n6 n7 n8 r1 r2 r3 r4 r5 r6 r7 k8 n29 hr82 hr8 hp1 hp2 hp3 hp4 hp5 hp6 hp7 d3 d4 d5 d6 d7 d8 d9 ha3 ec
    have hnot : ∀ z, z ∉ SIX → handD (.str z) (srt hs) = false := fun z hz => by
      show (isNm z && decide (z ∈ srt hs)) = false
      rw [decide_eq_false (fun q => hz (hsix z (mem_srt.mp q))), Bool.and_false]
    have po : lotD dod (srt hs) = false ∧ tinyD dod := by
      simp only [List.mem_cons, List.not_mem_nil, or_false] at hdo
      rcases hdo with q | q | q | q | q | q | q | q <;> rw [q]
      · exact ⟨lotD_noL rfl, Nat.zero_le _, fun y hy => by cases hy⟩
      · exact ⟨lotD_noL rfl, Nat.zero_le _, fun y hy => by cases hy⟩
      · exact ⟨lotD_noL rfl, Nat.zero_le _, fun y hy => by cases hy⟩
      · refine ⟨lotD_not (x := .str "zz9") (r := []) rfl (hnot _ six_zz9), by decide, fun y hy => ?_⟩
        rw [show y = .str "zz9" from List.mem_singleton.mp hy]
        show (3 : Nat) ≤ 1000
        decide
      · refine ⟨?_, by show 2 ≤ 50; decide, fun y hy => ?_⟩
        · unfold lotD
          rw [show strsD (itemsD (ls [h0, h0])) = some [h0, h0] from strsD_map _]
          simp only [show decide ([h0, h0] : Lot).Nodup = false by simp, Bool.and_false]
        · have : y = .str h0 := by simpa [itemsD] using hy
          rw [this]
          have := nm_len (hok h0 hhm)
          show h0.length ≤ 1000
          omega
      · refine ⟨lotD_not (x := .none) (r := []) rfl rfl, by decide, fun y hy => ?_⟩
        rw [show y = .none from List.mem_singleton.mp hy]
        trivial
      · exact ⟨lotD_noL rfl, Nat.zero_le _, fun y hy => by cases hy⟩
      · refine ⟨lotD_not (x := .list []) (r := []) rfl rfl, by decide, fun y hy => ?_⟩
        rw [show y = .list [] from List.mem_singleton.mp hy]
        trivial
    clear hdo
    -- hand
    have d10 : Dom A H10 := fun c hc => E3.dom c (dA c hc)
    refine ⟨_, rfl, by show 0 ≤ sizeLine; decide, fun p1 hp1 => ?_⟩
    have n1 : Ex [] H10 (upd H10 p1 (.tup [])) := Ex.new hp1
    have r1 : Rep (wo A (upd H10 p1 (.tup []))) (.tuple []) (.ref p1) := ⟨p1, _, rfl, wo_of (d10.not hp1) upd_same, .nil⟩
    generalize (upd H10 p1 (.tup [])) = H11 at n1 r1 ⊢
    have d11 := d10.ex n1
    refine ⟨by show 0 ≤ sizeLine; decide, fun p2 hp2 => ?_⟩
    have n2 : Ex [] H11 (upd H11 p2 (.lst [])) := Ex.new hp2
    have r2 : Rep (wo A (upd H11 p2 (.lst []))) (.list []) (.ref p2) := ⟨p2, _, rfl, wo_of (d11.not hp2) upd_same, .nil⟩
    generalize (upd H11 p2 (.lst [])) = H12 at n2 r2 ⊢
    refine ⟨by show 7 ≤ sizeLine; decide, fun r8 hr8 => ?_⟩
    have n8 : Ex [] H12 (upd H12 r8 (.lst [.non, .int 5, .str "zz9", .ref p1, .ref p2, .bl true, .str "A"])) := Ex.new hr8
    have k8 : (upd H12 r8 (.lst [.non, .int 5, .str "zz9", .ref p1, .ref p2, .bl true, .str "A"])) r8 = some (.lst [.non, .int 5, .str "zz9", .ref p1, .ref p2, .bl true, .str "A"]) := upd_same
    have hr82 := (n1.trans n2).back hr8
    refine ⟨S, L, r8, n + 3, _, rfl, (st3.ex (n1.trans n2)).ex n8, by omega, (st3.ne hr82).1, (st3.ne hr82).2, k8, by show 0 < 7; decide, by show 7 < 1000; decide, fun i4 vh H13 hi4 e4 st4 => ?_⟩
    have rh1 : ∃ d, d ∈ ([.none, .int 5, .str "zz9", .tuple [], .list [], .bool true, .str "A"] : List PyData) ∧ Rep (wo A H13) d vh := by
      have rr : RepL (wo A H12) [.none, .int 5, .str "zz9", .tuple [], .list [], .bool true, .str "A"] [.non, .int 5, .str "zz9", .ref p1, .ref p2, .bl true, .str "A"] :=
        .cons rfl (.cons rfl (.cons rfl (.cons (r1.mono (n2.any (A := A)).old) (.cons r2 (.cons rfl (.cons rfl .nil))))))
      obtain ⟨d, hd, rd⟩ := ((rr.mono (n8.any (A := A)).old).mono (e4.le mSL).old).get hi4
      exact ⟨d, List.mem_of_getElem? hd, rd⟩
    obtain ⟨dh, hdh, rh⟩ := rh1
    have E4 : Ex [S, L] H H13 := E3.trans (((n1.trans n2).trans n8).any.trans e4)
    have e1013 : Ex [S, L] H10 H13 := ((n1.trans n2).trans n8).any.trans e4
    clear n1 n2 n8 r1 r2 k8 hr82 hr8 hp1 hp2 d11
    have ph : handD dh (srt hs) = false ∧ pure_ dh = true ∧ shrt dh ∧ sized 1 dh := by
      simp only [List.mem_cons, List.not_mem_nil, or_false] at hdh
      rcases hdh with q | q | q | q | q | q | q <;> rw [q]
      · exact ⟨rfl, rfl, trivial, sized_up rfl⟩
      · exact ⟨rfl, rfl, trivial, sized_up rfl⟩
      · exact ⟨hnot _ six_zz9, rfl, by show (3 : Nat) ≤ 1000; decide, sized_up rfl⟩
      · exact ⟨rfl, rfl, trivial, Nat.zero_le _, fun y hy => by cases hy⟩
      · exact ⟨rfl, rfl, trivial, Nat.zero_le _, fun y hy => by cases hy⟩
      · exact ⟨rfl, rfl, trivial, sized_up rfl⟩
      · refine ⟨?_, rfl, by show (1 : Nat) ≤ 1000; decide, sized_up rfl⟩
        show (isNm "A" && _) = false
        rw [isNm_A, Bool.false_and]
    clear hdh
    -- number
    have d13 : Dom A H13 := fun c hc => E4.dom c (dA c hc)
    refine ⟨_, rfl, _, rfl, by show 0 ≤ sizeLine; decide, fun p1 hp1 => ?_⟩
    have n1 : Ex [] H13 (upd H13 p1 (.tup [])) := Ex.new hp1
    have r1 : Rep (wo A (upd H13 p1 (.tup []))) (.tuple []) (.ref p1) := ⟨p1, _, rfl, wo_of (d13.not hp1) upd_same, .nil⟩
    generalize (upd H13 p1 (.tup [])) = H14 at n1 r1 ⊢
    have d14 := d13.ex n1
    refine ⟨by show 0 ≤ sizeLine; decide, fun p2 hp2 => ?_⟩
    have n2 : Ex [] H14 (upd H14 p2 (.lst [])) := Ex.new hp2
    have r2 : Rep (wo A (upd H14 p2 (.lst []))) (.list []) (.ref p2) := ⟨p2, _, rfl, wo_of (d14.not hp2) upd_same, .nil⟩
    generalize (upd H14 p2 (.lst [])) = H15 at n2 r2 ⊢
    refine ⟨by show 7 ≤ sizeLine; decide, fun r8 hr8 => ?_⟩
    have n8 : Ex [] H15 (upd H15 r8 (.lst [.non, .int 0, .int (-1), .bl true, .str "1", .ref p1, .ref p2])) := Ex.new hr8
    have k8 : (upd H15 r8 (.lst [.non, .int 0, .int (-1), .bl true, .str "1", .ref p1, .ref p2])) r8 = some (.lst [.non, .int 0, .int (-1), .bl true, .str "1", .ref p1, .ref p2]) := upd_same
    have hr82 := (n1.trans n2).back hr8
    refine ⟨S, L, r8, n + 4, _, rfl, (st4.ex (n1.trans n2)).ex n8, by omega, (st4.ne hr82).1, (st4.ne hr82).2, k8, by show 0 < 7; decide, by show 7 < 1000; decide, fun i5 vn H16 hi5 e5 st5 => ?_⟩
    have rn1 : ∃ d, d ∈ ([.none, .int 0, .int (-1), .bool true, .str "1", .tuple [], .list []] : List PyData) ∧ Rep (wo A H16) d vn := by
      have rr : RepL (wo A H15) [.none, .int 0, .int (-1), .bool true, .str "1", .tuple [], .list []] [.non, .int 0, .int (-1), .bl true, .str "1", .ref p1, .ref p2] :=
        .cons rfl (.cons rfl (.cons rfl (.cons rfl (.cons rfl (.cons (r1.mono (n2.any (A := A)).old) (.cons r2 .nil))))))
      obtain ⟨d, hd, rd⟩ := ((rr.mono (n8.any (A := A)).old).mono (e5.le mSL).old).get hi5
      exact ⟨d, List.mem_of_getElem? hd, rd⟩
    obtain ⟨dn, hdn, rn⟩ := rn1
    have e1316 : Ex [S, L] H13 H16 := ((n1.trans n2).trans n8).any.trans e5
    have E5 : Ex [S, L] H H16 := E4.trans e1316
    clear n1 n2 n8 r1 r2 k8 hr82 hr8 hp1 hp2 d14
    have pn : (∀ i, dn = .int i → ¬ 1 ≤ i) ∧ pure_ dn = true ∧ sized 1 dn := by
      simp only [List.mem_cons, List.not_mem_nil, or_false] at hdn
      rcases hdn with q | q | q | q | q | q | q <;> rw [q]
      · exact ⟨fun i z => (by cases z), rfl, sized_up rfl⟩
      · exact ⟨fun i z => (by cases z; decide), rfl, sized_up rfl⟩
      · exact ⟨fun i z => (by cases z; decide), rfl, sized_up rfl⟩
      · exact ⟨fun i z => (by cases z), rfl, sized_up rfl⟩
      · exact ⟨fun i z => (by cases z), rfl, sized_up rfl⟩
      · exact ⟨fun i z => (by cases z), rfl, Nat.zero_le _, fun y hy => by cases hy⟩
      · exact ⟨fun i z => (by cases z), rfl, Nat.zero_le _, fun y hy => by cases hy⟩
    clear hdn
    have e1016 := e1013.trans e1316
    have e116 : Ex [S, L] H1 H16 := e2.trans (e210.trans e1016)
    replace rt := rt.mono (e116.le mSL).old
    replace ro := ro.mono (e1016.le mSL).old
    replace rh := rh.mono (e1316.le mSL).old
    have s5 := (E5.le mSL).old
    have hS16 := hS.mono s5
    have ha16 := s5 _ _ ha
    have hav16 := s5 _ _ hav
    have rbs16 := rbs.mono s5
    have d16 : Dom A H16 := fun c hc => E5.dom c (dA c hc)
    have hT16 := E5.tab hT
    have hst : tinyD dt ∧ (itemsD dt).length ≤ 50 ∧ ∀ d ∈ itemsD dt, tinyD d := by
      rw [show tinyD dt = ((itemsD dt).length ≤ 50 ∧ ∀ x ∈ itemsD dt, shrt x) from rfl, ti]
      exact ⟨⟨by decide, fun y hy => by cases hy⟩, by decide, fun y hy => by cases hy⟩
    have chkt : chk dt = .error 0 := by cases dt <;> first | rfl | cases pt
    clear E1 E2 E3 E4 e1 e2 e210 e1013 e1016 e1316 e116 st1 st2 st3 st4 ha2 hav1 d2 d10 d13
    have hshrt : ∀ z ∈ hs, z.length ≤ 1000 := fun z hz => by have := nm_len (hok z hz); omega
    have tls : ∀ zs : Lot, zs.length ≤ 50 → (∀ z ∈ zs, z ∈ hs) → tinyD (ls zs) := fun zs h1 h2 => ⟨by show (zs.map PyData.str).length ≤ 50; rw [List.length_map]; exact h1, fun y hy => by
      obtain ⟨z, hz, rfl⟩ := List.mem_map.mp hy
      exact hshrt z (h2 z hz)⟩
    have ec : ∀ G : List V, cutV (hs.map V.str) none (some 1) = ([h0] : Lot).map V.str := fun _ => by
      rw [show (some (1 : Int)) = some ((1 : Nat) : Int) from rfl, cut_to, ← List.map_take, hone]
    have hh0 : chk (ls [h0]) = .error 1 := by
      rw [chk_ls (fun z hz => by rw [List.mem_singleton.mp hz]; exact hok _ hhm) (by simp)]
      rfl
    have hhs : chk (ls hs) = .ok (srt hs) := by
      rw [chk_ls hok hnd, if_neg (by omega)]
    -- 1
    refine ⟨hT16, fun H1 eL => ?_⟩
    have g1 := (eL A).old
    have ex1 : Ex [] H16 H1 := eL []
    have d1 : Dom A H1 := d16.ex ex1
    refine ⟨_, rfl, _, rfl, a, _, rfl, wo_at (g1 _ _ ha16), fun r hr => ⟨_, rfl, fun x1 dx1 hx1 hdx1 hne1 => ?_⟩⟩
    have n1 : Ex [] H1 (upd H1 r (.lst (cutV (hs.map V.str) none (some 1)))) := Ex.new hr
    have rr : Rep (wo A (upd H1 r (.lst (cutV (hs.map V.str) none (some 1))))) (ls [h0]) (.ref r) := Rep.ls.mpr ⟨r, rfl, by rw [← ec []]; exact wo_of (d1.not hr) upd_same⟩
    have n11 := ex1.trans n1
    refine init_of (d1.ex n1) (d1.ex n1) hx1 hdx1 hne1 rr (rt.mono (n11.any (A := A)).old) (tls [h0] (by show 1 ≤ 50; decide) (fun z hz => by rw [List.mem_singleton.mp hz]; exact hhm)) hst.2 (n11.tab hT16) (fun i hi e H2 ex he => ?_) (fun hs' hc => by rw [hh0] at hc; cases hc) (fun hs' i hc => by rw [hh0] at hc; cases hc) (fun hs' H' hc => by rw [hh0] at hc; cases hc)
    obtain rfl : 1 = i := by rw [hh0] at hi; injection hi
    refine ⟨eH, _, e, List.mem_cons_self .., rfl, rfl, he, fun p hp => ⟨by show 1 ≤ sizeLine; decide, fun q hq => ?_⟩⟩
    have m1 : Ex [] H16 H2 := n11.trans ex
    have m2 : Ex [] H2 (upd H2 p (.tup [.str eH.2.2, .int (1 : Nat)])) := Ex.new hp
    have m3 : Ex [] (upd H2 p (.tup [.str eH.2.2, .int (1 : Nat)])) (upd (upd H2 p (.tup [.str eH.2.2, .int (1 : Nat)])) q (.lst [.ref p])) := Ex.new hq
    have m13 := m1.trans (m2.trans m3)
    have hqH : H16 q = none := m1.back (m2.back hq)
    have F : Fnd A S L q (n + 5) H16 (upd (upd H2 p (.tup [.str eH.2.2, .int (1 : Nat)])) q (.lst [.ref p])) [.tuple [.str "hands", .int 1]] [.ref p] := by
      have dd2 : Dom A (upd H2 p (.tup [.str eH.2.2, .int (1 : Nat)])) := d16.ex (m1.trans m2)
      refine ⟨m13.any, upd_same, ?_, hqH, d16, mS, mL, st5.ex m13, by show 1 ≤ 20; decide⟩
      have hpq : p ≠ q := fun z => by rw [← z, upd_same] at hq; cases hq
      refine .cons ⟨p, _, rfl, wo_of ?_ (m3.at upd_same), .cons rfl (.cons rfl .nil)⟩ .nil
      intro z
      rcases List.mem_cons.1 z with z | z
      · exact hpq z
      · exact (d16.ex m1).not hp z
    generalize (upd (upd H2 p (.tup [.str eH.2.2, .int (1 : Nat)])) q (.lst [.ref p])) = H3 at F ⊢
    clear m1 m2 m3 m13 n1 rr n11 he ex hp hq hx1 hdx1 hne1 hr g1 ex1 d1 eL
    -- 2
    refine ⟨_, rfl, .inl ⟨rfl, _, SqL.of F.h⟩, F.e.tab hT16, fun H1 eL => ?_⟩
    have ex1 : Ex [] H3 H1 := eL []
    have e161 : Ex [S, L] H16 H1 := F.e.trans ex1.any
    have g1 := (e161.of2 mS mL).old
    have d1 : Dom A H1 := fun c hc => e161.dom c (d16 c hc)
    refine ⟨_, rfl, fun x1 dx1 hx1 hdx1 hne1 => ?_⟩
    refine init_of (db := .none) d1 d1 hx1 hdx1 hne1 (rt.mono g1) rfl hst.1 ⟨Nat.zero_le _, fun d hd => by cases hd⟩ (e161.tab hT16) (fun i hi e H2 ex he => ?_) (fun hs' hc => by rw [chkt] at hc; cases hc) (fun hs' i hc => by rw [chkt] at hc; cases hc) (fun hs' H' hc => by rw [chkt] at hc; cases hc)
    obtain rfl : 0 = i := by rw [chkt] at hi; injection hi
    refine ⟨eH, _, e, List.mem_cons_self .., rfl, rfl, he, fun p hp => ?_⟩
    obtain ⟨hq', hl', F2⟩ := F.step (z := eH.2.2) (y := .int ((0 : Nat) : Int)) (dy := .int 0) (ex1.trans ex) hp rfl (by show 1 ≤ 19; decide)
    refine ⟨q, _, _, rfl, rfl, hq', hl', ?_⟩
    have lotsT : ∀ b ∈ bs, tinyD (ls b) ∧ lotD (ls b) (srt hs) = true := fun b hb => by
      have h1 := nodup_len (hL.nd b hb) (hL.sub b hb)
      exact ⟨tls b (by omega) (hL.sub b hb), lotD_of rfl rfl (hL.nd b hb) fun y hy => ⟨hok y (hL.sub b hb y hy), mem_srt.mpr (hL.sub b hb y hy)⟩⟩
    have hbs10 := hL.len
    -- 3
    refine ⟨_, rfl, .inl ⟨rfl, _, SqL.of F2.h⟩, F2.e.tab hT16, fun H3a eL3 => ?_⟩
    have ex3 := eL3 []
    have e163 := F2.e.trans ex3.any
    have g3 := (e163.of2 mS mL).old
    have d3 : Dom A H3a := fun c hc => e163.dom c (d16 c hc)
    refine ⟨_, rfl, _, rfl, _, rfl, a, _, rfl, wo_at (g3 _ _ ha16), fun r hr => ?_⟩
    have n1 : Ex [] H3a (upd H3a r (.lst (cutV (hs.map V.str) none (some 1)))) := Ex.new hr
    refine ⟨a, r, _, _, rfl, rfl, n1.at (wo_at (g3 _ _ ha16)), upd_same, ?_, fun t ht => ⟨_, rfl, fun x1 dx1 hx1 hdx1 hne1 => ?_⟩⟩
    · rw [ec [], List.length_map]
      exact Nat.le_trans (show hs.length + 1 ≤ 60 by omega) (by decide)
    have n2 : Ex [] (upd H3a r (.lst (cutV (hs.map V.str) none (some 1)))) (upd (upd H3a r (.lst (cutV (hs.map V.str) none (some 1)))) t (.lst (hs.map V.str ++ cutV (hs.map V.str) none (some 1)))) := Ex.new ht
    have n12 := n1.trans n2
    have rd3 : Rep (wo A (upd (upd H3a r (.lst (cutV (hs.map V.str) none (some 1)))) t (.lst (hs.map V.str ++ cutV (hs.map V.str) none (some 1))))) (ls (hs ++ [h0])) (.ref t) := Rep.ls.mpr ⟨t, rfl, by rw [List.map_append, ← ec []]; exact wo_of ((d3.ex n1).not ht) upd_same⟩
    have hdup := chk_dup hok hnd hhm
    have rl3 : Rep (wo A (upd (upd H3a r (.lst (cutV (hs.map V.str) none (some 1)))) t (.lst (hs.map V.str ++ cutV (hs.map V.str) none (some 1))))) (lls bs) (.ref av) := ⟨av, bvs, rfl, (n12.any (A := A)).old _ _ (g3 _ _ hav16), (rbs16.mono g3).mono (n12.any (A := A)).old⟩
    have tlots : (itemsD (lls bs)).length ≤ 50 ∧ ∀ d ∈ itemsD (lls bs), tinyD d := ⟨by show (bs.map ls).length ≤ 50; rw [List.length_map]; omega, fun d hd => by
      obtain ⟨b, hb, rfl⟩ := List.mem_map.mp (show d ∈ bs.map ls from hd)
      exact (lotsT b hb).1⟩
    refine init_of (d3.ex n12) (d3.ex n12) hx1 hdx1 hne1 rd3 rl3 (tls _ (by rw [List.length_append]; show hs.length + 1 ≤ 50; omega) (fun z hz => (List.mem_append.mp hz).elim id fun q => by rw [List.mem_singleton.mp q]; exact hhm)) tlots (n12.tab (e163.tab hT16)) (fun i hi e H4 ex he => ?_) (fun hs' hc => by rw [hdup] at hc; cases hc) (fun hs' i hc => by rw [hdup] at hc; cases hc) (fun hs' H' hc => by rw [hdup] at hc; cases hc)
    obtain rfl : hs.length = i := by rw [hdup] at hi; injection hi
    refine ⟨eH, _, e, List.mem_cons_self .., rfl, rfl, he, fun p hp => ?_⟩
    obtain ⟨hq', hl', F3⟩ := F2.step (z := eH.2.2) (y := .int ((hs.length : Nat) : Int)) (dy := .int ((hs.length : Nat) : Int)) (ex3.trans (n12.trans ex)) hp rfl (by show 2 ≤ 19; decide)
    refine ⟨q, _, _, rfl, rfl, hq', hl', ?_⟩
    -- 4
    refine ⟨_, rfl, .inl ⟨rfl, _, SqL.of F3.h⟩, F3.e.tab hT16, fun H4a eL4 => ?_⟩
    have ex4 := eL4 []
    have e164 := F3.e.trans ex4.any
    have g4 := (e164.of2 mS mL).old
    have d4 : Dom A H4a := fun c hc => e164.dom c (d16 c hc)
    refine ⟨_, rfl, _, rfl, fun x1 dx1 hx1 hdx1 hne1 => ?_⟩
    refine init_of (dh := ls hs) d4 d4 hx1 hdx1 hne1 (Rep.ls.mpr ⟨a, rfl, g4 _ _ ha16⟩) (rt.mono g4) (tls hs (by omega) (fun z hz => hz)) hst.2 (e164.tab hT16) (fun i hi => by rw [hhs] at hi; cases hi) (fun hs' hc hd e H5 ex he => ?_) (fun hs' i hc hd => by rw [pt] at hd; cases hd) (fun hs' H' hc hd => by rw [pt] at hd; cases hd)
    refine ⟨eB, _, e, List.mem_cons_of_mem _ (List.mem_cons_self ..), rfl, rfl, he, fun p hp => ?_⟩
    obtain ⟨hq', hl', F4⟩ := F3.step (z := eB.2.2) (y := .int ((0 : Nat) : Int)) (dy := .int 0) (ex4.trans ex) hp rfl (by show 3 ≤ 19; decide)
    refine ⟨q, _, _, rfl, rfl, hq', hl', ?_⟩
    -- 5
    refine ⟨_, rfl, .inl ⟨rfl, _, SqL.of F4.h⟩, F4.e.tab hT16, fun H5a eL5 => ?_⟩
    have ex5 := eL5 []
    have e165 := F4.e.trans ex5.any
    have g5 := (e165.of2 mS mL).old
    have d5 : Dom A H5a := fun c hc => e165.dom c (d16 c hc)
    have ec1 : cutV bvs none (some ((at_ : Nat) : Int)) = bvs.take at_ := cut_to at_
    have ec2 : cutV bvs (some ((at_ : Nat) : Int)) none = bvs.drop at_ := cut_from at_
    refine ⟨_, rfl, _, rfl, _, rfl, _, rfl, av, bvs, rfl, wo_at (g5 _ _ hav16), fun r1 hr1 => ?_⟩
    have n1 : Ex [] H5a (upd H5a r1 (.lst (cutV bvs none (some ((at_ : Nat) : Int))))) := Ex.new hr1
    have w1 : wo A (upd H5a r1 (.lst (cutV bvs none (some ((at_ : Nat) : Int))))) r1 = some (.lst (bvs.take at_)) := by rw [← ec1]; exact wo_of (d5.not hr1) upd_same
    have k1 : (upd H5a r1 (.lst (cutV bvs none (some ((at_ : Nat) : Int))))) r1 = some (.lst (bvs.take at_)) := wo_at w1
    generalize (upd H5a r1 (.lst (cutV bvs none (some ((at_ : Nat) : Int))))) = H5b at n1 w1 k1 ⊢
    refine ⟨_, rfl, by show 2 ≤ sizeLine; decide, fun r2 hr2 => ?_⟩
    have n2 : Ex [] H5b (upd H5b r2 (.lst [vo, .non])) := Ex.new hr2
    have k2 : (upd H5b r2 (.lst [vo, .non])) r2 = some (.lst [vo, .non]) := upd_same
    generalize (upd H5b r2 (.lst [vo, .non])) = H5c at n2 k2 ⊢
    refine ⟨r1, r2, bvs.take at_, [vo, .non], rfl, rfl, n2.at k1, k2, ?_, fun r3 hr3 => ?_⟩
    · rw [List.length_take]
      exact Nat.le_trans (show min at_ bvs.length + 2 ≤ 60 by omega) (by decide)
    have n3 : Ex [] H5c (upd H5c r3 (.lst (bvs.take at_ ++ [vo, .non]))) := Ex.new hr3
    have k3 : (upd H5c r3 (.lst (bvs.take at_ ++ [vo, .non]))) r3 = some (.lst (bvs.take at_ ++ [vo, .non])) := upd_same
    generalize (upd H5c r3 (.lst (bvs.take at_ ++ [vo, .non]))) = H5d at n3 k3 ⊢
    have n123 := n1.trans (n2.trans n3)
    refine ⟨_, rfl, _, rfl, _, rfl, av, bvs, rfl, n123.at (wo_at (g5 _ _ hav16)), fun r4 hr4 => ?_⟩
    rw [ec2]
    have n4 : Ex [] H5d (upd H5d r4 (.lst (bvs.drop at_))) := Ex.new hr4
    have k4 : (upd H5d r4 (.lst (bvs.drop at_))) r4 = some (.lst (bvs.drop at_)) := upd_same
    generalize (upd H5d r4 (.lst (bvs.drop at_))) = H5e at n4 k4 ⊢
    refine ⟨r3, r4, bvs.take at_ ++ [vo, .non], bvs.drop at_, rfl, rfl, n4.at k3, k4, ?_, fun r5 hr5 => ?_⟩
    · rw [List.length_append, List.length_take, List.length_drop]
      exact Nat.le_trans (show min at_ bvs.length + 2 + (bvs.length - at_) ≤ 60 by omega) (by decide)
    have n5 : Ex [] H5e (upd H5e r5 (.lst (bvs.take at_ ++ [vo, .non] ++ bvs.drop at_))) := Ex.new hr5
    have nn := n123.trans (n4.trans n5)
    have dd5 : Dom A H5e := d5.ex (n123.trans n4)
    have rb5 : Rep (wo A (upd H5e r5 (.lst (bvs.take at_ ++ [vo, .non] ++ bvs.drop at_)))) (.list ((bs.map ls).take at_ ++ dod :: .none :: (bs.map ls).drop at_)) (.ref r5) := by
      have gg := (nn.any (A := A)).old
      refine ⟨r5, _, rfl, wo_of (dd5.not hr5) upd_same, ?_⟩
      have ee : bvs.take at_ ++ [vo, .non] ++ bvs.drop at_ = bvs.take at_ ++ vo :: .non :: bvs.drop at_ := by rw [List.append_assoc]; rfl
      refine (congrArg (RepL _ _) ee).mpr ?_
      exact ((((rbs16.mono g5).mono gg).take at_)).app (.cons ((ro.mono g5).mono gg) (RepL.cons (d := .none) (v := .non) rfl (((rbs16.mono g5).mono gg).drop at_)))
    refine fun x1 dx1 hx1 hdx1 hne1 => ?_
    have hbad : badAt (srt hs) ((bs.map ls).take at_ ++ dod :: .none :: (bs.map ls).drop at_) 0 = some at_ := by
      rw [badAt_at po.1 fun d hd => ?_]
      · rw [List.length_take, List.length_map]
        congr 1
        omega
      · obtain ⟨b, hb, rfl⟩ := List.mem_map.mp (List.mem_of_mem_take hd)
        exact (lotsT b hb).2
    refine init_of (dh := ls hs) (d5.ex nn) (d5.ex nn) hx1 hdx1 hne1 (Rep.ls.mpr ⟨a, rfl, (nn.any (A := A)).old _ _ (g5 _ _ ha16)⟩) rb5 (tls hs (by omega) (fun z hz => hz)) ⟨?_, fun d hd => ?_⟩ (nn.tab (e165.tab hT16)) (fun i hi => by rw [hhs] at hi; cases hi) (fun hs' hc hd => by cases hd) (fun hs' i hc hd hb e H6 ex he => ?_) (fun hs' H' hc hd hb => ?_)
    · show ((bs.map ls).take at_ ++ dod :: .none :: (bs.map ls).drop at_).length ≤ 50
      rw [List.length_append, List.length_cons, List.length_cons, List.length_take, List.length_drop, List.length_map]
      omega
    · rcases List.mem_append.mp (show d ∈ (bs.map ls).take at_ ++ dod :: .none :: (bs.map ls).drop at_ from hd) with hd | hd
      · obtain ⟨b, hb, rfl⟩ := List.mem_map.mp (List.mem_of_mem_take hd)
        exact (lotsT b hb).1
      · rcases List.mem_cons.1 hd with z | hd
        · rw [z]; exact po.2
        · rcases List.mem_cons.1 hd with z | hd
          · rw [z]; exact ⟨Nat.zero_le _, fun y hy => by cases hy⟩
          · obtain ⟨b, hb, rfl⟩ := List.mem_map.mp (List.mem_of_mem_drop hd)
            exact (lotsT b hb).1
    rotate_left
    · rw [hhs] at hc
      injection hc with hc
      subst hc
      rw [show itemsD (.list ((bs.map ls).take at_ ++ dod :: .none :: (bs.map ls).drop at_)) = (bs.map ls).take at_ ++ dod :: .none :: (bs.map ls).drop at_ from rfl, hbad] at hb
      cases hb
    rw [hhs] at hc
    injection hc with hc
    subst hc
    rw [show itemsD (.list ((bs.map ls).take at_ ++ dod :: .none :: (bs.map ls).drop at_)) = (bs.map ls).take at_ ++ dod :: .none :: (bs.map ls).drop at_ from rfl, hbad] at hb
    injection hb with hb
    subst hb
    refine ⟨eB, _, e, List.mem_cons_of_mem _ (List.mem_cons_self ..), rfl, rfl, he, fun p hp => ?_⟩
    obtain ⟨hq', hl', F5⟩ := F4.step (z := eB.2.2) (y := .int ((at_ : Nat) : Int)) (dy := .int ((at_ : Nat) : Int)) (ex5.trans (nn.trans ex)) hp rfl (by show 4 ≤ 19; decide)
    refine ⟨q, _, _, rfl, rfl, hq', hl', ?_⟩
    clear n1 n2 n3 n4 n5 nn n123 k1 k2 k3 k4 w1 rb5 dd5 hbad
    -- 6
    refine ⟨_, rfl, .inl ⟨rfl, _, SqL.of F5.h⟩, F5.e.tab hT16, fun H6a eL6 => ?_⟩
    have ex6 := eL6 []
    have e166 := F5.e.trans ex6.any
    have g6 := (e166.of2 mS mL).old
    have d6 : Dom A H6a := fun c hc => e166.dom c (d16 c hc)
    have hsl : (srt hs).length ≤ 1000 := by rw [len_srt]; omega
    refine ⟨_, rfl, _, rfl, A, x, srt hs, gs, dh, .none, vh, .non, d6, rfl, hS16.mono g6, hsl, hgl, hgl2, rh.mono g6, rfl, ph.2.2.1, trivial, fun w r h1 h2 => (by cases h2), fun _ e H7 ex he => ?_, fun hc => by rw [ph.1] at hc; cases hc⟩
    refine ⟨eN, _, e, List.mem_cons_of_mem _ (List.mem_cons_of_mem _ (List.mem_cons_self ..)), rfl, rfl, he, fun p hp => ?_⟩
    obtain ⟨hq', hl', F6⟩ := F5.step (z := eN.2.2) (y := vh) (dy := dh) (ex6.trans ex) hp ((rh.mono F5.subq).mono ((ex6.trans ex).any (A := q :: A)).old) (by show 5 ≤ 19; decide)
    refine ⟨q, _, _, rfl, rfl, hq', hl', ?_⟩
    -- 7
    refine ⟨_, rfl, .inl ⟨rfl, _, SqL.of F6.h⟩, F6.e.tab hT16, fun H7a eL7 => ?_⟩
    have ex7 := eL7 []
    have e167 := F6.e.trans ex7.any
    have g7 := (e167.of2 mS mL).old
    have d7 : Dom A H7a := fun c hc => e167.dom c (d16 c hc)
    have hat0 : atI (hs.map V.str) 0 = some (.str h0) := by
      refine atI_nat (j := 0) ?_
      cases hs with
      | nil => exact absurd h2 (by decide)
      | cons z zs =>
        have : z = h0 := by simpa using hone
        rw [this]
        rfl
    have hh0D : handD (.str h0) (srt hs) = true := by
      show (isNm h0 && decide (h0 ∈ srt hs)) = true
      rw [hok h0 hhm, decide_eq_true (mem_srt.mpr hhm)]
      rfl
    refine ⟨_, rfl, _, rfl, a, _, _, _, rfl, rfl, wo_at (g7 _ _ ha16), hat0, _, rfl, A, x, srt hs, gs, .str h0, dh, .str h0, vh, d7, rfl, hS16.mono g7, hsl, hgl, hgl2, rfl, rh.mono g7, hshrt h0 hhm, ph.2.2.1, fun w r h1 h2 _ hc => (by rw [ph.1] at hc; cases hc), fun hc => (by rw [hh0D] at hc; cases hc), fun _ _ e H8 ex he => ?_⟩
    refine ⟨eN, _, e, List.mem_cons_of_mem _ (List.mem_cons_of_mem _ (List.mem_cons_self ..)), rfl, rfl, he, fun p hp => ?_⟩
    obtain ⟨hq', hl', F7⟩ := F6.step (z := eN.2.2) (y := vh) (dy := dh) (ex7.trans ex) hp ((rh.mono F6.subq).mono ((ex7.trans ex).any (A := q :: A)).old) (by show 6 ≤ 19; decide)
    refine ⟨q, _, _, rfl, rfl, hq', hl', ?_⟩
    -- 8
    refine ⟨_, rfl, .inl ⟨rfl, _, SqL.of F7.h⟩, F7.e.tab hT16, fun H8a eL8 => ?_⟩
    have ex8 := eL8 []
    have e168 := F7.e.trans ex8.any
    have g8 := (e168.of2 mS mL).old
    have d8 : Dom A H8a := fun c hc => e168.dom c (d16 c hc)
    refine ⟨_, rfl, _, rfl, A, x, srt hs, gs, dn, vn, d8, rfl, hS16.mono g8, fun z hz => hok z (mem_srt.mp hz), hsl, hgl, rn.mono g8, .inr ⟨pn.1, fun e H9 ex he => ?_⟩⟩
    refine ⟨eP, _, e, List.mem_cons_of_mem _ (List.mem_cons_of_mem _ (List.mem_cons_of_mem _ (List.mem_cons_self ..))), rfl, rfl, he, fun p hp => ?_⟩
    obtain ⟨hq', hl', F8⟩ := F7.step (z := eP.2.2) (y := vn) (dy := dn) (ex8.trans ex) hp ((rn.mono F7.subq).mono ((ex8.trans ex).any (A := q :: A)).old) (by show 7 ≤ 19; decide)
    refine ⟨q, _, _, rfl, rfl, hq', hl', ?_⟩
    clear ex8 e168 g8 d8 ex7 e167 g7 d7 ex6 e166 g6 d6 F7 F6 F5 F4 F3 F2 ex
    have hq16 : q ∉ A := d16.not F8.new
    have dq : Dom (q :: A) _ := fun c hc => (List.mem_cons.mp hc).elim (fun z => by rw [z, F8.h]; simp) (fun hc => F8.e.dom c (d16 c hc))
    have a8 := (F8.e.of2 mS mL).old _ _ ha16
    have rh8 := rh.mono F8.subq
    have rn8 := rn.mono F8.subq
    refine ⟨by show 2 ≤ sizeLine; decide, fun t1 ht1 => ?_⟩
    obtain ⟨n1, r1, d1⟩ := tupNew dq ht1 (z := .str "hands") (y := .int 1) (dz := .str "hands") (dy := .int 1) rfl rfl
    refine ⟨by show 2 ≤ sizeLine; decide, fun t2 ht2 => ?_⟩
    obtain ⟨n2, r2, d2⟩ := tupNew d1 ht2 (z := .str "hands") (y := .int 0) (dz := .str "hands") (dy := .int 0) rfl rfl
    have n12 := n1.trans n2
    refine ⟨_, rfl, a, _, rfl, .inl (n12.at (wo_at a8)), by show 2 ≤ sizeLine; decide, fun t3 ht3 => ?_⟩
    obtain ⟨n3, r3, d3⟩ := tupNew d2 ht3 (z := .str "hands") (y := .int (((hs.map V.str).length : Nat) : Int)) (dz := .str "hands") (dy := .int ((hs.length : Nat) : Int)) rfl (by show V.int _ = V.int _; rw [List.length_map])
    refine ⟨by show 2 ≤ sizeLine; decide, fun t4 ht4 => ?_⟩
    obtain ⟨n4, r4, d4⟩ := tupNew d3 ht4 (z := .str "band") (y := .int 0) (dz := .str "band") (dy := .int 0) rfl rfl
    refine ⟨_, rfl, by show 2 ≤ sizeLine; decide, fun t5 ht5 => ?_⟩
    obtain ⟨n5, r5, d5⟩ := tupNew d4 ht5 (z := .str "band") (y := .int ((at_ : Nat) : Int)) (dz := .str "band") (dy := .int ((at_ : Nat) : Int)) rfl rfl
    have n15 := n12.trans (n3.trans (n4.trans n5))
    refine ⟨_, rfl, by show 2 ≤ sizeLine; decide, fun t6 ht6 => ?_⟩
    obtain ⟨n6, r6, d6⟩ := tupNew d5 ht6 (z := .str "no") (y := vh) (dz := .str "no") (dy := dh) rfl (rh8.mono (n15.any (A := q :: A)).old)
    refine ⟨_, rfl, by show 2 ≤ sizeLine; decide, fun t7 ht7 => ?_⟩
    obtain ⟨n7, r7, d7⟩ := tupNew d6 ht7 (z := .str "no") (y := vh) (dz := .str "no") (dy := dh) rfl (rh8.mono ((n15.trans n6).any (A := q :: A)).old)
    have n17 := n15.trans (n6.trans n7)
    refine ⟨by show 7 ≤ sizeLine; decide, fun u hu => ?_⟩
    have nu : Ex [] _ _ := Ex.new (o := .lst [.ref t1, .ref t2, .ref t3, .ref t4, .ref t5, .ref t6, .ref t7]) hu
    have du := d7.ex nu
    refine ⟨_, rfl, _, rfl, _, rfl, by show 2 ≤ sizeLine; decide, fun t8 ht8 => ?_⟩
    obtain ⟨n8, r8, d8⟩ := tupNew du ht8 (z := .str "number") (y := vn) (dz := .str "number") (dy := dn) rfl (rn8.mono ((n17.trans nu).any (A := q :: A)).old)
    refine ⟨by show 1 ≤ sizeLine; decide, fun u2 hu2 => ?_⟩
    have nu2 : Ex [] _ _ := Ex.new (o := .lst [.ref t8]) hu2
    refine ⟨u, u2, _, _, rfl, rfl, nu2.at (n8.at upd_same), upd_same, by show 8 ≤ sizeLine; decide, fun u3 hu3 => ?_⟩
    have nu3 : Ex [] _ _ := Ex.new (o := .lst ([.ref t1, .ref t2, .ref t3, .ref t4, .ref t5, .ref t6, .ref t7] ++ [.ref t8])) hu3
    have d10 := (d8.ex nu2).ex nu3
    have z8 : Ex [] _ _ := nu2.trans nu3
    have z7 : Ex [] _ _ := nu.trans (n8.trans z8)
    have z6 := n7.trans z7
    have z5 := n6.trans z6
    have z4 := n5.trans z5
    have z3 := n4.trans z4
    have z2 := n3.trans z3
    have z1 := n2.trans z2
    have zAll := n1.trans z1
    have dA10 : Dom A _ := fun c hc => d10 c (List.mem_cons_of_mem _ hc)
    refine ⟨A, .list [.tuple [.str "hands", .int 1], .tuple [.str "hands", .int 0], .tuple [.str "hands", .int ((hs.length : Nat) : Int)], .tuple [.str "band", .int 0], .tuple [.str "band", .int ((at_ : Nat) : Int)], .tuple [.str "no", dh], .tuple [.str "no", dh], .tuple [.str "number", dn]], .ref q, .ref u3, dA10, rfl, ?_, ?_, ?_, ?_, fun H' e => ?_⟩
    · exact ⟨q, _, rfl, wo_of hq16 (zAll.at F8.h), (F8.r.mono (zAll.any (A := q :: A)).old).mono wo_cons⟩
    · refine ⟨u3, _, rfl, wo_of (fun z => (d8.ex nu2) u3 (List.mem_cons_of_mem _ z) hu3) upd_same, ?_⟩
      refine RepL.mono wo_cons (?_ : RepL (wo (q :: A) _) _ _)
      exact .cons (r1.mono (z1.any (A := q :: A)).old) (.cons (r2.mono (z2.any (A := q :: A)).old) (.cons (r3.mono (z3.any (A := q :: A)).old) (.cons (r4.mono (z4.any (A := q :: A)).old) (.cons (r5.mono (z5.any (A := q :: A)).old) (.cons (r6.mono (z6.any (A := q :: A)).old) (.cons (r7.mono (z7.any (A := q :: A)).old) (.cons (r8.mono (z8.any (A := q :: A)).old) .nil)))))))
    · show (_ && pureL _) = true
      simp only [pure_, pureL, ph.2.1, pn.2.1, Bool.and_true, Bool.true_and]
    · have st2 : ∀ d z, sized 1 d → sized 3 (.tuple [.str z, d]) := fun d z hd => ⟨by show 2 ≤ 1000; decide, fun y hy => by
        rcases List.mem_cons.1 hy with q | hy
        · rw [q]; exact sized_up (sized_up rfl)
        · rw [List.mem_singleton.mp hy]; exact sized_up hd⟩
      refine ⟨by show 8 ≤ 1000; decide, fun y hy => ?_⟩
      have hy : y ∈ ([.tuple [.str "hands", .int 1], .tuple [.str "hands", .int 0], .tuple [.str "hands", .int ((hs.length : Nat) : Int)], .tuple [.str "band", .int 0], .tuple [.str "band", .int ((at_ : Nat) : Int)], .tuple [.str "no", dh], .tuple [.str "no", dh], .tuple [.str "number", dn]] : List PyData) := hy
      simp only [List.mem_cons, List.not_mem_nil, or_false] at hy
      rcases hy with q | q | q | q | q | q | q | q <;> rw [q] <;> refine st2 _ _ ?_
      · exact sized_up rfl
      · exact sized_up rfl
      · exact sized_up rfl
      · exact sized_up rfl
      · exact sized_up rfl
      · exact ph.2.2.2
      · exact ph.2.2.2
      · exact pn.2.2
    · exact k H' (E5.trans (F8.e.trans (zAll.trans e).any)) (F8.st.ex (zAll.trans e))
end
end K70
end
section
set_option maxHeartbeats 4000000
/-! The pairs, by the law's own way. -/
namespace K70
open PySem PySem.Spec PyProof.Rows L2
variable [Tbs]
theorem paired_imp {α β : Type} {F F' : α → β → Prop} (h : ∀ a b, F a b → F' a b) : ∀ {l1 : List α} {l2 : List β}, Paired F l1 l2 → Paired F' l1 l2
  | _, _, .nil => .nil
  | _, _, .cons h1 h2 => .cons (h _ _ h1) (paired_imp h h2)
def kvsOf (hs : Lot) (us : List V) : List (Key × V) := (hs.zip us).map fun q => (Sum.inr q.1, q.2)
theorem val_merge : ∀ (hs : Lot) (us : List V) (acc : List (Key × V)) (z : Str), hs.Nodup → us.length = hs.length → (z ∉ hs → valV (mergeK acc (kvsOf hs us)) (Sum.inr z) = valV acc (Sum.inr z)) ∧ (∀ (i : Nat) (u : V), hs[i]? = some z → us[i]? = some u → valV (mergeK acc (kvsOf hs us)) (Sum.inr z) = some u)
  | [], us, acc, z, _, _ => ⟨fun _ => rfl, fun i u h => by simp at h⟩
  | h :: hs, [], acc, z, _, hl => by simp at hl
  | h :: hs, v :: us, acc, z, nd, hl => by
    obtain ⟨n1, n2⟩ := List.nodup_cons.1 nd
    have hl2 : us.length = hs.length := by simpa using hl
    obtain ⟨i1, i2⟩ := val_merge hs us (putK acc (Sum.inr h) v) z n2 hl2
    have e : mergeK acc (kvsOf (h :: hs) (v :: us)) = mergeK (putK acc (Sum.inr h) v) (kvsOf hs us) := rfl
    rw [e]
    refine ⟨fun hz => ?_, fun i u hi hu => ?_⟩
    · rw [i1 (fun q => hz (List.mem_cons_of_mem _ q)), valV_put, if_neg]
      intro q
      injection q with q
      exact hz (by rw [q]; exact List.mem_cons_self ..)
    · cases i with
      | zero =>
        have e1 : h = z := by simpa using hi
        have e2 : v = u := by simpa using hu
        subst e1 e2
        rw [i1 n1, valV_put, if_pos rfl]
      | succ i => exact i2 i u (by simpa using hi) (by simpa using hu)
theorem dict_rep {G : Hp} {Qs : Str → List Lot} : ∀ {hs : Lot} {vs : List V}, RepL G (hs.map fun z => .tuple [.str z, lls (Qs z)]) vs → ∃ (ps : List Addr) (us : List V), vs = ps.map V.ref ∧ Paired (fun p (kv : Key × V) => G p = some (.tup [kV kv.1, kv.2])) ps (kvsOf hs us) ∧ RepL G (hs.map fun z => lls (Qs z)) us
  | [], vs, h => ⟨[], [], h, .nil, rfl⟩
  | z :: hs, vs, ⟨v, r, e, h, t⟩ => by
    obtain ⟨a, ws, e1, h1, h2⟩ := h
    obtain ⟨v1, v2, e2, r1, r2⟩ := h2.two
    obtain ⟨ps, us, e3, hp, ru⟩ := dict_rep t
    refine ⟨a :: ps, v2 :: us, by rw [e, e1, e3]; rfl, .cons ?_ hp, .cons r2 ru⟩
    rw [h1, e2, show v1 = .str z from r1]
    rfl
def pairOK (d : Option (Lot × Lot)) : pure_ (pairD d) = true ∧ True := by
  cases d with
  | none => exact ⟨rfl, trivial⟩
  | some ab =>
    refine ⟨?_, trivial⟩
    show (pureL (ab.1.map .str) && (pureL (ab.2.map .str) && true)) = true
    rw [pureL_strs, pureL_strs]
    rfl
theorem sized_pair {gs : List Lot} {p : Lot → Lot → Bool} (h : ∀ g ∈ gs, g.length ≤ 60) : sized 4 (pairD (firstPair p gs)) := by
  cases q : firstPair p gs with
  | none => exact sized_up (sized_up (sized_up (sized_up rfl)))
  | some ab =>
    unfold firstPair at q
    obtain ⟨a, ha, q⟩ := List.exists_of_findSome?_eq_some q
    cases q2 : gs.find? (p a) with
    | none => rw [q2] at q; cases q
    | some b =>
      rw [q2] at q
      have e : (a, b) = ab := Option.some.inj q
      subst e
      have hb := List.mem_of_find?_eq_some q2
      have tz : ∀ c ∈ gs, sized 3 (tpl c) := fun c hc => ⟨by show (c.map PyData.str).length ≤ 1000; rw [List.length_map]; have := h c hc; omega, fun y hy => by
        obtain ⟨z, _, rfl⟩ := List.mem_map.mp (show y ∈ c.map PyData.str from hy)
        exact sized_up (sized_up rfl)⟩
      refine ⟨by show 2 ≤ 1000; decide, fun y hy => ?_⟩
      rcases List.mem_cons.mp (show y ∈ [tpl a, tpl b] from hy) with z | hy
      · rw [z]; exact tz a ha
      · rw [List.mem_singleton.mp hy]; exact tz b hb
theorem isNone_pair {G : Hp} {d : Option (Lot × Lot)} {v : V} (r : Rep G (pairD d) v) : decide (v = .non) = d.isNone := by
  cases d with
  | none => rw [show v = .non from r]; rfl
  | some ab =>
    obtain ⟨_, _, e, _⟩ := r
    rw [e]
    rfl
section
variable {P : Program} {w : World} {K : PySem.W.Frag} {mg : Str → Option Value} {base : Heap}
def spPR (K : PySem.W.Frag) : Sp := fun vs H Q _ => ∃ (A : List Addr) (x a : Addr) (hs : Lot) (gs : List Lot) (v : V), Dom A H ∧ vs = [.ref x, .ref a, v] ∧ StopsAt K (wo A H) x hs gs ∧ wo A H a = some (.lst (hs.map V.str)) ∧ Rep (wo A H) (lls gs) v ∧ okHs hs ∧ hs.Nodup ∧ 2 ≤ hs.length ∧ hs.length ≤ 6 ∧ gs.length ≤ 1000 ∧ (∀ g ∈ gs, g.length ≤ 60) ∧ ∀ H', Ex [] H H' → Q (.bl true) H'
theorem ok_wXpairsXright (T : Top K mg base) : FnOk P w K mg base CX0 12 (He.ga K "_law_pairs_right") (fdOf K (He.ga K "_law_pairs_right")) ["_law_stops", "_law_hands_here", "_law_bands"] (spPR K) := by
  have G_qXjoined := ok_qXjoined (P := P) (w := w) T
  have b_qXjoined := bd_qXjoined T
  have G_wXfirstXpair := ok_wXfirstXpair (P := P) (w := w) T
  have b_wXfirstXpair := bd_wXfirstXpair T
  have G_wXsame := ok_same (P := P) (w := w) T 5
  have b_wXsame := bd_wXsame T
  have G_canXstore := ok_canXstore (P := P) (w := w) T
  have b_canXstore := bd_canXstore T
  have G_wXdoXmeet := ok_wXdoXmeet (P := P) (w := w) T
  have b_wXdoXmeet := bd_wXdoXmeet T
  have G_freeXhands := ok_freeXhands (P := P) (w := w) T
  have b_freeXhands := bd_freeXhands T
  have G_qXquorums := ok_qXquorums (P := P) (w := w) T
  have b_qXquorums := bd_qXquorums T
  have G_twoXbands := ok_twoXbands (P := P) (w := w) T
  have b_twoXbands := bd_twoXbands T
  have G_halves := ok_halves (P := P) (w := w) T
  have b_halves := bd_halves T
  refine T.d_wXpairsXright.ok sc_wXpairsXright (fun vs H Q E h => ?len) (fun cdv A outer s H vs Q E hr h => ⟨_, PSs.nox (pss_cons (ps_set (i := 3) sc_wXpairsXright.nd rfl (Or.inr rfl) (pe_callTy (call_dictP rfl) (by rfl) T.n_dict (by decide +kernel) (pa_cons (pe_lc (own := [("_law_hand", 11)]) (g := gName 11) (tt := _) rfl sc_wXpairsXright.nd (pi_seqA (pv 1)) (blkOk_by (by kernel_rfl)) (fun _ _ _ _ _ => (pg_name (i := 11) sc_wXpairsXright.nd rfl (Or.inl rfl))) (fun _ _ _ _ _ => pts_nil) (fun _ _ _ _ _ => (pe_tup (pa_cons (pv 11) (pa_cons (pe_call G_qXquorums (hr.mono (by decide)) rfl T.g_qXquorums T.d_qXquorums.kp b_qXquorums .nil pass0 (pa_cons (pv 1) (pa_cons (pv 2) (pa_cons (pv 11) pa_nil)))) pa_nil))))) pa_nil)))
    (pss_cons (ps_set (i := 4) sc_wXpairsXright.nd rfl (Or.inr rfl) (pe_call G_qXjoined (hr.mono (by decide)) rfl T.g_qXjoined T.d_qXjoined.kp b_qXjoined .nil pass0 (pa_cons (pe_lc (own := [("_law_hand", 11)]) (g := gName 11) (tt := _) rfl sc_wXpairsXright.nd (pi_seqA (pv 1)) (blkOk_by (by kernel_rfl)) (fun _ _ _ _ _ => (pg_name (i := 11) sc_wXpairsXright.nd rfl (Or.inl rfl))) (fun _ _ _ _ _ => pts_nil) (fun _ _ _ _ _ => (pe_dget (hu_of hr) (pv 3) (pv 11) (fun _ _ => rfl)))) pa_nil)))
    (pss_cons (ps_set (i := 5) sc_wXpairsXright.nd rfl (Or.inl rfl) (pe_call G_wXfirstXpair (hr.mono (by decide)) rfl T.g_wXfirstXpair T.d_wXfirstXpair.kp b_wXfirstXpair .nil pass0 (pa_cons (pv 1) (pa_cons (pv 2) (pa_cons pe_non (pa_cons pe_non pa_nil))))))
    (pss_cons (ps_if (PW.pt (pw_or (pt_not (pt_val (pe_call G_wXsame (hr.mono (by decide)) rfl T.g_wXsame T.d_wXsame.kp b_wXsame .nil pass0 (pa_cons (pe_call G_twoXbands (hr.mono (by decide)) rfl T.g_twoXbands T.d_twoXbands.kp b_twoXbands .nil pass0 (pa_cons (pv 0) pa_nil)) (pa_cons (pv 5) pa_nil))))) (pw_or1 (pt_cmpR op_ne (pe_cmpR op_isN (pv 5) pe_non (nomark _)) (pe_call G_wXdoXmeet (hr.mono (by decide)) rfl T.g_wXdoXmeet T.d_wXdoXmeet.kp b_wXdoXmeet .nil pass0 (pa_cons (pv 4) (pa_cons (pv 4) pa_nil))) (nomark _))))) (pss_one (ps_ret pe_bl)) pss_nil)
    (pss_cons (ps_setLc (i := 6) (own := [("_law_hand", 11)]) (g := gName 11) (tt := _) rfl sc_wXpairsXright.nd rfl rfl (sw_true rfl rfl rfl (by decide +kernel)) (pi_seqA (pv 1)) (blkOk_by (by kernel_rfl)) (fun _ _ _ _ _ => (pg_name (i := 11) sc_wXpairsXright.nd rfl (Or.inr rfl))) (fun _ _ _ _ _ => (pts_one (pt_val (pe_callB (cr_allS rfl) (by rfl) T.n_all (by decide +kernel) (pa_cons (pe_lc (own := [("_law_lot", 13)]) (g := gName 13) (tt := _) rfl sc_wXpairsXright.nd (pi_seqA (pv 4)) (blkOk_by (by kernel_rfl)) (fun _ _ _ _ _ => (pg_name (i := 13) sc_wXpairsXright.nd rfl (Or.inl rfl))) (fun _ _ _ _ _ => pts_nil) (fun _ _ _ _ _ => (pe_cmpR op_inS (pv 11) (pv 13) (by rfl)))) pa_nil))))) (fun _ _ _ _ _ => (pv 11)))
    (pss_cons (ps_if (pt_not (pt_val (pe_call G_wXsame (hr.mono (by decide)) rfl T.g_wXsame T.d_wXsame.kp b_wXsame .nil pass0 (pa_cons (pe_call G_freeXhands (hr.mono (by decide)) rfl T.g_freeXhands T.d_freeXhands.kp b_freeXhands .nil pass0 (pa_cons (pv 0) pa_nil)) (pa_cons (pv 6) pa_nil))))) (pss_one (ps_ret pe_bl)) pss_nil)
    (pss_cons (ps_for PassesOwn.never rfl (pi_seqA (pv 1)) (pg_name (i := 7) sc_wXpairsXright.nd rfl (Or.inl rfl)) (pss_one (ps_for PassesOwn.never rfl (pi_seqA (pv 1)) (pg_name (i := 8) sc_wXpairsXright.nd rfl (Or.inl rfl)) (pss_cons (ps_set (i := 9) sc_wXpairsXright.nd rfl (Or.inl rfl) (pe_call G_wXfirstXpair (hr.mono (by decide)) rfl T.g_wXfirstXpair T.d_wXfirstXpair.kp b_wXfirstXpair .nil pass0 (pa_cons (pv 1) (pa_cons (pv 2) (pa_cons (pv 7) (pa_cons (pv 8) pa_nil))))))
    (pss_cons (ps_if (pt_not (pt_val (pe_call G_wXsame (hr.mono (by decide)) rfl T.g_wXsame T.d_wXsame.kp b_wXsame .nil pass0 (pa_cons (pe_call G_halves (hr.mono (by decide)) rfl T.g_halves T.d_halves.kp b_halves .nil (passes_call LamX.takes0 fun _ _ _ _ h => h) (pa_cons (pv 0) (pa_cons (pv 7) (pa_cons (pv 8) pa_nil)))) (pa_cons (pv 9) pa_nil))))) (pss_one (ps_ret pe_bl)) pss_nil)
    (pss_one (ps_if (pt_cmpR op_ne (pe_cmpR op_isN (pv 9) pe_non (nomark _)) (pe_call G_wXdoXmeet (hr.mono (by decide)) rfl T.g_wXdoXmeet T.d_wXdoXmeet.kp b_wXdoXmeet .nil pass0 (pa_cons (pe_dget (hu_of hr) (pv 3) (pv 7) (fun _ _ => rfl)) (pa_cons (pe_dget (hu_of hr) (pv 3) (pv 8) (fun _ _ => rfl)) pa_nil))) (nomark _)) (pss_one (ps_ret pe_bl)) pss_nil)))))))
    (pss_cons (ps_setLc (i := 10) (own := [("_law_phases", 12)]) (g := gName 12) (tt := _) rfl sc_wXpairsXright.nd rfl rfl (sw_true rfl rfl rfl (by decide +kernel)) (pi_seqA (pe_tup (pa_cons pe_int (pa_cons pe_int (pa_cons pe_int (pa_cons pe_int pa_nil)))))) (blkOk_by (by kernel_rfl)) (fun _ _ _ _ _ => (pg_name (i := 12) sc_wXpairsXright.nd rfl (Or.inl rfl))) (fun _ _ _ _ _ => pts_nil) (fun _ _ _ _ _ => (pe_call G_canXstore (hr.mono (by decide)) rfl T.g_canXstore T.d_canXstore.kp b_canXstore .nil (passes_call LamX.takes0 fun _ _ _ _ h => h) (pa_cons (pv 0) (pa_cons (pv 12) pa_nil)))))
    (pss_one (ps_ret (pe_call G_wXsame (hr.mono (by decide)) rfl T.g_wXsame T.d_wXsame.kp b_wXsame .nil pass0 (pa_cons (pv 10) (pa_cons (pe_op op_cat (pe_lst (pa_cons (pe_cmpR (op_neR (hu64 hr)) (pv 6) (pe_lst pa_nil) (nomark _)) pa_nil)) (pe_op op_rep (pe_lst (pa_cons (pe_cmpR op_isN (pv 5) pe_non (nomark _)) pa_nil)) pe_int)) pa_nil))))))))))))), ?go⟩)
  case len =>
    obtain ⟨A, x, a, hs, gs, v, _, rfl, _⟩ := h
    rfl
  case go =>
    obtain ⟨A, x, a, hs, gs, v, dA, rfl, hS, ha, rv, hok, hnd, h2, h6, hgl, hgl2, k⟩ := h
    have hp64 : 2 ^ hs.length ≤ 64 := Nat.pow_le_pow_right (by decide) h6
    refine ⟨_, rfl, a, _, rfl, .inl (wo_at ha), fun J Ok S hok' => lc_data S (A := A) (B := []) (fun i o => ∃ z qs, hs[i]? = some z ∧ o = some (.tuple [.str z, lls qs]) ∧ IsQ hs gs z qs ∧ qs.length ≤ 64) (fun _ _ => True) (fun a h => absurd h (by simp)) dA (fun _ _ => trivial) (by rw [List.length_map]; omega) (fun _ _ _ _ _ _ _ => trivial) (fun H' s => hok' H' (seqAt_same (.inl ha) s)) ?_ ?_⟩
    · rintro i xv A1 H9 H1 Kt Kf hi hA d1 s1 e1 _ ⟨rfl, hx⟩ kt kf
      rw [List.length_map] at hi
      obtain ⟨z, hz⟩ : ∃ z, hs[i]? = some z := ⟨hs[i]'hi, by simp [hi]⟩
      obtain rfl := str_at hz hx
      refine ⟨rfl, _, rfl, _, rfl, _, rfl, _, rfl, A1, hs, gs, z, a, v, d1, rfl, s1 _ _ ha, rv.mono s1, h6, hgl, hok.lot, fun u qs H2 e2 hq hl ru => ⟨by show 2 ≤ sizeLine; decide, fun p hp => ?_⟩⟩
      obtain ⟨n1, r1, _⟩ := tupNew (d1.ex e2) hp (z := .str z) (dz := .str z) rfl ru
      exact kt (.tuple [.str z, lls qs]) _ _ ⟨z, qs, hz, rfl, hq, by omega⟩ (e2.trans n1) trivial r1
    · intro rs D H1 hD ho e1 _ r1
      obtain ⟨hrl, hra⟩ := ho.all (T := fun i r => ∃ z qs, hs[i]? = some z ∧ r = PyData.tuple [.str z, lls qs] ∧ IsQ hs gs z qs ∧ qs.length ≤ 64) fun i o ⟨z, qs, q1, q2, q3⟩ => ⟨_, q2, z, qs, q1, rfl, q3⟩
      rw [List.length_map] at hrl
      have hex : ∀ z, ∃ qs, ∀ i, hs[i]? = some z → rs[i]? = some (PyData.tuple [.str z, lls qs]) ∧ IsQ hs gs z qs ∧ qs.length ≤ 64 := fun z => by
        by_cases hz : z ∈ hs
        · obtain ⟨i, hi, e⟩ := List.mem_iff_getElem.mp hz
          have hzi : hs[i]? = some z := by rw [List.getElem?_eq_getElem hi, e]
          have hri : i < rs.length := by omega
          have er : rs[i]? = some rs[i] := by simp [hri]
          obtain ⟨z', qs, q1, q2, q3⟩ := hra i _ er
          obtain rfl : z' = z := Option.some.inj (q1.symm.trans hzi)
          refine ⟨qs, fun j hj => ?_⟩
          have eij : i = j := (List.getElem?_inj hi hnd).mp (hzi.trans hj.symm)
          subst eij
          rw [er, q2]
          exact ⟨rfl, q3⟩
        · exact ⟨[], fun i hi => absurd (List.mem_of_getElem? hi) hz⟩
      obtain ⟨Qs, hQs⟩ : ∃ Qs : Str → List Lot, ∀ z i, hs[i]? = some z → rs[i]? = some (PyData.tuple [.str z, lls (Qs z)]) ∧ IsQ hs gs z (Qs z) ∧ (Qs z).length ≤ 64 := ⟨fun z => Classical.choose (hex z), fun z => Classical.choose_spec (hex z)⟩
      have ers : rs = hs.map fun z => PyData.tuple [.str z, lls (Qs z)] := List.ext_getElem? fun i => by
        rw [List.getElem?_map]
        cases q : hs[i]? with
        | none =>
          rw [List.getElem?_eq_none_iff] at q
          exact List.getElem?_eq_none_iff.2 (by omega)
        | some z => exact (hQs z i q).1
      have hIQ : ∀ z ∈ hs, IsQ hs gs z (Qs z) ∧ (Qs z).length ≤ 64 := fun z hz => by
        obtain ⟨i, hi, e⟩ := List.mem_iff_getElem.mp hz
        exact (hQs z i (by rw [List.getElem?_eq_getElem hi, e])).2
      rw [ers] at r1
      obtain ⟨D', vs1, eD, hD1, rL1⟩ := r1
      obtain rfl : D = D' := by cases eD; rfl
      obtain ⟨ps, us, rfl, hpair, rus⟩ := dict_rep rL1
      clear hex hra ho ers hQs
      have d1 := dA.ex e1
      have pairT : Paired (fun p (kv : Key × V) => SqT K H1 p [kV kv.1, kv.2]) ps (kvsOf hs us) := paired_imp (fun p kv h => SqT.of (wo_at h)) hpair
      refine ⟨D, ps, kvsOf hs us, rfl, SqL.of (wo_at hD1), pairT, fun dd hdd => ?_⟩
      have e2 : Ex [] H1 (upd H1 dd (.dK (mergeK [] (kvsOf hs us)))) := Ex.new hdd
      have w2 : wo A (upd H1 dd (.dK (mergeK [] (kvsOf hs us)))) dd = some (.dK (mergeK [] (kvsOf hs us))) := wo_of (d1.not hdd) upd_same
      have e02 := e1.trans e2
      have hul : us.length = hs.length := by rw [rus.len, List.length_map]
      have look : ∀ z ∈ hs, ∃ u, valV (mergeK [] (kvsOf hs us)) (Sum.inr z) = some u ∧ Rep (wo A (upd H1 dd (.dK (mergeK [] (kvsOf hs us))))) (lls (Qs z)) u := fun z hz => by
        obtain ⟨i, hi, e⟩ := List.mem_iff_getElem.mp hz
        have hzi : hs[i]? = some z := by rw [List.getElem?_eq_getElem hi, e]
        have hui : us[i]? = some (us[i]'(by omega)) := by simp [show i < us.length by omega]
        exact ⟨_, (val_merge hs us [] z hnd hul).2 i _ hzi hui, (getL rus hui hzi).mono (e2.any (A := A)).old⟩
      generalize mergeK [] (kvsOf hs us) = M at e2 w2 e02 look ⊢
      generalize (upd H1 dd (.dK M)) = H2 at e2 w2 e02 look ⊢
      clear pairT hpair rus rL1 hD1
      have s2 := (e02.any (A := A)).old
      have d2 := dA.ex e02
      have hS2 := hS.mono s2
      have ha2 := s2 _ _ ha
      have rv2 := rv.mono s2
      replace k : ∀ H', Ex [] H2 H' → Q (.bl true) H' := fun H' e => k H' (e02.trans e)
      clear s2 e02 e2 e1 d1 hdd
      have okQ : ∀ z ∈ hs, ∀ q ∈ Qs z, okLot q := fun z hz q hq y hy => nm_ok (hok y (((hIQ z hz).1.into hq).2.1 y hy))
      -- every
      refine ⟨_, rfl, a, _, rfl, .inl (wo_at ha2), fun J Ok S hok' => lc_map S (A := A) hs (fun _ => true) (fun z => lls (Qs z)) (by simp) d2 (by rw [List.length_map]; omega) (fun H' s => hok' H' (seqAt_same (.inl ha2) s)) ?_ ?_⟩
      · rintro i z xv A1 H9 H3 Kt Kf hz hA d3 s3 e3 ⟨rfl, hx⟩ kt kf
        obtain rfl := str_at hz hx
        obtain ⟨u, hu, ru⟩ := look z (List.mem_of_getElem? hz)
        refine ⟨rfl, _, rfl, _, rfl, dd, u, rfl, ?_, kt rfl _ _ (Ex.refl _ _) (ru.mono s3)⟩
        have q := DGet.k (k := Sum.inr z) (wo_at (s3 _ _ w2))
        rw [hu] at q
        exact q
      · intro D2 H3 hD2 e3 r3
        rw [List.filter_eq_self.mpr (fun _ _ => rfl)] at r3
        have r3' : Rep (wo A H3) (.list ((hs.map Qs).map lls)) (.ref D2) := by
          rw [List.map_map]
          exact r3
        have d3 := d2.ex e3
        refine ⟨A, hs.map Qs, .ref D2, d3, rfl, r3', fun qs hq => ?_, by rw [List.length_map]; omega, fun ve js H4 e4 hjs hjl rj => ?_⟩
        · obtain ⟨z, hz, rfl⟩ := List.mem_map.mp hq
          exact ⟨okQ z hz, by have := (hIQ z hz).2; omega⟩
        have hj : ∀ x, x ∈ js ↔ ∃ h ∈ hs, x ∈ Qs h := fun x => by
          rw [hjs]
          constructor
          · rintro ⟨qs, hq, hx⟩
            obtain ⟨z, hz, rfl⟩ := List.mem_map.mp hq
            exact ⟨z, hz, hx⟩
          · rintro ⟨z, hz, hx⟩
            exact ⟨_, List.mem_map.mpr ⟨z, hz, rfl⟩, hx⟩
        have jlen : ∀ j ∈ js, j.length ≤ 1000 := fun j hjm => by
          obtain ⟨z, hz, hx⟩ := (hj j).mp hjm
          obtain ⟨b, _, rfl, _⟩ := ((hIQ z hz).1 j).mp hx
          unfold pickB
          rw [List.length_map]
          have := List.length_filter_le (fun q => testB b q.2) hs.zipIdx
          rw [List.length_zipIdx] at this
          omega
        have hQ1 : ∀ h ∈ hs, IsQ hs gs h (Qs h) := fun h hh => (hIQ h hh).1
        have M1 := two_meet hnd h2 hQ1 hj
        have M2 := free_eq hnd h2 hQ1 hj
        have e24 := e3.trans e4
        have s4 := (e24.any (A := A)).old
        -- due
        refine ⟨_, rfl, _, rfl, A, hs, gs, none, none, a, v, .non, .non, d3.ex e4, rfl, s4 _ _ ha2, rv2.mono s4, rfl, rfl, by omega, fun vd H5 e5 rd => ?_⟩
        have e25 := e24.trans e5
        have s5 := (e25.any (A := A)).old
        have rdh : Rep (wo A H5) (pairD (firstPair (holdB hs) gs)) vd := by rw [← fp_none_eq]; exact rd
        -- two_bands
        refine ⟨_, rfl, A, x, hs, gs, d2.ex e25, rfl, hS2.mono s5, by omega, hgl, fun vt H6 e6 rt => ⟨_, rfl, A, pairD (firstPair (holdB hs) gs), vt, vd, (d2.ex e25).ex e6, rfl, rt, rdh.mono (e6.any (A := A)).old, (pairOK _).1, sized_pair hgl2, fun H7 e7 => ⟨_, rfl, iteF ?_⟩⟩⟩
        have e57 := e6.trans e7
        have rj7 := rj.mono ((e5.trans e57).any (A := A)).old
        have d7 := (d2.ex e25).ex e57
        refine ⟨_, rfl, rfl, _, rfl, _, rfl, A, js, js, ve, ve, d7, rfl, rj7, rj7, hjl, hjl, jlen, fun H8 e8 => ⟨rfl, false, ?_, iteF ?_⟩⟩
        · rw [isNone_pair rd, M1]
          simp
        have e78 := e57.trans e8
        have rj8 := rj7.mono (e8.any (A := A)).old
        have d8 := d7.ex e8
        have e28 := e25.trans e78
        have s8 := (e28.any (A := A)).old
        have ha8 := s8 _ _ ha2
        obtain ⟨vea, jvs, rfl, hve, rjs⟩ := id rj8
        have hjvl : js.length = jvs.length := by rw [rjs.len, List.length_map]
        -- free
        refine ⟨_, rfl, a, _, rfl, .inl (wo_at ha8), fun J Ok S hok' => lc_map S (A := A) hs (fun z => (js.map fun x => decide (z ∈ x)).all id) .str (by simp) d8 (by rw [List.length_map]; omega) (fun H' s => hok' H' (seqAt_same (.inl ha8) s)) ?_ ?_⟩
        · rintro i z xv A1 H9 H9a Kt Kf hz hA d9 s9 e9 ⟨rfl, hx⟩ kt kf
          obtain rfl := str_at hz hx
          have hve9 := s9 _ _ hve
          refine ⟨rfl, _, rfl, vea, jvs, rfl, .inl (wo_at hve9), fun J Ok S hok' => lc_map S (A := A1) js (fun _ => true) (fun x => .bool (decide (z ∈ x))) hjvl d9 (by omega) (fun H' s => hok' H' (seqAt_same (.inl hve9) s)) ?_ ?_⟩
          · rintro j y yv A2 H10 H10a Kt2 Kf2 hy hA2 d10 s10 e10 ⟨rfl, hyv⟩ kt2 kf2
            obtain ⟨c, rfl, hc⟩ := lot_at ((rjs.mono s9).mono s10) hyv hy
            refine ⟨rfl, _, rfl, _, rfl, c, y.map V.str, rfl, .inl (wo_at hc), rfl, flat_strs, kt2 rfl _ _ (Ex.refl _ _) ?_⟩
            rw [inV_strs]
            rfl
          · intro D3 H10 hD3 e10 r10
            refine ⟨D3, _, rfl, bl_fin r10, _, rfl, ?_⟩
            by_cases c : (js.map fun x => decide (z ∈ x)).all id = true
            · exact iteT' c ⟨_, rfl, kt c _ _ e10 rfl⟩
            · exact iteF' (Bool.not_eq_true _ |>.mp c) (kf (Bool.not_eq_true _ |>.mp c) _ e10)
        · intro D3 H9 hD3 e9 r9
          rw [← M2] at r9
          have r9 : Rep (wo A H9) (ls (freeL hs gs)) (.ref D3) := r9
          have e29 := e28.trans e9
          have s9 := (e29.any (A := A)).old
          have d9 := d8.ex e9
          have szf : sized 4 (ls (freeL hs gs)) := ⟨by
            show ((freeL hs gs).map PyData.str).length ≤ 1000
            rw [List.length_map]
            unfold freeL
            have := List.length_filter_le (fun z => !(gs.map fun g => decide (z ∈ g)).any id) hs
            omega, fun y hy => by
            obtain ⟨z, _, rfl⟩ := List.mem_map.mp (show y ∈ (freeL hs gs).map PyData.str from hy)
            exact sized_up (sized_up (sized_up rfl))⟩
          refine ⟨_, rfl, A, x, hs, gs, d9, rfl, hS2.mono s9, by omega, hgl, fun vt H10 e10 rt => ⟨_, rfl, A, ls (freeL hs gs), vt, .ref D3, d9.ex e10, rfl, rt, r9.mono (e10.any (A := A)).old, pureL_strs _, szf, fun H11 e11 => ⟨_, rfl, iteF ?_⟩⟩⟩
          have e911 := e10.trans e11
          have E11 := e29.trans e911
          have s11 := (E11.any (A := A)).old
          have d11 := d9.ex e911
          have r11 := r9.mono (e911.any (A := A)).old
          have rd11 := rdh.mono ((e78.trans (e9.trans e911)).any (A := A)).old
          have hS11 := hS2.mono s11
          have ha11 := s11 _ _ ha2
          have rv11 := rv2.mono s11
          have w11 := s11 _ _ w2
          have look11 : ∀ z ∈ hs, ∃ u, valV M (Sum.inr z) = some u ∧ Rep (wo A H11) (lls (Qs z)) u := fun z hz => by
            obtain ⟨u, h1, h3⟩ := look z hz
            exact ⟨u, h1, h3.mono s11⟩
          replace k : ∀ H', Ex [] H11 H' → Q (.bl true) H' := fun H' e => k H' (E11.trans e)
          clear s11 E11 e29 s9 e28 s8 rj8 rjs e25 s5 e24 s4
          refine ⟨_, rfl, a, _, rfl, .inl (wo_at ha11), fun J Ok S hok' => for_src S (fun i σ H' => ∃ y7 y8 y9 y10 y11 y12 y13, σ = [some (.ref x), some (.ref a), some v, some (.ref dd), some (.ref vea), some vd, some (.ref D3), y7, y8, y9, y10, y11, y12, y13] ∧ Ex [] H11 H')
            ⟨_, _, _, _, _, _, _, rfl, Ex.refl _ _⟩ (fun i σ H' hi ⟨_, _, _, _, _, _, _, _, e12⟩ => hok' H' (seqAt_same (.inl ha11) (e12.any (A := A)).old)) ?_ ?_⟩
          · rintro i xv σ H9 H12 hi ⟨y7, y8, y9, y10, y11, y12, y13, rfl, e12⟩ ⟨rfl, hx⟩
            obtain ⟨zw, hzw⟩ : ∃ z, hs[i]? = some z := ⟨hs[i]'(by rw [List.length_map] at hi; exact hi), by rw [List.length_map] at hi; simp [hi]⟩
            obtain rfl := str_at hzw hx
            have hzwm := List.mem_of_getElem? hzw
            have s12 := (e12.any (A := A)).old
            have ha12 := s12 _ _ ha11
            refine ⟨_, rfl, a, _, rfl, .inl (wo_at ha12), fun J Ok S hok' => for_src S (fun i σ H' => ∃ y8 y9 y10 y11 y12 y13, σ = [some (.ref x), some (.ref a), some v, some (.ref dd), some (.ref vea), some vd, some (.ref D3), some (.str zw), y8, y9, y10, y11, y12, y13] ∧ Ex [] H12 H')
              ⟨_, _, _, _, _, _, rfl, Ex.refl _ _⟩ (fun i σ H' hi ⟨_, _, _, _, _, _, _, e13⟩ => hok' H' (seqAt_same (.inl ha12) (e13.any (A := A)).old)) ?_ ?_⟩
            · rintro j xv2 σ H9 H13 hjx ⟨y8, y9, y10, y11, y12, y13, rfl, e13⟩ ⟨rfl, hx2⟩
              obtain ⟨zr, hzr⟩ : ∃ z, hs[j]? = some z := ⟨hs[j]'(by rw [List.length_map] at hjx; exact hjx), by rw [List.length_map] at hjx; simp [hjx]⟩
              obtain rfl := str_at hzr hx2
              have hzrm := List.mem_of_getElem? hzr
              have e113 := e12.trans e13
              have s13 := (e113.any (A := A)).old
              have d13 := d11.ex e113
              have hD : ∀ z ∈ hs, handD (.str z) hs = true := fun z hz => by
                show (isNm z && decide (z ∈ hs)) = true
                rw [hok z hz, decide_eq_true hz]
                rfl
              have hsh : ∀ z ∈ hs, shrt (.str z) := fun z hz => by
                have := nm_len (hok z hz)
                show z.length ≤ 1000
                omega
              refine ⟨_, rfl, _, rfl, _, rfl, _, rfl, A, hs, gs, some zw, some zr, a, v, .str zw, .str zr, d13, rfl, s13 _ _ ha11, rv11.mono s13, rfl, rfl, by omega, fun vp H14 e14 rp => ?_⟩
              have e114 := e113.trans e14
              have s14 := (e114.any (A := A)).old
              have d14 := d13.ex e14
              refine ⟨_, rfl, _, rfl, _, rfl, A, x, hs, gs, .str zw, .str zr, .str zw, .str zr, d14, rfl, hS11.mono s14, by omega, hgl, fun g hg => by have := hgl2 g hg; omega, rfl, rfl, hsh zw hzwm, hsh zr hzrm, fun w1 r1 h1 h3 _ _ vv H15 e15 rvv => ?_, fun hc => (by rw [hD zw hzwm] at hc; cases hc), fun _ hc => (by rw [hD zr hzrm] at hc; cases hc)⟩
              cases h1
              cases h3
              have d15 := d14.ex e15
              have rp15 := rp.mono (e15.any (A := A)).old
              have rp15' : Rep (wo A H15) (pairD (firstPair (halfB hs zw zr) gs)) vp := by rw [← fp_some_eq]; exact rp15
              refine ⟨_, rfl, A, pairD (firstPair (halfB hs zw zr) gs), vv, vp, d15, rfl, rvv, rp15', (pairOK _).1, sized_pair hgl2, fun H16 e16 => ⟨_, rfl, iteF ?_⟩⟩
              have e116 := e114.trans (e15.trans e16)
              have s16 := (e116.any (A := A)).old
              have d16 := d15.ex e16
              obtain ⟨u1, hu1, ru1⟩ := look11 zw hzwm
              obtain ⟨u2, hu2, ru2⟩ := look11 zr hzrm
              have g1 := DGet.k (k := Sum.inr zw) (wo_at (s16 _ _ w11))
              have g2 := DGet.k (k := Sum.inr zr) (wo_at (s16 _ _ w11))
              rw [hu1] at g1
              rw [hu2] at g2
              have ql : ∀ z ∈ hs, (Qs z).length ≤ 1000 ∧ ∀ q ∈ Qs z, q.length ≤ 1000 := fun z hz => ⟨by have := (hIQ z hz).2; omega, fun q hq => jlen q ((hj q).mpr ⟨z, hz, hq⟩)⟩
              refine ⟨_, rfl, rfl, _, rfl, _, rfl, dd, u1, rfl, g1, _, rfl, _, rfl, dd, u2, rfl, g2, A, Qs zw, Qs zr, u1, u2, d16, rfl, ru1.mono s16, ru2.mono s16, (ql zw hzwm).1, (ql zr hzrm).1, (ql zw hzwm).2, fun H17 e17 => ⟨rfl, false, ?_, iteF ?_⟩⟩
              · rw [isNone_pair rp, half_meet hzwm hzrm (hQ1 zw hzwm) (hQ1 zr hzrm)]
                simp
              · exact ⟨_, _, _, _, _, _, rfl, e13.trans (e14.trans ((e15.trans e16).trans e17))⟩
            · rintro σ H13 ⟨y8, y9, y10, y11, y12, y13, rfl, e13⟩
              exact ⟨_, _, _, _, _, _, _, rfl, e12.trans e13⟩
          · rintro σ H12 ⟨y7, y8, y9, y10, y11, y12, y13, rfl, e12⟩
            have s12 := (e12.any (A := A)).old
            have d12 := d11.ex e12
            refine ⟨by show 4 ≤ sizeLine; decide, fun p hp => ?_⟩
            have n1 : Ex [] H12 (upd H12 p (.tup [.int 1, .int 2, .int 3, .int 4])) := Ex.new hp
            have w1 : wo A (upd H12 p (.tup [.int 1, .int 2, .int 3, .int 4])) p = some (.tup [.int 1, .int 2, .int 3, .int 4]) := wo_of (d12.not hp) upd_same
            generalize (upd H12 p (.tup [.int 1, .int 2, .int 3, .int 4])) = H13 at n1 w1 ⊢
            have d13 := d12.ex n1
            have e113 := e12.trans n1
            refine ⟨p, _, rfl, .inr (wo_at w1), fun J Ok S hok' => lc_map S (A := A) ([1, 2, 3, 4] : List Int) (fun _ => true) (fun i => .bool (storeB hs gs i)) rfl d13 (by show 4 ≤ 100000; decide) (fun H' s => hok' H' (seqAt_same (.inr w1) s)) ?_ ?_⟩
            · rintro i m xv A1 H9 H14 Kt Kf hm hA d14 s14 e14 ⟨rfl, hx⟩ kt kf
              have exv : xv = .int m ∧ 1 ≤ m := by
                match i, hm, hx with
                | 0, hm, hx => cases hm; cases hx; exact ⟨rfl, by decide⟩
                | 1, hm, hx => cases hm; cases hx; exact ⟨rfl, by decide⟩
                | 2, hm, hx => cases hm; cases hx; exact ⟨rfl, by decide⟩
                | 3, hm, hx => cases hm; cases hx; exact ⟨rfl, by decide⟩
                | i + 4, hm, hx => exact absurd hm (by simp)
              obtain ⟨rfl, hm1⟩ := exv
              refine ⟨rfl, _, rfl, _, rfl, A, x, hs, gs, .int m, .int m, d13.ex e14, rfl, hS11.mono ((e113.trans e14).any (A := A)).old, hok, by omega, hgl, rfl, .inl ⟨m, rfl, hm1, fun H' e => kt rfl _ _ e rfl⟩⟩
            · intro D4 H14 hD4 e14 r14
              rw [List.filter_eq_self.mpr (fun _ _ => rfl)] at r14
              have d14 := d13.ex e14
              have e1114 := e113.trans e14
              have s14 := (e1114.any (A := A)).old
              have hof : okLot (freeL hs gs) := fun z hz => nm_ok (hok z (List.mem_filter.mp hz).1)
              -- free != []
              refine ⟨_, rfl, _, rfl, by show 0 ≤ sizeLine; decide, fun q1 hq1 => ?_⟩
              have n2 : Ex [] H14 (upd H14 q1 (.lst [])) := Ex.new hq1
              refine ⟨ls (freeL hs gs), ls [], datAt_ls ((r11.mono s14).mono (n2.any (A := A)).old) hof, datAt_ls (A := A) (Rep.ls.mpr ⟨q1, rfl, wo_of (d14.not hq1) upd_same⟩) (fun z hz => absurd hz (by simp)), by show 1 ≤ sizeLine; decide, fun q2 hq2 => ?_⟩
              have n3 : Ex [] _ _ := Ex.new (o := .lst [.bl (if true = true then !(PyData.eqv (ls (freeL hs gs)) (ls [])) else PyData.eqv (ls (freeL hs gs)) (ls []))]) hq2
              refine ⟨_, rfl, rfl, by show 1 ≤ sizeLine; decide, fun q3 hq3 => ?_⟩
              have n4 : Ex [] _ _ := Ex.new (o := .lst [.bl (decide (vd = .non))]) hq3
              refine ⟨q3, 3, _, rfl, rfl, upd_same, by decide, by decide, by show 1 * 3 ≤ sizeLine; decide, fun q4 hq4 => ?_⟩
              have n5 : Ex [] _ _ := Ex.new (o := .lst (List.replicate (3 : Int).toNat [.bl (decide (vd = .non))]).flatten) hq4
              refine ⟨q2, q4, _, _, rfl, rfl, n5.at (n4.at upd_same), upd_same, by show 1 + 3 ≤ sizeLine; decide, fun q5 hq5 => ?_⟩
              have n6 : Ex [] _ _ := Ex.new (o := .lst ([.bl (if true = true then !(PyData.eqv (ls (freeL hs gs)) (ls [])) else PyData.eqv (ls (freeL hs gs)) (ls []))] ++ (List.replicate (3 : Int).toNat [.bl (decide (vd = .non))]).flatten)) hq5
              have nAll := n2.trans (n3.trans (n4.trans (n5.trans n6)))
              have d18 := d14.ex (n2.trans (n3.trans (n4.trans n5)))
              have hv2 : decide (vd = .non) = (firstPair (holdB hs) gs).isNone := isNone_pair (G := wo A H11) rd11
              refine ⟨A, .list [.bool (storeB hs gs 1), .bool (storeB hs gs 2), .bool (storeB hs gs 3), .bool (storeB hs gs 4)], .ref D4, .ref q5, d14.ex nAll, rfl, r14.mono (nAll.any (A := A)).old, ⟨q5, _, rfl, wo_of (d18.not hq5) upd_same, ?_⟩, rfl, ⟨by show 4 ≤ 1000; decide, fun y hy => ?_⟩, fun H' e => k H' (e1114.trans (nAll.trans e))⟩
              · refine .cons ?_ (.cons ?_ (.cons ?_ (.cons ?_ .nil)))
                · show V.bl _ = V.bl _
                  rw [eqv_ls]
                  rfl
                · show V.bl _ = V.bl _
                  rw [hv2]
                  rfl
                · show V.bl _ = V.bl _
                  rw [hv2]
                  rfl
                · show V.bl _ = V.bl _
                  rw [hv2]
                  rfl
              · have hy : y ∈ ([.bool (storeB hs gs 1), .bool (storeB hs gs 2), .bool (storeB hs gs 3), .bool (storeB hs gs 4)] : List PyData) := hy
                simp only [List.mem_cons, List.not_mem_nil, or_false] at hy
                rcases hy with q | q | q | q <;> rw [q] <;> exact sized_up (sized_up (sized_up rfl))
end
end K70
end
section
set_option maxHeartbeats 4000000
/-! Plain facts for the law. -/
namespace K70
open PySem PySem.Spec PyProof.Rows L2
variable [Tbs]
theorem six_nd : SIX.Nodup := by decide +kernel
theorem six_ok : okHs SIX := by
  have : ∀ z ∈ SIX, isNm z = true := by decide +kernel
  exact this
theorem six_q7 : ("q7" : Str) ∉ SIX := by decide +kernel
theorem nm_q7 : isNm "q7" = true := by decide +kernel
theorem hands_of {zs ys : Lot} {k : Nat} (p : zs.Perm SIX) (e : ys = zs.take k) (hk : k ≤ 5) : okHs ys ∧ ys.Nodup ∧ ys.length = k ∧ ∀ z ∈ ys, z ∈ SIX := by
  have hm : ∀ z ∈ ys, z ∈ SIX := fun z hz => by
    rw [e] at hz
    exact p.mem_iff.mp (List.mem_of_mem_take hz)
  refine ⟨fun z hz => six_ok z (hm z hz), ?_, ?_, hm⟩
  · rw [e]
    exact (p.nodup_iff.mpr six_nd).sublist (List.take_sublist _ _)
  · rw [e, List.length_take, p.length_eq]
    show min k 6 = k
    omega
theorem len_great (bs : List Lot) : (great bs).length ≤ bs.length := by
  unfold great
  rw [(srtK_perm _).length_eq]
  exact Nat.le_trans (once_spec _).2.2 (List.length_filter_le _ _)
abbrev og (bs : List Lot) : List Lot := great ([] :: bs.map srt)
theorem og_of {hs : Lot} {bs : List Lot} (hL : LotsOf hs bs) : ∀ g ∈ og bs, g.Nodup ∧ (∀ z ∈ g, z ∈ hs) ∧ srt g = g := fun g hg => by
  have := (mem_great.mp hg).1
  rcases List.mem_cons.1 this with q | q
  · rw [q]
    exact ⟨List.nodup_nil, fun z hz => (by cases hz), List.length_eq_zero_iff.mp (len_srt [])⟩
  · obtain ⟨b, hb, rfl⟩ := List.mem_map.mp q
    exact ⟨(srt_perm b).nodup_iff.mpr (hL.nd b hb), fun z hz => hL.sub b hb z (mem_srt.mp hz), srt_srt b⟩
theorem og_len {hs : Lot} {bs : List Lot} (hL : LotsOf hs bs) : (og bs).length ≤ 11 := by
  refine Nat.le_trans (len_great _) ?_
  rw [List.length_cons, List.length_map]
  have := hL.len
  omega
theorem og_lots {hs : Lot} {bs : List Lot} (hL : LotsOf hs bs) (h6 : hs.length ≤ 6) : ∀ g ∈ og bs, g.length ≤ 6 := fun g hg => by
  obtain ⟨a, b, _⟩ := og_of hL g hg
  exact Nat.le_trans (nodup_len a b) h6
theorem og_og {hs : Lot} {bs : List Lot} (hL : LotsOf hs bs) : og (og bs) = og bs := by
  have e : (og bs).map srt = og bs := by
    have : ∀ xs : List Lot, (∀ g ∈ xs, srt g = g) → xs.map srt = xs := fun xs => by
      induction xs with
      | nil => intro _; rfl
      | cons x xs ih =>
        intro h
        rw [List.map_cons, h x (List.mem_cons_self ..), ih fun g hg => h g (List.mem_cons_of_mem _ hg)]
    exact this _ fun g hg => (og_of hL g hg).2.2
  show great ([] :: (og bs).map srt) = _
  rw [e]
  exact great_great
theorem og_twice (bs : List Lot) (d : Nat) : og (bs ++ bs.take d) = og bs := great_ext fun x => by
  rw [List.map_append, List.mem_cons, List.mem_cons, List.mem_append]
  constructor
  · rintro (h | h | h)
    · exact .inl h
    · exact .inr h
    · refine .inr ?_
      obtain ⟨b, hb, rfl⟩ := List.mem_map.mp h
      exact List.mem_map_of_mem (List.mem_of_mem_take hb)
  · rintro (h | h)
    · exact .inl h
    · exact .inr (.inl h)
/-- the items of d are, as texts, the lots -/
def LotItems (d : PyData) (cs : List Lot) : Prop := isL d = true ∧ (itemsD d).length = cs.length ∧ ∀ (i : Nat) (c : Lot) (x : PyData), cs[i]? = some c → (itemsD d)[i]? = some x → isL x = true ∧ itemsD x = c.map .str
theorem lotItems_lls (cs : List Lot) : LotItems (lls cs) cs := by
  refine ⟨rfl, by show (cs.map ls).length = _; rw [List.length_map], fun i c x hc hx => ?_⟩
  have hx : (cs.map ls)[i]? = some x := hx
  rw [List.getElem?_map, hc] at hx
  cases hx
  exact ⟨rfl, rfl⟩
theorem lotItems_loose {cs : List Lot} {d : PyData} (h : looseD 2 (lls cs) d) : LotItems d cs := by
  rcases h with ⟨h, _⟩ | ⟨_, h1, h2, h3⟩
  · cases h
  · have h2 : (itemsD d).length = (cs.map ls).length := h2
    refine ⟨h1, by rw [h2, List.length_map], fun i c x hc hx => ?_⟩
    have e : (itemsD (lls cs))[i]? = some (ls c) := by
      show (cs.map ls)[i]? = _
      rw [List.getElem?_map, hc]
      rfl
    exact loose_items (h3 i _ _ e hx) rfl
theorem LotItems.of {d : PyData} {cs : List Lot} (h : LotItems d cs) {hs : Lot} (hok : okHs hs) (nd : ∀ c ∈ cs, c.Nodup) (sub : ∀ c ∈ cs, ∀ z ∈ c, z ∈ hs) (h6 : hs.length ≤ 6) : badAt (srt hs) (itemsD d) 0 = none ∧ lotsOf d = cs ∧ ∀ x ∈ itemsD d, tinyD x := by
  obtain ⟨h1, h2, h3⟩ := h
  have at_ : ∀ x ∈ itemsD d, ∃ c ∈ cs, isL x = true ∧ itemsD x = c.map .str := fun x hx => by
    obtain ⟨i, hi⟩ := List.mem_iff_getElem?.1 hx
    have hlt := (List.getElem?_eq_some_iff.mp hi).1
    rw [h2] at hlt
    have hc : cs[i]? = some cs[i] := by simp [hlt]
    exact ⟨_, List.mem_of_getElem? hc, h3 i _ _ hc hi⟩
  refine ⟨badAt_all fun x hx => ?_, ?_, fun x hx => ?_⟩
  · obtain ⟨c, hc, q1, q2⟩ := at_ x hx
    exact lotD_of q1 q2 (nd c hc) fun y hy => ⟨hok y (sub c hc y hy), mem_srt.mpr (sub c hc y hy)⟩
  · refine List.ext_getElem? fun i => ?_
    show ((itemsD d).map strsOf)[i]? = _
    rw [List.getElem?_map]
    cases q : (itemsD d)[i]? with
    | none =>
      rw [List.getElem?_eq_none_iff] at q
      rw [show cs[i]? = none from List.getElem?_eq_none_iff.mpr (by omega)]
      rfl
    | some x =>
      have hlt := (List.getElem?_eq_some_iff.mp q).1
      rw [h2] at hlt
      have hc : cs[i]? = some cs[i] := by simp [hlt]
      rw [hc]
      exact congrArg some (strsOf_of (h3 i _ _ hc q).2)
  · obtain ⟨c, hc, q1, q2⟩ := at_ x hx
    have := nodup_len (nd c hc) (sub c hc)
    refine ⟨by rw [q2, List.length_map]; omega, fun y hy => ?_⟩
    rw [q2] at hy
    obtain ⟨z, hz, rfl⟩ := List.mem_map.mp hy
    have := nm_len (hok z (sub c hc z hz))
    show z.length ≤ 1000
    omega
/-- what chk says of hands -/
theorem chk_okl {zs : Lot} (h : okHs zs) (nd : zs.Nodup) (h2 : 2 ≤ zs.length) : chk (ls zs) = .ok (srt zs) := by
  rw [chk_ls h nd, if_neg (by omega)]
theorem chk_okt {zs : Lot} (h : okHs zs) (nd : zs.Nodup) (h2 : 2 ≤ zs.length) : chk (tpl zs) = .ok (srt zs) := by
  rw [chk_tpl h nd, if_neg (by omega)]
theorem tiny_strs {zs : Lot} {d : PyData} (e : itemsD d = zs.map .str) (hl : zs.length ≤ 50) (h : okHs zs) : tinyD d := by
  refine ⟨by rw [e, List.length_map]; exact hl, fun y hy => ?_⟩
  rw [e] at hy
  obtain ⟨z, hz, rfl⟩ := List.mem_map.mp hy
  have := nm_len (h z hz)
  show z.length ≤ 1000
  omega
/-- other hands -/
theorem q7_ne {hs : Lot} (hs6 : ∀ z ∈ hs, z ∈ SIX) (tl : Lot) : srt hs ≠ srt ("q7" :: tl) := fun e => by
  have : ("q7" : Str) ∈ srt ("q7" :: tl) := mem_srt.mpr (List.mem_cons_self ..)
  rw [← e] at this
  exact six_q7 (hs6 _ (mem_srt.mp this))
theorem wo_fresh {A C : List Addr} {H H' : Hp} (e : Ex [] H H') (f : ∀ c ∈ C, H c = none) : Sub (wo A H) (wo (C ++ A) H') := fun a o z => by
  obtain ⟨n, z, t⟩ := wo_iff.mp z
  refine wo_of (fun q => ?_) (e.at z t) t
  rcases List.mem_append.1 q with q | q
  · rw [f a q] at z; cases z
  · exact n q
theorem Strm.exC {H H' : Hp} {S L : Addr} {C : List Addr} {n : Nat} (h : Strm H S L n) (e : Ex C H H') (nS : S ∉ C) (nL : L ∉ C) : Strm H' S L n := by
  obtain ⟨xs, a, m, c, h1, h2, h3, h4⟩ := h
  exact ⟨xs, a, m, c, h1, e.get nS h2, e.get nL h3, h4⟩
theorem Strm.not {H : Hp} {S L : Addr} {C : List Addr} {n : Nat} (h : Strm H S L n) (f : ∀ c ∈ C, H c = none) : S ∉ C ∧ L ∉ C := by
  obtain ⟨xs, a, m, c, h1, h2, h3, h4⟩ := h
  exact ⟨fun z => (by rw [f _ z] at h2; cases h2), fun z => (by rw [f _ z] at h3; cases h3)⟩
theorem init_ok {K : PySem.W.Frag} {A B : List Addr} {H1 : Hp} {x dx : Addr} {hv bv : V} {dh db : PyData} {Q : VK} {E : XK} {zs : Lot} {cs : List Lot} (dA : Dom A H1) (dB : Dom B H1) (hx : H1 x = none) (hdx : H1 dx = none) (hne : dx ≠ x) (rh : Rep (wo A H1) dh hv) (rb : Rep (wo A H1) db bv) (hT : LamX.Tabs Tbs.tabs H1)
    (hc : chk dh = .ok (srt zs)) (td : tinyD dh) (li : LotItems db cs) (hok : okHs zs) (nd : ∀ c ∈ cs, c.Nodup) (sub : ∀ c ∈ cs, ∀ z ∈ c, z ∈ zs) (h6 : zs.length ≤ 6) (l50 : cs.length ≤ 50)
    (kOk : ∀ H', Ex [] H1 H' → StopsAt K (wo B H') x (srt zs) (og cs) → Q .non H') : spInit K [.ref x, hv, bv] (upd (upd H1 dx (.own x)) x (.ins (cS K) dx [])) Q E := by
  obtain ⟨q1, q2, q3⟩ := li.of hok nd sub h6
  refine init_of dA dB hx hdx hne rh rb td ⟨by rw [li.2.1]; exact l50, q3⟩ hT (fun i hi => by rw [hc] at hi; cases hi) (fun hs' hc' hd => by rw [li.1] at hd; cases hd) (fun hs' i hc' hd hb => ?_) (fun hs' H7 hc' hd hb e67 hS7 => ?_)
  · obtain rfl : srt zs = hs' := by rw [hc] at hc'; injection hc'
    rw [q1] at hb; cases hb
  · obtain rfl : srt zs = hs' := by rw [hc] at hc'; injection hc'
    rw [q2] at hS7
    exact kOk H7 e67 hS7
theorem sized50_lls {cs : List Lot} (h : cs.length ≤ 50) (h2 : ∀ c ∈ cs, c.length ≤ 50) : sized50 2 (lls cs) := by
  refine ⟨by show (cs.map ls).length ≤ 50; rw [List.length_map]; exact h, fun x hx => ?_⟩
  obtain ⟨c, hc, rfl⟩ := List.mem_map.mp (show x ∈ cs.map ls from hx)
  refine ⟨by show (c.map PyData.str).length ≤ 50; rw [List.length_map]; exact h2 c hc, fun y hy => ?_⟩
  obtain ⟨z, _, rfl⟩ := List.mem_map.mp (show y ∈ c.map PyData.str from hy)
  rfl
theorem own_eq {K : PySem.W.Frag} {B : List Addr} {H : Hp} {x y : Addr} {hs hs2 : Lot} {gs gs2 : List Lot} {Q : VK} {neg : Bool} (h1 : StopsAt K (wo B H) x hs gs) (h2 : StopsAt K (wo B H) y hs2 gs2) (o1 : okLot hs) (o2 : ∀ g ∈ gs, okLot g) (o3 : okLot hs2) (o4 : ∀ g ∈ gs2, okLot g)
    (q : Q (.bl (if neg then !(decide (hs = hs2) && decide (gs = gs2)) else (decide (hs = hs2) && decide (gs = gs2)))) H) : rOwn (cS K) (spEqS K) C8.E0 neg (.ref x) (.ref y) H Q := by
  obtain ⟨d1, a1, a2, e1, _⟩ := id h1
  obtain ⟨d2, c1, c2, e2, _⟩ := id h2
  exact ⟨x, _, _, rfl, wo_at e1, .inl ⟨y, _, _, rfl, wo_at e2⟩, B, x, y, hs, gs, rfl, h1, o1, o2, .inl ⟨hs2, gs2, h2, o3, o4, _, rfl, q⟩⟩
theorem own_eqL {K : PySem.W.Frag} {B : List Addr} {H : Hp} {x y : Addr} {hs : Lot} {gs : List Lot} {ws : List V} {Q : VK} {neg : Bool} (h1 : StopsAt K (wo B H) x hs gs) (h2 : H y = some (.lst ws)) (o1 : okLot hs) (o2 : ∀ g ∈ gs, okLot g)
    (q : Q (.bl (if neg then !false else false)) H) : rOwn (cS K) (spEqS K) C8.E0 neg (.ref x) (.ref y) H Q := by
  obtain ⟨d1, a1, a2, e1, _⟩ := id h1
  exact ⟨x, _, _, rfl, wo_at e1, .inr ⟨y, _, rfl, h2⟩, B, x, y, hs, gs, rfl, h1, o1, o2, .inr ⟨ws, h2, _, rfl, q⟩⟩
theorem LotsOf.twice {hs : Lot} {bs : List Lot} (hL : LotsOf hs bs) (d : Nat) : (∀ c ∈ bs ++ bs.take d, c.Nodup) ∧ (∀ c ∈ bs ++ bs.take d, ∀ z ∈ c, z ∈ hs) ∧ (bs ++ bs.take d).length ≤ 20 := by
  have hm : ∀ c ∈ bs ++ bs.take d, c ∈ bs := fun c hc => (List.mem_append.mp hc).elim id List.mem_of_mem_take
  refine ⟨fun c hc => hL.nd c (hm c hc), fun c hc => hL.sub c (hm c hc), ?_⟩
  have := hL.len
  rw [List.length_append, List.length_take]
  omega
theorem sized_ls {zs : Lot} (h : zs.length ≤ 1000) : sized 1 (ls zs) := by
  refine ⟨by show (zs.map PyData.str).length ≤ 1000; rw [List.length_map]; exact h, fun y hy => ?_⟩
  obtain ⟨z, _, rfl⟩ := List.mem_map.mp (show y ∈ zs.map PyData.str from hy)
  rfl
theorem sized_lls {cs : List Lot} (h : cs.length ≤ 1000) (h2 : ∀ c ∈ cs, c.length ≤ 1000) : sized 2 (lls cs) := by
  refine ⟨by show (cs.map ls).length ≤ 1000; rw [List.length_map]; exact h, fun x hx => ?_⟩
  obtain ⟨c, hc, rfl⟩ := List.mem_map.mp (show x ∈ cs.map ls from hx)
  exact sized_ls (h2 c hc)
theorem reps_of {G : Hp} : ∀ {qs : List (Addr × Lot)}, (∀ b ∈ qs, G b.1 = some (.lst (b.2.map V.str))) → RepL G ((qs.map (·.2)).map ls) (qs.map fun b => V.ref b.1)
  | [], _ => .nil
  | q :: qs, h => .cons (Rep.ls.mpr ⟨q.1, rfl, h q (List.mem_cons_self ..)⟩) (reps_of fun b hb => h b (List.mem_cons_of_mem _ hb))
/-- what may be asked as a band -/
structure Thing (d : PyData) : Prop where
  few : (itemsD d).length ≤ 12
  flat : ∀ x ∈ itemsD d, x = .none ∨ ∃ z, x = .str z ∧ isNm z = true
theorem thing_ls {zs : Lot} (h : zs.length ≤ 12) (h2 : okHs zs) : Thing (ls zs) := by
  refine ⟨by show (zs.map PyData.str).length ≤ 12; rw [List.length_map]; exact h, fun x hx => ?_⟩
  obtain ⟨z, hz, rfl⟩ := List.mem_map.mp (show x ∈ zs.map PyData.str from hx)
  exact .inr ⟨z, rfl, h2 z hz⟩
theorem thing_no {d : PyData} (h : isL d = false) : Thing d := by
  have := items_nil h
  exact ⟨by rw [this]; exact Nat.zero_le _, fun x hx => by rw [this] at hx; cases hx⟩
/-- one in hands, as the law asks it -/
def inB (hs : Lot) : PyData → Bool
  | .str z => decide (z ∈ hs)
  | _ => false
theorem inV_non : ∀ {hs : Lot}, inV .non (hs.map V.str) = false
  | [] => rfl
  | h :: hs => by
    have ih := inV_non (hs := hs)
    unfold inV at ih ⊢
    rw [List.map_cons, List.any_cons, ih]
    rfl
theorem in_flat {G : Hp} {d : PyData} {v : V} {hs : Lot} (r : Rep G d v) (h : d = .none ∨ ∃ z, d = .str z ∧ isNm z = true) : flatV v = true ∧ inV v (hs.map V.str) = inB hs d := by
  rcases h with rfl | ⟨z, rfl, _⟩
  · obtain rfl : v = .non := r
    exact ⟨rfl, inV_non⟩
  · obtain rfl : v = .str z := r
    exact ⟨rfl, inV_strs⟩
theorem all_in {hs : Lot} : ∀ {ds : List PyData}, (ds.map (inB hs)).all id = true → ∃ zs : Lot, ds = zs.map .str ∧ ∀ z ∈ zs, z ∈ hs
  | [], _ => ⟨[], rfl, fun z h => by cases h⟩
  | d :: ds, h => by
    rw [List.map_cons, List.all_cons] at h
    obtain ⟨h1, h2⟩ := Bool.and_eq_true_iff.mp h
    obtain ⟨zs, e, hz⟩ := all_in h2
    cases d with
    | str z =>
      refine ⟨z :: zs, by rw [e]; rfl, fun y hy => ?_⟩
      rcases List.mem_cons.1 hy with q | hy
      · rw [q]; exact of_decide_eq_true h1
      · exact hz y hy
    | _ => cases h1
theorem band_noL {gs : List Lot} {d : PyData} {hs : Lot} (h : isL d = false) : bandB gs d hs = false := by
  unfold bandB
  rw [lotD_noL h]
  rfl
theorem band_notin {gs : List Lot} {d : PyData} {hs : Lot} (h : ((itemsD d).map (inB hs)).all id = false) : bandB gs d (srt hs) = false := by
  unfold bandB
  cases q : lotD d (srt hs) with
  | false => rfl
  | true =>
    exfalso
    obtain ⟨q1, q2, q3, q4⟩ := lotD_strs q
    rw [q2] at h
    have : ∀ zs : Lot, (∀ z ∈ zs, z ∈ hs) → ((zs.map PyData.str).map (inB hs)).all id = true := fun zs => by
      induction zs with
      | nil => intro _; rfl
      | cons z zs ih =>
        intro h
        rw [List.map_cons, List.map_cons, List.all_cons, ih fun y hy => h y (List.mem_cons_of_mem _ hy)]
        show (decide (z ∈ hs) && true) = true
        rw [decide_eq_true (h z (List.mem_cons_self ..))]
        rfl
    rw [this (strsOf d) fun z hz => mem_srt.mp (q4 z hz).2] at h
    cases h
theorem band_strs {gs : List Lot} {d : PyData} {hs zs : Lot} (h1 : isL d = true) (h2 : itemsD d = zs.map .str) (h3 : ∀ z ∈ zs, z ∈ hs) (hok : okHs hs) : bandB gs d (srt hs) = (decide zs.Nodup && (gs.map fun g => liesB zs g).any id) := by
  unfold bandB
  rw [strsOf_of h2]
  congr 1
  by_cases nd : zs.Nodup
  · rw [decide_eq_true nd]
    exact lotD_of h1 h2 nd fun y hy => ⟨hok y (h3 y hy), mem_srt.mpr (h3 y hy)⟩
  · rw [decide_eq_false nd]
    cases q : lotD d (srt hs) with
    | false => rfl
    | true =>
      obtain ⟨q1, q2, q3, q4⟩ := lotD_strs q
      rw [strsOf_of h2] at q3
      exact absurd q3 nd
theorem band_loose {gs : List Lot} {d d' : PyData} {hs : Lot} (h : looseD 2 d d') (t : Thing d) : bandB gs d' hs = bandB gs d hs ∧ tinyD d' := by
  have tiny : ∀ {e : PyData}, itemsD e = itemsD d → tinyD e := fun {e} q => by
    refine ⟨by rw [q]; exact Nat.le_trans t.few (by decide), fun y hy => ?_⟩
    rw [q] at hy
    rcases t.flat y hy with rfl | ⟨z, rfl, hz⟩
    · trivial
    · have := nm_len hz
      show z.length ≤ 1000
      omega
  rcases h with ⟨_, rfl⟩ | ⟨h0, h1, h2, h3⟩
  · exact ⟨rfl, tiny rfl⟩
  · have e : itemsD d' = itemsD d := by
      refine List.ext_getElem? fun i => ?_
      cases q : (itemsD d)[i]? with
      | none =>
        rw [List.getElem?_eq_none_iff] at q
        exact List.getElem?_eq_none_iff.2 (by omega)
      | some x =>
        have hlt := (List.getElem?_eq_some_iff.mp q).1
        have q2 : (itemsD d')[i]? = some (itemsD d')[i] := by simp [h2, hlt]
        rw [q2]
        have hx := h3 i _ _ q q2
        have nx : isL x = false := by
          rcases t.flat x (List.mem_of_getElem? q) with rfl | ⟨z, rfl, _⟩ <;> rfl
        rcases hx with ⟨_, e⟩ | ⟨hx, _⟩
        · rw [e]
        · rw [nx] at hx; cases hx
    refine ⟨?_, tiny e⟩
    unfold bandB lotD strsOf
    rw [e, h0, h1]
theorem thing_sized {d : PyData} (t : Thing d) : sized50 2 d := ⟨Nat.le_trans t.few (by decide), fun x hx => by
  rcases t.flat x hx with rfl | ⟨z, rfl, _⟩
  · exact ⟨Nat.zero_le _, fun y hy => by cases hy⟩
  · exact ⟨Nat.zero_le _, fun y hy => by cases hy⟩⟩
end K70
end
section
set_option maxHeartbeats 0
/-! The head: facts by names, the run. -/
namespace K70
open PySem PySem.Spec PyProof.Rows L2
variable [Tbs]
/-- o is an own exception class at C over ValueError -/
def excB (C : Addr) : Obj → Bool
  | ⟨.type "type", _, .cls ⟨_, _, .ref D :: over, _, _, true, _, _, _, _, false⟩, ⟨[_, _, _, _, some (.builtin n), _]⟩⟩ => D == C && (n == "ValueError.__new__" && PySem.HandSPX.refsVE over)
  | _ => false
theorem excB_ok {C : Addr} {o : Obj} (h : excB C o = true) : ∃ nm q N bs bm sn sub ab col dd k0 k1 k2 k3 k5, o = excClassObj nm q C N bs bm true sn sub ab col dd k0 k1 k2 k3 k5 "ValueError.__new__" ∧ PySem.HandSPX.refsVE bm = true := by
  unfold excB at h
  split at h
  · rw [Bool.and_eq_true, Bool.and_eq_true] at h
    obtain ⟨x, y, z⟩ := h
    rw [eq_of_beq x, eq_of_beq y]
    exact ⟨_, _, _, _, _, _, _, _, _, _, _, _, _, _, _, rfl, z⟩
  · exact absurd h Bool.false_ne_true
/-- what is asked of an own exception class, to be computed -/
def oexB (K : PySem.W.Frag) (C : Addr) : Bool := (K.lookup C).any (excB C) && decide (PySem.W.findIn K (.ref C) "__setattr__" = some (some (.builtin "object.__setattr__")) ∧ PySem.W.subIn K (.ref C) (.type "BaseException") = some true ∧ PySem.W.typeIn K (.ref C) = some (.type "type") ∧ PySem.W.keepIn K (.ref C) = true)
theorem oexB_ok {K : PySem.W.Frag} {C : Addr} (h : oexB K C = true) : OexC K C := by
  rw [oexB, Bool.and_eq_true, decide_eq_true_eq, Option.any_eq_true] at h
  obtain ⟨⟨o, at_, e⟩, h1, h2, h3, h4⟩ := h
  obtain ⟨nm, q, N, bs, bm, sn, sub, ab, col, dd, k0, k1, k2, k3, k5, rfl, v⟩ := excB_ok e
  exact ⟨⟨nm, q, N, bs, bm, sn, sub, ab, col, dd, k0, k1, k2, k3, k5, at_, v⟩, h1, h2, h3, h4⟩
def dd_BadBandXinit : He.DefD := ⟨("BadBand", some "__init__"), "__init__", "BadBand.__init__", defArgs s_BadBandXinit, defBody s_BadBandXinit, defScope s_BadBandXinit, [], []⟩
def dd_BadHandsXinit : He.DefD := ⟨("BadHands", some "__init__"), "__init__", "BadHands.__init__", defArgs s_BadHandsXinit, defBody s_BadHandsXinit, defScope s_BadHandsXinit, [], []⟩
def dd_BadNumberXinit : He.DefD := ⟨("BadNumber", some "__init__"), "__init__", "BadNumber.__init__", defArgs s_BadNumberXinit, defBody s_BadNumberXinit, defScope s_BadNumberXinit, [], []⟩
def dd_NoHandXinit : He.DefD := ⟨("NoHand", some "__init__"), "__init__", "NoHand.__init__", defArgs s_NoHandXinit, defBody s_NoHandXinit, defScope s_NoHandXinit, [], []⟩
def dd_isXlist : He.DefD := ⟨("is_list", none), "is_list", "is_list", defArgs s_isXlist, defBody s_isXlist, defScope s_isXlist, [], []⟩
def dd_isXinteger : He.DefD := ⟨("is_integer", none), "is_integer", "is_integer", defArgs s_isXinteger, defBody s_isXinteger, defScope s_isXinteger, [], []⟩
def dd_isXname : He.DefD := ⟨("is_name", none), "is_name", "is_name", defArgs s_isXname, defBody s_isXname, defScope s_isXname, [], []⟩
def dd_checkedXhands : He.DefD := ⟨("checked_hands", none), "checked_hands", "checked_hands", defArgs s_checkedXhands, defBody s_checkedXhands, defScope s_checkedXhands, [], []⟩
def dd_isXhandXof : He.DefD := ⟨("is_hand_of", none), "is_hand_of", "is_hand_of", defArgs s_isXhandXof, defBody s_isXhandXof, defScope s_isXhandXof, [], []⟩
def dd_isXlot : He.DefD := ⟨("is_lot", none), "is_lot", "is_lot", defArgs s_isXlot, defBody s_isXlot, defScope s_isXlot, [], []⟩
def dd_liesXin : He.DefD := ⟨("lies_in", none), "lies_in", "lies_in", defArgs s_liesXin, defBody s_liesXin, defScope s_liesXin, [], []⟩
def dd_greatestXof : He.DefD := ⟨("greatest_of", none), "greatest_of", "greatest_of", defArgs s_greatestXof, defBody s_greatestXof, defScope s_greatestXof, [], []⟩
def dd_StopsXinit : He.DefD := ⟨("Stops", some "__init__"), "__init__", "Stops.__init__", defArgs s_StopsXinit, defBody s_StopsXinit, defScope s_StopsXinit, [], []⟩
def dd_StopsXhands : He.DefD := ⟨("Stops", some "hands"), "hands", "Stops.hands", defArgs s_StopsXhands, defBody s_StopsXhands, defScope s_StopsXhands, [], []⟩
def dd_StopsXbands : He.DefD := ⟨("Stops", some "bands"), "bands", "Stops.bands", defArgs s_StopsXbands, defBody s_StopsXbands, defScope s_StopsXbands, [], []⟩
def dd_StopsXisXband : He.DefD := ⟨("Stops", some "is_band"), "is_band", "Stops.is_band", defArgs s_StopsXisXband, defBody s_StopsXisXband, defScope s_StopsXisXband, [], []⟩
def dd_StopsXeq : He.DefD := ⟨("Stops", some "__eq__"), "__eq__", "Stops.__eq__", defArgs s_StopsXeq, defBody s_StopsXeq, defScope s_StopsXeq, [], []⟩
def dd_holdXall : He.DefD := ⟨("hold_all", none), "hold_all", "hold_all", defArgs s_holdXall, defBody s_holdXall, defScope s_holdXall, [], []⟩
def dd_twoXbands : He.DefD := ⟨("two_bands", none), "two_bands", "two_bands", defArgs s_twoXbands, defBody s_twoXbands, defScope s_twoXbands, [], []⟩
def dd_freeXhands : He.DefD := ⟨("free_hands", none), "free_hands", "free_hands", defArgs s_freeXhands, defBody s_freeXhands, defScope s_freeXhands, [], []⟩
def dd_checkXphases : He.DefD := ⟨("check_phases", none), "check_phases", "check_phases", defArgs s_checkXphases, defBody s_checkXphases, defScope s_checkXphases, [], []⟩
def dd_canXstore : He.DefD := ⟨("can_store", none), "can_store", "can_store", defArgs s_canXstore, defBody s_canXstore, defScope s_canXstore, [], []⟩
def dd_checkXpair : He.DefD := ⟨("check_pair", none), "check_pair", "check_pair", defArgs s_checkXpair, defBody s_checkXpair, defScope s_checkXpair, [], []⟩
def dd_halves : He.DefD := ⟨("halves", none), "halves", "halves", defArgs s_halves, defBody s_halves, defScope s_halves, [], []⟩
def dd_qXliesXin : He.DefD := ⟨("_law_o_lies_in", none), "_law_o_lies_in", "_law_o_lies_in", defArgs s_qXliesXin, defBody s_qXliesXin, defScope s_qXliesXin, [], []⟩
def dd_qXjoined : He.DefD := ⟨("_law_o_joined", none), "_law_o_joined", "_law_o_joined", defArgs s_qXjoined, defBody s_qXjoined, defScope s_qXjoined, [], []⟩
def dd_qXlists : He.DefD := ⟨("_law_o_lists", none), "_law_o_lists", "_law_o_lists", defArgs s_qXlists, defBody s_qXlists, defScope s_qXlists, [], []⟩
def dd_qXgreatest : He.DefD := ⟨("_law_o_greatest", none), "_law_o_greatest", "_law_o_greatest", defArgs s_qXgreatest, defBody s_qXgreatest, defScope s_qXgreatest, [], []⟩
def dd_qXquorums : He.DefD := ⟨("_law_o_quorums", none), "_law_o_quorums", "_law_o_quorums", defArgs s_qXquorums, defBody s_qXquorums, defScope s_qXquorums, [], []⟩
def dd_wXstart : He.DefD := ⟨("_law_start", none), "_law_start", "_law_start", defArgs s_wXstart, defBody s_wXstart, defScope s_wXstart, [], []⟩
def dd_wXdraw : He.DefD := ⟨("_law_draw", none), "_law_draw", "_law_draw", defArgs s_wXdraw, defBody s_wXdraw, defScope s_wXdraw, [], []⟩
def dd_wXpick : He.DefD := ⟨("_law_pick", none), "_law_pick", "_law_pick", defArgs s_wXpick, defBody s_wXpick, defScope s_wXpick, [], []⟩
def dd_wXmixed : He.DefD := ⟨("_law_mixed", none), "_law_mixed", "_law_mixed", defArgs s_wXmixed, defBody s_wXmixed, defScope s_wXmixed, [], []⟩
def dd_wXsame : He.DefD := ⟨("_law_same", none), "_law_same", "_law_same", defArgs s_wXsame, defBody s_wXsame, defScope s_wXsame, [], []⟩
def dd_wXeachXonce : He.DefD := ⟨("_law_each_once", none), "_law_each_once", "_law_each_once", defArgs s_wXeachXonce, defBody s_wXeachXonce, defScope s_wXeachXonce, [], []⟩
def dd_wXhands : He.DefD := ⟨("_law_hands", none), "_law_hands", "_law_hands", defArgs s_wXhands, defBody s_wXhands, defScope s_wXhands, [], []⟩
def dd_wXloose : He.DefD := ⟨("_law_loose", none), "_law_loose", "_law_loose", defArgs s_wXloose, defBody s_wXloose, defScope s_wXloose, [], []⟩
def dd_wXmet : He.DefD := ⟨("_law_met", none), "_law_met", "_law_met", defArgs s_wXmet, defBody s_wXmet, defScope s_wXmet, [], []⟩
def dd_wXdoXmeet : He.DefD := ⟨("_law_do_meet", none), "_law_do_meet", "_law_do_meet", defArgs s_wXdoXmeet, defBody s_wXdoXmeet, defScope s_wXdoXmeet, [], []⟩
def dd_wXfirstXpair : He.DefD := ⟨("_law_first_pair", none), "_law_first_pair", "_law_first_pair", defArgs s_wXfirstXpair, defBody s_wXfirstXpair, defScope s_wXfirstXpair, [], []⟩
def dd_wXpairsXright : He.DefD := ⟨("_law_pairs_right", none), "_law_pairs_right", "_law_pairs_right", defArgs s_wXpairsXright, defBody s_wXpairsXright, defScope s_wXpairsXright, [], []⟩
def dd_wXrefusedXright : He.DefD := ⟨("_law_refused_right", none), "_law_refused_right", "_law_refused_right", defArgs s_wXrefusedXright, defBody s_wXrefusedXright, defScope s_wXrefusedXright, [], []⟩
def dd_law : He.DefD := ⟨("law", none), "law", "law", defArgs s_law, defBody s_law, defScope s_law, [], []⟩
def fnsA : List He.DefD := [dd_BadBandXinit, dd_BadHandsXinit, dd_BadNumberXinit, dd_NoHandXinit, dd_isXlist, dd_isXinteger, dd_isXname, dd_checkedXhands, dd_isXhandXof, dd_isXlot, dd_liesXin, dd_greatestXof, dd_StopsXinit, dd_StopsXhands, dd_StopsXbands, dd_StopsXisXband, dd_StopsXeq, dd_holdXall, dd_twoXbands, dd_freeXhands, dd_checkXphases, dd_canXstore]
def fnsB : List He.DefD := [dd_checkXpair, dd_halves, dd_qXliesXin, dd_qXjoined, dd_qXlists, dd_qXgreatest, dd_qXquorums, dd_wXstart, dd_wXdraw, dd_wXpick, dd_wXmixed, dd_wXsame, dd_wXeachXonce, dd_wXhands, dd_wXloose, dd_wXmet, dd_wXdoXmeet, dd_wXfirstXpair, dd_wXpairsXright, dd_wXrefusedXright, dd_law]
def fns : List He.DefD := fnsA ++ fnsB
def fas0 : List He.Fa := [.glo "is_list", .glo "is_integer", .glo "is_name", .glo "checked_hands", .glo "is_hand_of", .glo "is_lot", .glo "lies_in", .glo "greatest_of", .glo "hold_all", .glo "two_bands", .glo "free_hands", .glo "check_phases", .glo "can_store", .glo "check_pair", .glo "halves", .glo "_law_o_lies_in", .glo "_law_o_joined", .glo "_law_o_lists", .glo "_law_o_greatest", .glo "_law_o_quorums", .glo "_law_start", .glo "_law_draw", .glo "_law_pick", .glo "_law_mixed", .glo "_law_same", .glo "_law_each_once", .glo "_law_hands", .glo "_law_loose", .glo "_law_met", .glo "_law_do_meet"]
def fas1 : List He.Fa := [.glo "_law_first_pair", .glo "_law_pairs_right", .glo "_law_refused_right", .glo "law", .glo "Stops", .glo "BadHands", .glo "BadBand", .glo "NoHand", .glo "BadNumber", .free "len", .free "all", .free "any", .free "isinstance", .free "sorted", .free "range", .free "enumerate", .free "zip", .free "list", .free "tuple", .free "int", .free "dict", .free "str", .free "bool", .str "SMALL" SMZ, .str "FIGURES" FGZ, .cls "Stops", .noat "Stops" "own_hands", .noat "Stops" "own_bands", .mkr "Stops", .meth "Stops" "hands"]
def fas2 : List He.Fa := [.meth "Stops" "bands", .meth "Stops" "is_band", .meth "Stops" "__eq__", .exm "BadHands" "BadHands" true, .exm "BadHands" "BadBand" false, .exm "BadHands" "NoHand" false, .exm "BadHands" "BadNumber" false, .exm "BadBand" "BadHands" false, .exm "BadBand" "BadBand" true, .exm "BadBand" "NoHand" false, .exm "BadBand" "BadNumber" false, .exm "NoHand" "BadHands" false, .exm "NoHand" "BadBand" false, .exm "NoHand" "NoHand" true, .exm "NoHand" "BadNumber" false, .exm "BadNumber" "BadHands" false, .exm "BadNumber" "BadBand" false, .exm "BadNumber" "NoHand" false, .exm "BadNumber" "BadNumber" true]
def fas : List He.Fa := fas0 ++ (fas1 ++ (fas2))
def exsL (K : PySem.W.Frag) : List Bool := [decide (PySem.W.findIn K (.ref (cS K)) "__class__" = some (some (.builtin "object.__class__"))),
  decide (PySem.W.specialIn K (.builtin "object.__class__") "__get__" = some (some (.builtin "getset_descriptor.__get__"))),
  decide (PySem.W.takesIn K (.builtin "object.__class__") = some true),
  decide (PySem.W.mroIn K (cS K) (.type "object") = some true),
  decide (PySem.W.findIn K (.ref (cS K)) "__eq__" = some (some (.ref (aS K "__eq__")))),
  PySem.W.isFn K (.ref (aS K "__eq__")),
  decide (PySem.W.subIn K (.type "list") (.ref (cS K)) = some false),
  decide (PySem.W.findIn K (.ref (cS K)) "__ne__" = some (some (.builtin "object.__ne__"))),
  decide (PySem.W.kitOne K (.ref (cS K)) (.ref (cS K)) = some true),
  decide (PySem.W.kitOne K (.type "list") (.ref (cS K)) = some false),
  decide ((He.cT K ("greatest_of", none)).2 ≠ (He.cT K ("_law_refused_right", none)).2),
  oexB K (He.ga K "BadHands"),
  decide (PySem.W.findIn K (.ref (He.ga K "BadHands")) "__init__" = some (some (.ref (aI K "BadHands")))),
  decide (PySem.W.typeIn K (.ref (aI K "BadHands")) = some (.type "function")),
  xfB K (He.ga K "BadHands"),
  decide (PySem.W.findIn K (.ref (He.ga K "BadHands")) "index" = some none),
  oexB K (He.ga K "BadBand"),
  decide (PySem.W.findIn K (.ref (He.ga K "BadBand")) "__init__" = some (some (.ref (aI K "BadBand")))),
  decide (PySem.W.typeIn K (.ref (aI K "BadBand")) = some (.type "function")),
  xfB K (He.ga K "BadBand"),
  decide (PySem.W.findIn K (.ref (He.ga K "BadBand")) "index" = some none),
  oexB K (He.ga K "NoHand"),
  decide (PySem.W.findIn K (.ref (He.ga K "NoHand")) "__init__" = some (some (.ref (aI K "NoHand")))),
  decide (PySem.W.typeIn K (.ref (aI K "NoHand")) = some (.type "function")),
  xfB K (He.ga K "NoHand"),
  decide (PySem.W.findIn K (.ref (He.ga K "NoHand")) "thing" = some none),
  oexB K (He.ga K "BadNumber"),
  decide (PySem.W.findIn K (.ref (He.ga K "BadNumber")) "__init__" = some (some (.ref (aI K "BadNumber")))),
  decide (PySem.W.typeIn K (.ref (aI K "BadNumber")) = some (.type "function")),
  xfB K (He.ga K "BadNumber"),
  decide (PySem.W.findIn K (.ref (He.ga K "BadNumber")) "thing" = some none)]
def exsB (K : PySem.W.Frag) : Bool := (exsL K).all id
theorem exs_at {K : PySem.W.Frag} (h : exsB K = true) (i : Nat) {b : Bool} (e : (exsL K)[i]? = some b) : b = true := List.all_eq_true.mp h b (List.mem_of_getElem? e)
def tfs : List He.Defn := [("greatest_of", none), ("_law_refused_right", none)]
abbrev R0 : PySem.W.OpenRow := PySem.W.OpenLaw.row PySem.Challenge.rw_breakplans_k70_whole_who_may_stop
abbrev hk0 : PySem.W.Hook := He.hookX 8 fas fns [] tfs exsB
def ob0 (s : PySem.W.SharedT) : He.AlX := He.obsX 8 fas fns [] tfs exsB (HandSHeadRun.getT s)
theorem ob0_eq (s : PySem.W.SharedT) : ob0 s = hk0.obs s.abs := He.obsX_eq (HandSHeadRun.getT_eq s)
def looseA : List Str := ["PlanError", "BadBand", "BadHands", "BadNumber", "NoHand", "SMALL", "FIGURES", "is_list", "is_integer", "is_name", "checked_hands", "is_hand_of", "is_lot", "lies_in", "greatest_of", "Stops", "hold_all", "two_bands", "free_hands", "check_phases"]
def looseB : List Str := ["can_store", "check_pair", "halves", "_law_o_lies_in", "_law_o_joined", "_law_o_lists", "_law_o_greatest", "_law_o_quorums", "_law_start", "_law_draw", "_law_pick", "_law_mixed", "_law_same", "_law_each_once", "_law_hands", "_law_loose", "_law_met", "_law_do_meet", "_law_first_pair", "_law_pairs_right", "_law_refused_right"]
def loose0 : List Str := looseA ++ looseB
theorem run0 (w : World) : HandSHeadRun.RunEq R0 (PySem.W.view R0.prog [45]) hk0 ob0 20000 loose0 w := by
  intro os
  kernel_rfl
theorem top_of {w : World} {K : PySem.W.Frag} {h : Heap} {mg : Str → Option Value} {base : Heap} (X : K.In h) (G : h.Ns mainGlobals mg) (c : He.SaysX fas fns [] tfs exsB w h K) (tt : Tbs.tabs = [((He.cT K ("greatest_of", none)).2, (("greatest_of" : Str) ++ ".<locals>.") ++ "<lambda>"), ((He.cT K ("_law_refused_right", none)).2, (("_law_refused_right" : Str) ++ ".<locals>.") ++ "<lambda>")]) (tb1 : LamX.TabB base mg (He.cT K ("greatest_of", none)).1 (He.cT K ("greatest_of", none)).2) (tb2 : LamX.TabB base mg (He.cT K ("_law_refused_right", none)).1 (He.cT K ("_law_refused_right", none)).2) : Top K mg base := by
  have F : ∀ (i : Nat) (f : He.Fa), fas[i]? = some f → f.ok K = true := fun i f e => c.t.d.fact i e
  have D : ∀ (i : Nat) (d : He.DefD), fns[i]? = some d → ∃ fd, FunD K d.name d.qual d.params d.body d.scope (d.dvs K) (d.kws K) (He.fAd K d.at_) fd := fun i d e => c.t.d.def_ i e
  have E : ∀ (i : Nat) (b : Bool), (exsL K)[i]? = some b → b = true := fun i b e => exs_at c.more i e
  have mk : ∀ {x qual : Str} {st : Stmt} {f : Addr} {fd : FuncData}, FunD K x qual (defArgs st) (defBody st) (defScope st) [] [] f fd → FnT K x qual st f := fun {x qual st f fd} q => by have e := K70.FunD.fd q; subst e; exact q
  exact {
    n_len := He.free_ok X G (F 39 _ rfl)
    n_all := He.free_ok X G (F 40 _ rfl)
    n_any := He.free_ok X G (F 41 _ rfl)
    n_isinstance := He.free_ok X G (F 42 _ rfl)
    n_sorted := He.free_ok X G (F 43 _ rfl)
    n_range := He.free_ok X G (F 44 _ rfl)
    n_enumerate := He.free_ok X G (F 45 _ rfl)
    n_zip := He.free_ok X G (F 46 _ rfl)
    n_list := He.free_ok X G (F 47 _ rfl)
    n_tuple := He.free_ok X G (F 48 _ rfl)
    n_int := He.free_ok X G (F 49 _ rfl)
    n_dict := He.free_ok X G (F 50 _ rfl)
    n_str := He.free_ok X G (F 51 _ rfl)
    n_bool := He.free_ok X G (F 52 _ rfl)
    g_SMALL := He.str_ok X G (F 53 _ rfl)
    g_FIGURES := He.str_ok X G (F 54 _ rfl)
    d_BadBandXinit := (D 0 _ rfl).elim fun _ q => mk q
    d_BadHandsXinit := (D 1 _ rfl).elim fun _ q => mk q
    d_BadNumberXinit := (D 2 _ rfl).elim fun _ q => mk q
    d_NoHandXinit := (D 3 _ rfl).elim fun _ q => mk q
    g_isXlist := He.glo_ok X G (F 0 _ rfl)
    d_isXlist := (D 4 _ rfl).elim fun _ q => mk q
    g_isXinteger := He.glo_ok X G (F 1 _ rfl)
    d_isXinteger := (D 5 _ rfl).elim fun _ q => mk q
    g_isXname := He.glo_ok X G (F 2 _ rfl)
    d_isXname := (D 6 _ rfl).elim fun _ q => mk q
    g_checkedXhands := He.glo_ok X G (F 3 _ rfl)
    d_checkedXhands := (D 7 _ rfl).elim fun _ q => mk q
    g_isXhandXof := He.glo_ok X G (F 4 _ rfl)
    d_isXhandXof := (D 8 _ rfl).elim fun _ q => mk q
    g_isXlot := He.glo_ok X G (F 5 _ rfl)
    d_isXlot := (D 9 _ rfl).elim fun _ q => mk q
    g_liesXin := He.glo_ok X G (F 6 _ rfl)
    d_liesXin := (D 10 _ rfl).elim fun _ q => mk q
    g_greatestXof := He.glo_ok X G (F 7 _ rfl)
    d_greatestXof := (D 11 _ rfl).elim fun _ q => mk q
    d_StopsXinit := (D 12 _ rfl).elim fun _ q => mk q
    d_StopsXhands := (D 13 _ rfl).elim fun _ q => mk q
    m_StopsXhands := He.meth_ok (F 59 _ rfl)
    d_StopsXbands := (D 14 _ rfl).elim fun _ q => mk q
    m_StopsXbands := He.meth_ok (F 60 _ rfl)
    d_StopsXisXband := (D 15 _ rfl).elim fun _ q => mk q
    m_StopsXisXband := He.meth_ok (F 61 _ rfl)
    d_StopsXeq := (D 16 _ rfl).elim fun _ q => mk q
    m_StopsXeq := He.meth_ok (F 62 _ rfl)
    g_holdXall := He.glo_ok X G (F 8 _ rfl)
    d_holdXall := (D 17 _ rfl).elim fun _ q => mk q
    g_twoXbands := He.glo_ok X G (F 9 _ rfl)
    d_twoXbands := (D 18 _ rfl).elim fun _ q => mk q
    g_freeXhands := He.glo_ok X G (F 10 _ rfl)
    d_freeXhands := (D 19 _ rfl).elim fun _ q => mk q
    g_checkXphases := He.glo_ok X G (F 11 _ rfl)
    d_checkXphases := (D 20 _ rfl).elim fun _ q => mk q
    g_canXstore := He.glo_ok X G (F 12 _ rfl)
    d_canXstore := (D 21 _ rfl).elim fun _ q => mk q
    g_checkXpair := He.glo_ok X G (F 13 _ rfl)
    d_checkXpair := (D 22 _ rfl).elim fun _ q => mk q
    g_halves := He.glo_ok X G (F 14 _ rfl)
    d_halves := (D 23 _ rfl).elim fun _ q => mk q
    g_qXliesXin := He.glo_ok X G (F 15 _ rfl)
    d_qXliesXin := (D 24 _ rfl).elim fun _ q => mk q
    g_qXjoined := He.glo_ok X G (F 16 _ rfl)
    d_qXjoined := (D 25 _ rfl).elim fun _ q => mk q
    g_qXlists := He.glo_ok X G (F 17 _ rfl)
    d_qXlists := (D 26 _ rfl).elim fun _ q => mk q
    g_qXgreatest := He.glo_ok X G (F 18 _ rfl)
    d_qXgreatest := (D 27 _ rfl).elim fun _ q => mk q
    g_qXquorums := He.glo_ok X G (F 19 _ rfl)
    d_qXquorums := (D 28 _ rfl).elim fun _ q => mk q
    g_wXstart := He.glo_ok X G (F 20 _ rfl)
    d_wXstart := (D 29 _ rfl).elim fun _ q => mk q
    g_wXdraw := He.glo_ok X G (F 21 _ rfl)
    d_wXdraw := (D 30 _ rfl).elim fun _ q => mk q
    g_wXpick := He.glo_ok X G (F 22 _ rfl)
    d_wXpick := (D 31 _ rfl).elim fun _ q => mk q
    g_wXmixed := He.glo_ok X G (F 23 _ rfl)
    d_wXmixed := (D 32 _ rfl).elim fun _ q => mk q
    g_wXsame := He.glo_ok X G (F 24 _ rfl)
    d_wXsame := (D 33 _ rfl).elim fun _ q => mk q
    g_wXeachXonce := He.glo_ok X G (F 25 _ rfl)
    d_wXeachXonce := (D 34 _ rfl).elim fun _ q => mk q
    g_wXhands := He.glo_ok X G (F 26 _ rfl)
    d_wXhands := (D 35 _ rfl).elim fun _ q => mk q
    g_wXloose := He.glo_ok X G (F 27 _ rfl)
    d_wXloose := (D 36 _ rfl).elim fun _ q => mk q
    g_wXmet := He.glo_ok X G (F 28 _ rfl)
    d_wXmet := (D 37 _ rfl).elim fun _ q => mk q
    g_wXdoXmeet := He.glo_ok X G (F 29 _ rfl)
    d_wXdoXmeet := (D 38 _ rfl).elim fun _ q => mk q
    g_wXfirstXpair := He.glo_ok X G (F 30 _ rfl)
    d_wXfirstXpair := (D 39 _ rfl).elim fun _ q => mk q
    g_wXpairsXright := He.glo_ok X G (F 31 _ rfl)
    d_wXpairsXright := (D 40 _ rfl).elim fun _ q => mk q
    g_wXrefusedXright := He.glo_ok X G (F 32 _ rfl)
    d_wXrefusedXright := (D 41 _ rfl).elim fun _ q => mk q
    g_law := He.glo_ok X G (F 33 _ rfl)
    d_law := (D 42 _ rfl).elim fun _ q => mk q
    g_Stops := He.glo_ok X G (F 34 _ rfl)
    c_Stops := He.cls_ok (F 55 _ rfl)
    mk_Stops := He.mkr_ok (F 58 _ rfl)
    na_hands := He.noat_ok (F 56 _ rfl)
    na_bands := He.noat_ok (F 57 _ rfl)
    ic_class := of_decide_eq_true (E 0 _ rfl)
    ic_get := of_decide_eq_true (E 1 _ rfl)
    ic_take := of_decide_eq_true (E 2 _ rfl)
    ic_mro := of_decide_eq_true (E 3 _ rfl)
    eq_f := of_decide_eq_true (E 4 _ rfl)
    eq_fn := E 5 _ rfl
    sub_l := of_decide_eq_true (E 6 _ rfl)
    ne_f := of_decide_eq_true (E 7 _ rfl)
    is_yes := of_decide_eq_true (E 8 _ rfl)
    is_no := of_decide_eq_true (E 9 _ rfl)
    g_BadHands := He.glo_ok X G (F 35 _ rfl)
    x_BadHands := oexB_ok (E 11 _ rfl)
    i_BadHands := of_decide_eq_true (E 12 _ rfl)
    t_BadHands := of_decide_eq_true (E 13 _ rfl)
    f_BadHands := xfB_ok (E 14 _ rfl)
    no_BadHands := of_decide_eq_true (E 15 _ rfl)
    g_BadBand := He.glo_ok X G (F 36 _ rfl)
    x_BadBand := oexB_ok (E 16 _ rfl)
    i_BadBand := of_decide_eq_true (E 17 _ rfl)
    t_BadBand := of_decide_eq_true (E 18 _ rfl)
    f_BadBand := xfB_ok (E 19 _ rfl)
    no_BadBand := of_decide_eq_true (E 20 _ rfl)
    g_NoHand := He.glo_ok X G (F 37 _ rfl)
    x_NoHand := oexB_ok (E 21 _ rfl)
    i_NoHand := of_decide_eq_true (E 22 _ rfl)
    t_NoHand := of_decide_eq_true (E 23 _ rfl)
    f_NoHand := xfB_ok (E 24 _ rfl)
    no_NoHand := of_decide_eq_true (E 25 _ rfl)
    g_BadNumber := He.glo_ok X G (F 38 _ rfl)
    x_BadNumber := oexB_ok (E 26 _ rfl)
    i_BadNumber := of_decide_eq_true (E 27 _ rfl)
    t_BadNumber := of_decide_eq_true (E 28 _ rfl)
    f_BadNumber := xfB_ok (E 29 _ rfl)
    no_BadNumber := of_decide_eq_true (E 30 _ rfl)
    e_BadHands_BadHands := He.exm_ok (F 63 _ rfl)
    e_BadHands_BadBand := He.exm_ok (F 64 _ rfl)
    e_BadHands_NoHand := He.exm_ok (F 65 _ rfl)
    e_BadHands_BadNumber := He.exm_ok (F 66 _ rfl)
    e_BadBand_BadHands := He.exm_ok (F 67 _ rfl)
    e_BadBand_BadBand := He.exm_ok (F 68 _ rfl)
    e_BadBand_NoHand := He.exm_ok (F 69 _ rfl)
    e_BadBand_BadNumber := He.exm_ok (F 70 _ rfl)
    e_NoHand_BadHands := He.exm_ok (F 71 _ rfl)
    e_NoHand_BadBand := He.exm_ok (F 72 _ rfl)
    e_NoHand_NoHand := He.exm_ok (F 73 _ rfl)
    e_NoHand_BadNumber := He.exm_ok (F 74 _ rfl)
    e_BadNumber_BadHands := He.exm_ok (F 75 _ rfl)
    e_BadNumber_BadBand := He.exm_ok (F 76 _ rfl)
    e_BadNumber_NoHand := He.exm_ok (F 77 _ rfl)
    e_BadNumber_BadNumber := He.exm_ok (F 78 _ rfl)
    tt := tt
    t12 := of_decide_eq_true (E 10 _ rfl)
    tb1 := tb1
    tb2 := tb2 }
end K70
end
section
set_option maxHeartbeats 4000000
/-! The law. -/
namespace K70
open PySem PySem.Spec PyProof.Rows L2
variable [Tbs]
section
variable {P : Program} {w : World} {K : PySem.W.Frag} {mg : Str → Option Value} {base : Heap}
def spLaw (K : PySem.W.Frag) : Sp := fun vs H Q _ => ∃ (a : Addr) (xs : List Int), vs = [.ref a] ∧ SqL K H a (xs.map V.int) ∧ LamX.Tabs Tbs.tabs H ∧ ∀ H', Q (.bl true) H'
theorem ok_law (T : Top K mg base) : FnOk P w K mg base CX0 14 (He.ga K "law") (fdOf K (He.ga K "law")) ["_law_script"] (spLaw K) := by
  have G_wXstart := ok_wXstart (P := P) (w := w) T
  have b_wXstart := bd_wXstart T
  have G_wXhands := ok_wXhands (P := P) (w := w) T
  have b_wXhands := bd_wXhands T
  have G_qXlists := ok_qXlists (P := P) (w := w) T
  have b_qXlists := bd_qXlists T
  have G_StopsXbands := ok_StopsXbands (P := P) (w := w) T
  have b_StopsXbands := bd_StopsXbands T
  have G_StopsXinit := ok_StopsXinit (P := P) (w := w) T
  have b_StopsXinit := bd_StopsXinit T
  have G_qXgreatest := ok_qXgreatest (P := P) (w := w) T
  have b_qXgreatest := bd_qXgreatest T
  have G_wXsame := ok_same (P := P) (w := w) T 5
  have b_wXsame := bd_wXsame T
  have G_wXdraw := ok_wXdraw (P := P) (w := w) T
  have b_wXdraw := bd_wXdraw T
  have G_wXloose := ok_loose (P := P) (w := w) T 2
  have b_wXloose := bd_wXloose T
  have G_StopsXhands := ok_StopsXhands (P := P) (w := w) T
  have b_StopsXhands := bd_StopsXhands T
  have G_wXmixed := ok_wXmixed (P := P) (w := w) T
  have b_wXmixed := bd_wXmixed T
  have G_wXpairsXright := ok_wXpairsXright (P := P) (w := w) T
  have b_wXpairsXright := bd_wXpairsXright T
  have G_wXrefusedXright := ok_wXrefusedXright (P := P) (w := w) T
  have b_wXrefusedXright := bd_wXrefusedXright T
  have G_wXeachXonce := ok_wXeachXonce (P := P) (w := w) T
  have b_wXeachXonce := bd_wXeachXonce T
  have G_qXliesXin := ok_qXliesXin (P := P) (w := w) T
  have b_qXliesXin := bd_qXliesXin T
  have G_StopsXisXband := ok_StopsXisXband (P := P) (w := w) T
  have b_StopsXisXband := bd_StopsXisXband T
  have G_StopsXeq := ok_StopsXeq (P := P) (w := w) T
  have b_StopsXeq := bd_StopsXeq T
  refine T.d_law.ok sc_law (fun vs H Q E h => ?len) (fun cdv A outer s H vs Q E hr h => ⟨_, PSs.nox (pss_cons (ps_set (i := 1) sc_law.nd rfl (Or.inr rfl) (pe_call G_wXstart (hr.mono (by decide)) rfl T.g_wXstart T.d_wXstart.kp b_wXstart .nil pass0 (pa_cons (pv 0) pa_nil)))
    (pss_cons (ps_for PassesOwn.never rfl (pi_range1 rfl T.n_range (pa_cons pe_int pa_nil)) (pg_name (i := 2) sc_law.nd rfl (Or.inl rfl)) (pss_cons (ps_set (i := 3) sc_law.nd rfl (Or.inr rfl) (pe_call G_wXhands (hr.mono (by decide)) rfl T.g_wXhands T.d_wXhands.kp b_wXhands .nil pass0 (pa_cons (pv 1) (pa_cons (pe_op op_add pe_int (pe_call G_wXdraw (hr.mono (by decide)) rfl T.g_wXdraw T.d_wXdraw.kp b_wXdraw .nil pass0 (pa_cons (pv 1) (pa_cons pe_int pa_nil)))) pa_nil))))
    (pss_cons (ps_set (i := 4) sc_law.nd rfl (Or.inl rfl) (pe_call G_qXlists (hr.mono (by decide)) rfl T.g_qXlists T.d_qXlists.kp b_qXlists .nil pass0 (pa_cons (pv 1) (pa_cons (pv 3) pa_nil))))
    (pss_cons (ps_par (i := 6) (j := 7) (by rfl) sc_law.nd rfl rfl (by decide) rfl rfl (pa_cons (pe_lc (own := [("_law_band", 5)]) (g := gName 5) (tt := _) rfl sc_law.nd (pi_seqA (pv 4)) (blkOk_by (by kernel_rfl)) (fun _ _ _ _ _ => (pg_name (i := 5) sc_law.nd rfl (Or.inl rfl))) (fun _ _ _ _ _ => pts_nil) (fun _ _ _ _ _ => (pe_callTy call_listS (by rfl) T.n_list (by decide +kernel) (pa_cons (pv 5) pa_nil)))) (pa_cons (pe_callTy call_listS (by rfl) T.n_list (by decide +kernel) (pa_cons (pv 3) pa_nil)) pa_nil)) (by rfl))
    (pss_cons (ps_par (i := 8) (j := 9) (by rfl) sc_law.nd rfl rfl (by decide) rfl rfl (pa_cons (pe_make T.mk_Stops G_StopsXinit (hr.mono (by decide)) rfl T.g_Stops b_StopsXinit .nil (passes_call LamX.takes0 fun _ _ _ _ h => h) (pa_cons (pv 7) (pa_cons (pv 6) pa_nil))) (pa_cons (pe_call G_qXgreatest (hr.mono (by decide)) rfl T.g_qXgreatest T.d_qXgreatest.kp b_qXgreatest .nil pass0 (pa_cons (pv 4) pa_nil)) pa_nil)) (by rfl))
    (pss_cons (ps_expr (pe_bm PySem.F.plainAttrs_list PySem.F.slot_list_append PySem.F.type_list_append mt_append (pv 7) (pa_cons pe_str pa_nil)))
    (pss_cons (ps_for PassesOwn.never rfl (pi_seqA (pv 6)) (pg_name (i := 5) sc_law.nd rfl (Or.inl rfl)) (pss_one (ps_expr (pe_bm PySem.F.plainAttrs_list PySem.F.slot_list_append PySem.F.type_list_append mt_append (pv 5) (pa_cons pe_str pa_nil)))))
    (pss_cons (ps_expr (pe_bm PySem.F.plainAttrs_list PySem.F.slot_list_append PySem.F.type_list_append mt_append (pv 6) (pa_cons (pe_lst (pa_cons pe_str pa_nil)) pa_nil)))
    (pss_cons (ps_if (pt_cmpR (op_neOwn G_StopsXeq b_StopsXeq pass0 (hr.mono (by decide)) T.eq_f T.eq_fn T.sub_l T.ne_f T.ic_mro) (pv 8) (pe_make T.mk_Stops G_StopsXinit (hr.mono (by decide)) rfl T.g_Stops b_StopsXinit .nil (passes_call LamX.takes0 fun _ _ _ _ h => h) (pa_cons (pe_callTy call_tupleS (by rfl) T.n_tuple (by decide +kernel) (pa_cons (pv 3) pa_nil)) (pa_cons (pe_call G_wXloose (hr.mono (by decide)) rfl T.g_wXloose T.d_wXloose.kp b_wXloose .nil pass0 (pa_cons (pv 1) (pa_cons (pe_op op_cat (pv 4) (pe_slice sl_listS (pv 4) po_none (po_some (pe_call G_wXdraw (hr.mono (by decide)) rfl T.g_wXdraw T.d_wXdraw.kp b_wXdraw .nil pass0 (pa_cons (pv 1) (pa_cons pe_int pa_nil)))))) pa_nil))) pa_nil))) (nomark _)) (pss_one (ps_ret pe_bl)) pss_nil)
    (pss_cons (ps_expr (pe_bm PySem.F.plainAttrs_list PySem.F.slot_list_append PySem.F.type_list_append mt_append (pe_meth0 (pv 8) T.c_Stops T.m_StopsXhands G_StopsXhands (hr.mono (by decide)) b_StopsXhands .nil pass0) (pa_cons pe_str pa_nil)))
    (pss_cons (ps_for PassesOwn.never rfl (pi_seqA (pe_meth0 (pv 8) T.c_Stops T.m_StopsXbands G_StopsXbands (hr.mono (by decide)) b_StopsXbands .nil pass0)) (pg_name (i := 5) sc_law.nd rfl (Or.inl rfl)) (pss_one (ps_expr (pe_bm PySem.F.plainAttrs_list PySem.F.slot_list_append PySem.F.type_list_append mt_append (pv 5) (pa_cons pe_str pa_nil)))))
    (pss_cons (ps_if (pt_not (pt_val (pe_call G_wXsame (hr.mono (by decide)) rfl T.g_wXsame T.d_wXsame.kp b_wXsame .nil pass0 (pa_cons (pe_lst (pa_cons (pe_meth0 (pv 8) T.c_Stops T.m_StopsXhands G_StopsXhands (hr.mono (by decide)) b_StopsXhands .nil pass0) (pa_cons (pe_meth0 (pv 8) T.c_Stops T.m_StopsXbands G_StopsXbands (hr.mono (by decide)) b_StopsXbands .nil pass0) pa_nil))) (pa_cons (pe_lst (pa_cons (pe_callB cr_sortedQ (by rfl) T.n_sorted (by decide +kernel) (pa_cons (pv 3) pa_nil)) (pa_cons (pv 9) pa_nil))) pa_nil))))) (pss_one (ps_ret pe_bl)) pss_nil)
    (pss_cons (ps_setLc (i := 10) (own := [("_law_k", 14)]) (g := gName 14) (tt := _) rfl sc_law.nd rfl rfl (sw_true rfl rfl rfl (by decide +kernel)) (pi_range1 rfl T.n_range (pa_cons pe_int pa_nil)) (blkOk_by (by kernel_rfl)) (fun _ _ _ _ _ => (pg_name (i := 14) sc_law.nd rfl (Or.inl rfl))) (fun _ _ _ _ _ => pts_nil) (fun _ _ _ _ _ => (pe_slice sl_listS (pe_call G_wXmixed (hr.mono (by decide)) rfl T.g_wXmixed T.d_wXmixed.kp b_wXmixed .nil pass0 (pa_cons (pv 1) (pa_cons (pv 3) pa_nil))) po_none (po_some (pe_call G_wXdraw (hr.mono (by decide)) rfl T.g_wXdraw T.d_wXdraw.kp b_wXdraw .nil pass0 (pa_cons (pv 1) (pa_cons (pe_op op_add (pe_callB call_lenS (by rfl) T.n_len (by decide +kernel) (pa_cons (pv 3) pa_nil)) pe_int) pa_nil)))))))
    (pss_cons (ps_for PassesOwn.never rfl (pi_seqA (pe_op op_cat (pv 10) (pe_lst (pa_cons (pe_lst pa_nil) (pa_cons (pe_tup pa_nil) (pa_cons pe_non (pa_cons pe_int (pa_cons pe_str (pa_cons (pe_lst (pa_cons pe_str pa_nil)) (pa_cons (pe_op op_rep (pe_slice sl_listS (pv 3) po_none (po_some pe_int)) pe_int) (pa_cons pe_dnewK (pa_cons (pe_lst (pa_cons (pe_ix ix_listS (pv 3) pe_int (fun _ _ => rfl)) (pa_cons pe_non pa_nil))) pa_nil)))))))))))) (pg_name (i := 11) sc_law.nd rfl (Or.inr rfl)) (pss_cons (ps_set (i := 12) sc_law.nd rfl (Or.inl rfl) (pe_and (pe_callB call_isiT (by rfl) T.n_isinstance (by decide +kernel) (pa_cons (pv 11) (pa_cons (pe_tup (pa_cons (pe_bltn (v := .ty "list") (by rfl) T.n_list (by decide +kernel) rfl) (pa_cons (pe_bltn (v := .ty "tuple") (by rfl) T.n_tuple (by decide +kernel) rfl) pa_nil))) pa_nil))) (pe_one (pe_callB (cr_allS rfl) (by rfl) T.n_all (by decide +kernel) (pa_cons (pe_lc (own := [("_law_one", 15)]) (g := gName 15) (tt := _) rfl sc_law.nd (pi_seqA (pv 11)) (blkOk_by (by kernel_rfl)) (fun _ _ _ _ _ => (pg_name (i := 15) sc_law.nd rfl (Or.inl rfl))) (fun _ _ _ _ _ => pts_nil) (fun _ _ _ _ _ => (pe_cmpR op_inS (pv 15) (pv 3) (by rfl)))) pa_nil)))))
    (pss_cons (ps_set (i := 12) sc_law.nd rfl (Or.inl rfl) (pe_and (pv 12) (pe_one (pe_cmpR op_eq (pe_callB call_lenS (by rfl) T.n_len (by decide +kernel) (pa_cons (pe_call G_wXeachXonce (hr.mono (by decide)) rfl T.g_wXeachXonce T.d_wXeachXonce.kp b_wXeachXonce .nil pass0 (pa_cons (pe_callTy call_listS (by rfl) T.n_list (by decide +kernel) (pa_cons (pv 11) pa_nil)) pa_nil)) pa_nil)) (pe_callB call_lenS (by rfl) T.n_len (by decide +kernel) (pa_cons (pv 11) pa_nil)) (nomark _)))))
    (pss_cons (ps_set (i := 12) sc_law.nd rfl (Or.inl rfl) (pe_and (pv 12) (pe_one (pe_callB (cr_anyS rfl) (by rfl) T.n_any (by decide +kernel) (pa_cons (pe_lc (own := [("_law_band", 5)]) (g := gName 5) (tt := _) rfl sc_law.nd (pi_seqA (pv 9)) (blkOk_by (by kernel_rfl)) (fun _ _ _ _ _ => (pg_name (i := 5) sc_law.nd rfl (Or.inl rfl))) (fun _ _ _ _ _ => pts_nil) (fun _ _ _ _ _ => (pe_call G_qXliesXin (hr.mono (by decide)) rfl T.g_qXliesXin T.d_qXliesXin.kp b_qXliesXin .nil pass0 (pa_cons (pv 11) (pa_cons (pv 5) pa_nil))))) pa_nil)))))
    (pss_one (ps_if (pt_not (pt_val (pe_call G_wXsame (hr.mono (by decide)) rfl T.g_wXsame T.d_wXsame.kp b_wXsame .nil pass0 (pa_cons (pe_lst (pa_cons (pe_meth (pv 8) T.c_Stops T.m_StopsXisXband G_StopsXisXband (hr.mono (by decide)) b_StopsXisXband .nil pass0 (pa_cons (pe_call G_wXloose (hr.mono (by decide)) rfl T.g_wXloose T.d_wXloose.kp b_wXloose .nil pass0 (pa_cons (pv 1) (pa_cons (pv 11) pa_nil))) pa_nil)) pa_nil)) (pa_cons (pe_lst (pa_cons (pv 12) pa_nil)) pa_nil))))) (pss_one (ps_ret pe_bl)) pss_nil))))))
    (pss_cons (ps_set (i := 13) sc_law.nd rfl (Or.inl rfl) (pe_call G_qXlists (hr.mono (by decide)) rfl T.g_qXlists T.d_qXlists.kp b_qXlists .nil pass0 (pa_cons (pv 1) (pa_cons (pv 3) pa_nil))))
    (pss_cons (ps_if (PW.pt (pw_or (pt_cmpR (op_neOwn G_StopsXeq b_StopsXeq pass0 (hr.mono (by decide)) T.eq_f T.eq_fn T.sub_l T.ne_f T.ic_mro) (pv 8) (pe_make T.mk_Stops G_StopsXinit (hr.mono (by decide)) rfl T.g_Stops b_StopsXinit .nil (passes_call LamX.takes0 fun _ _ _ _ h => h) (pa_cons (pe_revL (pv 3)) (pa_cons (pv 9) pa_nil))) (nomark _)) (pw_or (pt_cmpR (op_eqOwn G_StopsXeq b_StopsXeq pass0 (hr.mono (by decide)) T.eq_f T.eq_fn T.sub_l) (pv 8) (pv 9) (nomark _)) (pw_or1 (pt_cmpR (op_eqOwn G_StopsXeq b_StopsXeq pass0 (hr.mono (by decide)) T.eq_f T.eq_fn T.sub_l) (pv 8) (pe_make T.mk_Stops G_StopsXinit (hr.mono (by decide)) rfl T.g_Stops b_StopsXinit .nil (passes_call LamX.takes0 fun _ _ _ _ h => h) (pa_cons (pe_op op_cat (pe_lst (pa_cons pe_str pa_nil)) (pe_slice sl_listS (pv 3) (po_some pe_int) po_none)) (pa_cons (pe_lst pa_nil) pa_nil))) (nomark _)))))) (pss_one (ps_ret pe_bl)) pss_nil)
    (pss_cons (ps_if (pt_cmpR op_ne (pe_cmpR (op_eqOwn G_StopsXeq b_StopsXeq pass0 (hr.mono (by decide)) T.eq_f T.eq_fn T.sub_l) (pv 8) (pe_make T.mk_Stops G_StopsXinit (hr.mono (by decide)) rfl T.g_Stops b_StopsXinit .nil (passes_call LamX.takes0 fun _ _ _ _ h => h) (pa_cons (pv 3) (pa_cons (pv 13) pa_nil))) (nomark _)) (pe_cmpR (op_eqR (hu64 hr)) (pe_call G_qXgreatest (hr.mono (by decide)) rfl T.g_qXgreatest T.d_qXgreatest.kp b_qXgreatest .nil pass0 (pa_cons (pv 13) pa_nil)) (pv 9) (nomark _)) (nomark _)) (pss_one (ps_ret pe_bl)) pss_nil)
    (pss_one (ps_if (PW.pt (pw_or (pt_not (pt_val (pe_call G_wXpairsXright (hr.mono (by decide)) rfl T.g_wXpairsXright T.d_wXpairsXright.kp b_wXpairsXright .nil pass0 (pa_cons (pv 8) (pa_cons (pe_callB cr_sortedQ (by rfl) T.n_sorted (by decide +kernel) (pa_cons (pv 3) pa_nil)) (pa_cons (pv 9) pa_nil)))))) (pw_or1 (pt_not (pt_val (pe_call G_wXrefusedXright (hr.mono (by decide)) rfl T.g_wXrefusedXright T.d_wXrefusedXright.kp b_wXrefusedXright .nil pass0 (pa_cons (pv 1) (pa_cons (pv 8) (pa_cons (pv 3) (pa_cons (pv 4) pa_nil)))))))))) (pss_one (ps_ret pe_bl)) pss_nil)))))))))))))))))))
    (pss_one (ps_ret pe_bl)))), ?go⟩)
  case len =>
    obtain ⟨a, xs, rfl, _⟩ := h
    rfl
  case go =>
    obtain ⟨a, xs, rfl, ha, hT, k⟩ := h
    refine ⟨_, rfl, a, xs, rfl, ha, fun S L H0 hS0 hL0 e0 st0 => ?_⟩
    have hT0 := e0.tab hT
    refine ⟨_, rfl, by decide, by decide, ?_⟩
    refine for_src (src_rng (lo := 0) (n := 4)) (fun i σ H' => ∃ y2 y3 y4 y5 y6 y7 y8 y9 y10 y11 y12 y13 y14 y15, σ = [some (.ref a), some (.ref S), y2, y3, y4, y5, y6, y7, y8, y9, y10, y11, y12, y13, y14, y15] ∧ Strm H' S L (10000 * i) ∧ LamX.Tabs Tbs.tabs H')
      ⟨_, _, _, _, _, _, _, _, _, _, _, _, _, _, rfl, st0, hT0⟩ (fun _ _ _ _ _ => trivial) ?_ ?_
    rotate_left
    · rintro σ H1 ⟨y2, y3, y4, y5, y6, y7, y8, y9, y10, y11, y12, y13, y14, y15, rfl, st1, hT1⟩
      exact k H1
    rintro i x σ H9 H1 hi ⟨y2, y3, y4, y5, y6, y7, y8, y9, y10, y11, y12, y13, y14, y15, rfl, st1, hT1⟩ ⟨rfl, rfl⟩
    -- hands
    refine ⟨_, rfl, _, rfl, S, L, 10000 * i, 4, rfl, by decide, by decide, st1, by omega, fun d H2 hd e2 st2 => ⟨_, _, rfl, rfl, ?_⟩⟩
    refine ⟨S, L, 10000 * i + 1, 2 + d, by show [V.ref S, V.int _] = _; rw [Int.natCast_add]; rfl, st2, by omega, fun pa hs H3 hhs e3 st3 hpa0 hpa => ?_⟩
    obtain ⟨zs, hzs, ehs⟩ := hhs
    obtain ⟨hok, hnd, hlen, hsix⟩ := hands_of hzs ehs (by omega)
    clear hzs ehs zs
    have dSL : Dom [S, L] H3 := by
      obtain ⟨_, _, _, _, _, q1, q2, _⟩ := st3
      intro c hc
      rcases List.mem_cons.1 hc with z | hc
      · rw [z, q1]; simp
      · rw [List.mem_singleton.mp hc, q2]; simp
    have hpaA : wo [S, L] H3 pa = some (.lst (hs.map V.str)) := wo_of (by have := st2.ne hpa0; simp [this.1, this.2]) hpa
    have hT3 := e3.tab (e2.tab hT1)
    clear st2 e3 e2 hpa0
    -- lists
    refine ⟨_, rfl, _, rfl, [S, L], S, L, pa, _, hs, dSL, List.mem_cons_self .., List.mem_cons_of_mem _ (List.mem_cons_self ..), rfl, st3, by omega, hpaA, by omega, by omega, hnd, fun vl bs H4 hL e4 st4 rl4 => ?_⟩
    have hpa4 := e4.old _ _ hpaA
    have hT4 := e4.tab hT3
    have d4 : Dom [S, L] H4 := dSL.ex e4
    clear hT3 dSL hpaA hpa e4 st3
    obtain ⟨av, bvs, rfl, hav, rbs⟩ := rl4
    have hvl : bvs.length = bs.length := by rw [rbs.len, List.length_map]
    have hL10 := hL.len
    -- handed, passed
    refine ⟨_, rfl, av, bvs, rfl, .inl (wo_at hav), fun J Ok Sr hOk => lc_lots Sr bs (fun b => b) hvl.symm (by omega) (fun H' e => hOk H' (seqAt_same (.inl hav) (e.any (A := [S, L])).old)) ?_ ?_⟩
    · rintro j z y H9 H6 Kt Kf hz e6 ⟨rfl, hy⟩ kt
      obtain ⟨d', hd', ry⟩ := rbs.get hy
      rw [List.getElem?_map, hz] at hd'
      cases hd'
      obtain ⟨c, rfl, hc⟩ := Rep.ls.mp (ry.mono (e6.any (A := [S, L])).old)
      exact ⟨rfl, _, rfl, c, _, rfl, .inl (wo_at hc), fun q hq => kt q _ (Ex.refl _ _) hq⟩
    intro D ps H5 hD e5 ep hD5 hps
    have ep : ps.map (·.2) = bs := by rw [ep]; exact List.map_id _
    have hpl : ps.length = bs.length := by rw [← ep, List.length_map]
    refine ⟨_, rfl, pa, _, rfl, .inl (e5.at (wo_at hpa4)), fun p7 hp7 => ⟨_, _, rfl, ?_⟩⟩
    have e56 : Ex [] H5 (upd H5 p7 (.lst (hs.map V.str))) := Ex.new hp7
    have h7 : (upd H5 p7 (.lst (hs.map V.str))) p7 = some (.lst (hs.map V.str)) := upd_same
    have hps6 : ∀ b ∈ ps, (upd H5 p7 (.lst (hs.map V.str))) b.1 = some (.lst (b.2.map V.str)) := fun b hb => e56.at (hps b hb).2.2
    have hD6 : (upd H5 p7 (.lst (hs.map V.str))) D = some (.lst (ps.map fun b => V.ref b.1)) := e56.at hD5
    have n7D : p7 ≠ D := fun z => by rw [z, hD5] at hp7; cases hp7
    have n7b : ∀ b ∈ ps, p7 ≠ b.1 := fun b hb z => by rw [z, (hps b hb).2.2] at hp7; cases hp7
    generalize (upd H5 p7 (.lst (hs.map V.str))) = H6 at e56 h7 hps6 hD6 ⊢
    have e46 := e5.trans e56
    have hC : ∀ c ∈ p7 :: D :: ps.map (·.1), H4 c = none := fun c hc => by
      rcases List.mem_cons.1 hc with z | hc
      · rw [z]; exact e5.back hp7
      · rcases List.mem_cons.1 hc with z | hc
        · rw [z]; exact hD
        · obtain ⟨b, hb, rfl⟩ := List.mem_map.mp hc
          exact (hps b hb).1
    have hCk : ∀ c ∈ p7 :: D :: ps.map (·.1), H6 c ≠ none := fun c hc => by
      rcases List.mem_cons.1 hc with z | hc
      · rw [z, h7]; simp
      · rcases List.mem_cons.1 hc with z | hc
        · rw [z, hD6]; simp
        · obtain ⟨b, hb, rfl⟩ := List.mem_map.mp hc
          rw [hps6 b hb]; simp
    have m7 : p7 ∈ p7 :: D :: ps.map (·.1) := List.mem_cons_self ..
    have mD : D ∈ p7 :: D :: ps.map (·.1) := List.mem_cons_of_mem _ (List.mem_cons_self ..)
    have mb : ∀ b ∈ ps, b.1 ∈ p7 :: D :: ps.map (·.1) := fun b hb => List.mem_cons_of_mem _ (List.mem_cons_of_mem _ (List.mem_map_of_mem hb))
    obtain ⟨nSC, nLC⟩ := st4.not hC
    generalize hCe : p7 :: D :: ps.map (·.1) = C at hC hCk m7 mD mb nSC nLC
    clear hCe
    have s46 : Sub (wo [S, L] H4) (wo (C ++ [S, L]) H6) := wo_fresh e46 hC
    have dA6 : Dom [S, L] H6 := d4.ex e46
    have dB6 : Dom (C ++ [S, L]) H6 := fun c hc => (List.mem_append.mp hc).elim (hCk c) (dA6 c)
    have cB : ∀ c ∈ C, c ∈ C ++ [S, L] := fun c hc => List.mem_append_left _ hc
    have r7 : Rep (wo [S, L] H6) (ls hs) (.ref p7) := Rep.ls.mpr ⟨p7, rfl, wo_of (d4.not (e5.back hp7)) h7⟩
    have rD : Rep (wo [S, L] H6) (lls bs) (.ref D) := by
      refine ⟨D, _, rfl, wo_of (d4.not hD) hD6, ?_⟩
      have : ∀ qs : List (Addr × Lot), (∀ b ∈ qs, b ∈ ps) → RepL (wo [S, L] H6) ((qs.map (·.2)).map ls) (qs.map fun b => V.ref b.1) := fun qs => by
        induction qs with
        | nil => intro _; exact .nil
        | cons q qs ih =>
          intro h
          exact .cons (Rep.ls.mpr ⟨q.1, rfl, wo_of (d4.not (hps q (h q (List.mem_cons_self ..))).1) (hps6 q (h q (List.mem_cons_self ..)))⟩) (ih fun b hb => h b (List.mem_cons_of_mem _ hb))
      have := this ps fun b hb => hb
      rw [ep] at this
      exact this
    have hT6 := e46.tab hT4
    -- stops
    refine ⟨_, rfl, _, rfl, fun x dx hx hdx hne => init_ok (A := [S, L]) (B := C ++ [S, L]) dA6 dB6 hx hdx hne r7 rD hT6 (chk_okl hok hnd (by omega)) (tiny_strs rfl (by omega) hok) (lotItems_lls bs) hok hL.nd hL.sub (by omega) (by omega) (fun H7 e67 hS7 => ⟨rfl, ?_⟩)⟩
    clear hx hdx hne r7 rD
    have s47 : Sub (wo [S, L] H4) (wo (C ++ [S, L]) H7) := s46.trans (e67.any (A := C ++ [S, L])).old
    have dB7 : Dom (C ++ [S, L]) H7 := dB6.ex e67
    have hgL : Lots bs := ⟨fun b hb => okHs.lot fun z hz => hok z (hL.sub b hb z hz), fun b hb => Nat.le_trans (nodup_len (hL.nd b hb) (hL.sub b hb)) (by omega)⟩
    refine ⟨_, rfl, C ++ [S, L], bs, .ref av, dB7, rfl, Rep.mono s47 ⟨av, bvs, rfl, hav, rbs⟩, hgL, by omega, fun v9 H8 e78 r9 => ⟨_, _, rfl, ?_⟩⟩
    have e68 := e67.trans e78
    have hS8 := hS7.mono (e78.any (A := C ++ [S, L])).old
    have dB8 := dB7.ex e78
    have rv8 : Rep (wo (C ++ [S, L]) H8) (lls bs) (.ref av) := Rep.mono (s47.trans (e78.any (A := C ++ [S, L])).old) ⟨av, bvs, rfl, hav, rbs⟩
    have ha8 : wo (C ++ [S, L]) H8 pa = some (.lst (hs.map V.str)) := (s47.trans (e78.any (A := C ++ [S, L])).old) _ _ hpa4
    have h78 := e68.at h7
    have hD8 := e68.at hD6
    have hps8 : ∀ b ∈ ps, H8 b.1 = some (.lst (b.2.map V.str)) := fun b hb => e68.at (hps6 b hb)
    have st8 := (st4.ex e46).ex e68
    have hT8 := e68.tab hT6
    have hbl : ∀ b ∈ ps, b.2.length ≤ 6 := fun b hb => by
      have hb2 : b.2 ∈ bs := by rw [← ep]; exact List.mem_map_of_mem hb
      have := nodup_len (hL.nd _ hb2) (hL.sub _ hb2)
      omega
    have nDb : ∀ b ∈ ps, b.1 ≠ D := fun b hb => (hps b hb).2.1
    clear s46 s47 dA6 dB6 dB7 hS7 e67 e78 e68 e46 e56 e5 hD5 hps hps6 hD6 h7 st4 d4 hT4 hT6 hpa4 hav rbs hvl hCk hC hp7 hD
    -- late
    refine ⟨_, rfl, .inl ⟨rfl, _, SqL.of h78⟩, p7, _, _, rfl, rfl, h78, by rw [List.length_map]; exact Nat.lt_of_le_of_lt (show hs.length ≤ 10 by omega) (by decide), ?_⟩
    have f1 : Ex C H8 (upd H8 p7 (.lst (hs.map V.str ++ [.str "late"]))) := Ex.put m7 h78
    have f1D : (upd H8 p7 (.lst (hs.map V.str ++ [.str "late"]))) D = some (.lst (ps.map fun b => V.ref b.1)) := by rw [upd_ne (Ne.symm n7D)]; exact hD8
    have f1b : ∀ b ∈ ps, (upd H8 p7 (.lst (hs.map V.str ++ [.str "late"]))) b.1 = some (.lst (b.2.map V.str)) := fun b hb => by rw [upd_ne (Ne.symm (n7b b hb))]; exact hps8 b hb
    refine ⟨_, rfl, D, _, rfl, .inl f1D, fun J Ok Sr hOk => for_src Sr (fun j σ H' => ∃ y5, σ = [some (.ref a), some (.ref S), some (.int (0 + (i : Nat))), some (.ref pa), some (.ref av), y5, some (.ref D), some (.ref p7), some (.ref x), some v9, y10, y11, y12, y13, y14, y15] ∧ Ex C H8 H' ∧ H' D = some (.lst (ps.map fun b => V.ref b.1)) ∧ ∀ b ∈ ps, ∃ xs, H' b.1 = some (.lst xs) ∧ xs.length ≤ 10 + j)
      ⟨_, rfl, f1, f1D, fun b hb => ⟨_, f1b b hb, by rw [List.length_map]; have := hbl b hb; omega⟩⟩ (fun j σ H' _ h => hOk H' (by obtain ⟨_, _, _, hD', _⟩ := h; rw [hD', f1D])) ?_ ?_⟩
    · rintro j y σ H9 H10 hj ⟨y5, rfl, e9, hD9, hb9⟩ ⟨rfl, hy⟩
      rw [List.getElem?_map] at hy
      obtain ⟨b, hb, rfl⟩ : ∃ b, ps[j]? = some b ∧ y = V.ref b.1 := by
        cases q : ps[j]? with
        | none => rw [q] at hy; cases hy
        | some b => rw [q] at hy; exact ⟨b, rfl, (Option.some.inj hy).symm⟩
      have hb' := List.mem_of_getElem? hb
      rw [List.length_map] at hj
      obtain ⟨ws, hws, hwl⟩ := hb9 b hb'
      refine ⟨_, rfl, .inl ⟨rfl, _, SqL.of hws⟩, b.1, _, _, rfl, rfl, hws, Nat.lt_of_le_of_lt (show ws.length ≤ 30 by omega) (by decide), _, rfl, e9.trans (Ex.put (mb b hb') hws), ?_, fun c hc => ?_⟩
      · rw [upd_ne (Ne.symm (nDb b hb'))]; exact hD9
      · by_cases q : c.1 = b.1
        · rw [q]; exact ⟨_, upd_same, by rw [List.length_append]; show ws.length + 1 ≤ _; omega⟩
        · obtain ⟨us, h1, h2⟩ := hb9 c hc
          exact ⟨us, by rw [upd_ne q]; exact h1, by omega⟩
    rintro σ H9 ⟨y5', rfl, e9, hD9, hb9⟩
    clear f1 f1D f1b hb9 hps8 hD8 h78
    refine ⟨_, rfl, .inl ⟨rfl, _, SqL.of hD9⟩, by show 1 ≤ sizeLine; decide, fun q hq => ?_⟩
    have f2 : Ex C H9 (upd H9 q (.lst [.str "late"])) := Ex.new hq
    have f2D : (upd H9 q (.lst [.str "late"])) D = some (.lst (ps.map fun b => V.ref b.1)) := by
      rw [upd_ne (ne_of_none hD9 hq)]; exact hD9
    refine ⟨D, _, _, rfl, rfl, f2D, by rw [List.length_map]; exact Nat.lt_of_le_of_lt (show ps.length ≤ 10 by omega) (by decide), ?_⟩
    have f3 : Ex C H8 (upd (upd H9 q (.lst [.str "late"])) D (.lst (ps.map (fun b => V.ref b.1) ++ [.ref q]))) := (e9.trans f2).trans (Ex.put mD f2D)
    generalize (upd (upd H9 q (.lst [.str "late"])) D (.lst (ps.map (fun b => V.ref b.1) ++ [.ref q]))) = H10 at f3 ⊢
    clear hq f2 f2D e9 hD9
    have g3 := f3.le cB
    have st10 := st8.exC f3 nSC nLC
    have mS : S ∈ C ++ [S, L] := List.mem_append_right _ (List.mem_cons_self ..)
    have mL : L ∈ C ++ [S, L] := List.mem_append_right _ (List.mem_cons_of_mem _ (List.mem_cons_self ..))
    have dB10 : Dom (C ++ [S, L]) H10 := dB8.ex g3
    have hT10 := f3.tab hT8
    have hS10 := hS8.mono g3.old
    have rv10 := rv8.mono g3.old
    have ha10 := g3.old _ _ ha8
    have r10 := r9.mono g3.old
    clear f3 g3 st8 nSC nLC dB8 hT8 hS8 rv8 ha8 r9 m7 mD mb cB n7D n7b nDb hbl hpl hOk Sr
    generalize hB : C ++ [S, L] = B at mS mL dB10 hS10 rv10 ha10 r10
    clear hB
    -- loose
    have okS : okLot (srt hs) := fun z hz => okHs.lot hok z (mem_srt.mp hz)
    have okG : ∀ g ∈ og bs, okLot g := fun g hg z hz => okHs.lot hok z ((og_of hL g hg).2.1 z hz)
    refine ⟨_, rfl, _, rfl, pa, _, rfl, wo_at ha10, fun pt hpt => ?_⟩
    have n1 : Ex [] H10 (upd H10 pt (.tup (hs.map V.str))) := Ex.new hpt
    have rt : Rep (wo B (upd H10 pt (.tup (hs.map V.str)))) (tpl hs) (.ref pt) := ⟨pt, _, rfl, wo_of (dB10.not hpt) upd_same, RepL.strs.mpr rfl⟩
    generalize (upd H10 pt (.tup (hs.map V.str))) = H11 at n1 rt ⊢
    refine ⟨_, rfl, _, rfl, _, rfl, _, rfl, S, L, _, 2, rfl, by decide, by decide, st10.ex n1, by omega, fun d2 H12 hd2 e12 st12 => ?_⟩
    have e1012 : Ex B H10 H12 := n1.any.trans (e12.of2 mS mL)
    obtain ⟨av', bvs2, hq, hav2, rbs2⟩ := rv10.mono e1012.old
    cases hq
    have hav2' := wo_at hav2
    refine ⟨_, rfl, av, _, rfl, hav2', fun p hp => ?_⟩
    rw [cut_to]
    have n2 : Ex [] H12 (upd H12 p (.lst (bvs2.take d2))) := Ex.new hp
    have hp' : (upd H12 p (.lst (bvs2.take d2))) p = some (.lst (bvs2.take d2)) := upd_same
    generalize (upd H12 p (.lst (bvs2.take d2))) = H13 at n2 hp' ⊢
    have hbv2 : bvs2.length ≤ 10 := by rw [rbs2.len, List.length_map]; omega
    refine ⟨av, p, _, _, rfl, rfl, n2.at hav2', hp', Nat.le_trans (show bvs2.length + (bvs2.take d2).length ≤ 20 by rw [List.length_take]; omega) (by decide), fun p2 hp2 => ?_⟩
    have n3 : Ex [] H13 (upd H13 p2 (.lst (bvs2 ++ bvs2.take d2))) := Ex.new hp2
    have n23 := n2.trans n3
    have dB14 : Dom B (upd H13 p2 (.lst (bvs2 ++ bvs2.take d2))) := (dB10.ex e1012).ex n23
    have r14 : Rep (wo B (upd H13 p2 (.lst (bvs2 ++ bvs2.take d2)))) (lls (bs ++ bs.take d2)) (.ref p2) := by
      have rr := rbs2.mono (n23.any (A := B)).old
      refine ⟨p2, _, rfl, wo_of (((dB10.ex e1012).ex n2).not hp2) upd_same, ?_⟩
      rw [List.map_append, List.map_take]
      exact rr.app (rr.take d2)
    generalize (upd H13 p2 (.lst (bvs2 ++ bvs2.take d2))) = H14 at n3 n23 dB14 r14 ⊢
    have e1014 : Ex B H10 H14 := e1012.trans n23.any
    obtain ⟨t1, t2, t3⟩ := hL.twice d2
    refine ⟨B, S, L, _, _, _, dB14, mS, mL, rfl, st12.ex n23, by show _ + 51 ≤ 1000000000; omega, r14, sized50_lls (by omega) (fun c hc => Nat.le_trans (nodup_len (t1 c hc) (t2 c hc)) (by omega)), fun d' v' H15 hlo e15 st15 r15 => ?_⟩
    have e1015 : Ex B H10 H15 := e1014.trans (e15.of2 mS mL)
    have dB15 : Dom B H15 := dB10.ex e1015
    have rt15 := (rt.mono (e12.of2 mS mL).old).mono ((n23.any (A := B)).trans (e15.of2 mS mL)).old
    refine fun x2 dx2 hx2 hdx2 hne2 => init_ok (A := B) (B := B) dB15 dB15 hx2 hdx2 hne2 rt15 r15 (e1015.tab hT10) (chk_okt hok hnd (by omega)) (tiny_strs rfl (by omega) hok) (lotItems_loose hlo) hok t1 t2 (by omega) (by omega) (fun H16 e16 hS16 => ⟨rfl, ?_⟩)
    have e1016 : Ex B H10 H16 := e1015.trans e16.any
    rw [og_twice] at hS16
    refine own_eq (hS10.mono e1016.old) hS16 okS okG okS okG ⟨_, rfl, iteF' (by simp) ?_⟩
    have st16 := st15.ex e16
    have dB16 : Dom B H16 := dB10.ex e1016
    have hT16 := e1016.tab hT10
    have hS17 := hS10.mono e1016.old
    have rv16 := rv10.mono e1016.old
    have ha16 := e1016.old _ _ ha10
    have r16 := r10.mono e1016.old
    clear rt15 hS16 e1016 e16 hx2 hdx2 hne2 r15 e15 st15 e1015 dB15 t1 t2 t3 r14 hlo e1014 dB14 n23 n3 hp2 hp' n2 hp hav2' hav2 rbs2 e1012 e12 st12 n1 rt hpt st10 dB10 hT10 hS10 rv10 ha10 r10 hbv2
    -- hands() and bands(), changed
    obtain ⟨ds, ah, ab, hx16, hah, rab⟩ := id hS17
    refine ⟨_, rfl, x, _, _, rfl, wo_at hx16, rfl, B, x, _, _, rfl, hS17, fun p hp => ⟨.inl ⟨rfl, _, SqL.of upd_same⟩, p, _, _, rfl, rfl, upd_same, by rw [List.length_map, len_srt]; exact Nat.lt_of_le_of_lt (show hs.length ≤ 10 by omega) (by decide), ?_⟩⟩
    have n1 : Ex [] H16 (upd (upd H16 p (.lst ((srt hs).map V.str))) p (.lst ((srt hs).map V.str ++ [.str "late"]))) := (Ex.new hp).putNew hp upd_same
    generalize (upd (upd H16 p (.lst ((srt hs).map V.str))) p (.lst ((srt hs).map V.str ++ [.str "late"]))) = H17 at n1 ⊢
    have gl11 := og_len hL
    have gl6 := og_lots hL (by omega)
    refine ⟨_, rfl, x, _, _, rfl, n1.at (wo_at hx16), rfl, B, x, _, _, rfl, hS17.mono (n1.any (A := B)).old, by show (og bs).length ≤ 1000; omega, fun D2 qs H18 hD2 e18 eq2 hD18 hqs => ⟨D2, _, rfl, .inl hD18, fun J Ok Sr hOk => for_src Sr (fun j σ H' => ∃ y5, σ = [some (.ref a), some (.ref S), some (.int (0 + (i : Nat))), some (.ref pa), some (.ref av), y5, some (.ref D), some (.ref p7), some (.ref x), some v9, y10, y11, y12, y13, y14, y15] ∧ Ex [] H17 H' ∧ H' D2 = some (.lst (qs.map fun b => V.ref b.1)) ∧ ∀ b ∈ qs, ∃ xs, H' b.1 = some (.lst xs) ∧ xs.length ≤ 10 + j)
      ⟨_, rfl, e18, hD18, fun b hb => ⟨_, (hqs b hb).2.2, by rw [List.length_map]; have := gl6 b.2 (by show b.2 ∈ og bs; rw [← eq2]; exact List.mem_map_of_mem hb); omega⟩⟩ (fun j σ H' _ h => hOk H' (by obtain ⟨_, _, _, hD', _⟩ := h; rw [hD', hD18])) ?_ ?_⟩⟩
    · rintro j y σ H9 H10 hj ⟨y5, rfl, e9, hD9, hb9⟩ ⟨rfl, hy⟩
      rw [List.getElem?_map] at hy
      obtain ⟨b, hb, rfl⟩ : ∃ b, qs[j]? = some b ∧ y = V.ref b.1 := by
        cases q : qs[j]? with
        | none => rw [q] at hy; cases hy
        | some b => rw [q] at hy; exact ⟨b, rfl, (Option.some.inj hy).symm⟩
      have hb' := List.mem_of_getElem? hb
      have hql : qs.length = (og bs).length := by have := congrArg List.length eq2; rw [List.length_map] at this; exact this
      rw [List.length_map] at hj
      obtain ⟨ws, hws, hwl⟩ := hb9 b hb'
      refine ⟨_, rfl, .inl ⟨rfl, _, SqL.of hws⟩, b.1, _, _, rfl, rfl, hws, Nat.lt_of_le_of_lt (show ws.length ≤ 30 by omega) (by decide), _, rfl, e9.putNew (hqs b hb').1 hws, ?_, fun c hc => ?_⟩
      · rw [upd_ne (Ne.symm (hqs b hb').2.1)]; exact hD9
      · by_cases q : c.1 = b.1
        · rw [q]; exact ⟨_, upd_same, by rw [List.length_append]; show ws.length + 1 ≤ _; omega⟩
        · obtain ⟨us, h1, h2⟩ := hb9 c hc
          exact ⟨us, by rw [upd_ne q]; exact h1, by omega⟩
    rintro σ H19 ⟨y5'', rfl, e19, _, _⟩
    have n2 : Ex [] H16 H19 := n1.trans e19
    have st19 := st16.ex n2
    have dB19 : Dom B H19 := dB16.ex n2
    have hT19 := n2.tab hT16
    have hS19 := hS17.mono (n2.any (A := B)).old
    have rv19 := rv16.mono (n2.any (A := B)).old
    have ha19 := (n2.any (A := B)).old _ _ ha16
    have r19 := r16.mono (n2.any (A := B)).old
    clear n2 e19 hqs hD18 eq2 e18 hD2 n1 st16 dB16 hT16 hS17 rv16 ha16 r16 hx16 hah rab hOk Sr
    -- same
    obtain ⟨ds9, ah9, ab9, hx19, _, _⟩ := id hS19
    refine ⟨_, rfl, x, _, _, rfl, wo_at hx19, rfl, B, x, _, _, rfl, hS19, fun p hp => ?_⟩
    have n1 : Ex [] H19 (upd H19 p (.lst ((srt hs).map V.str))) := Ex.new hp
    have rp : Rep (wo B (upd H19 p (.lst ((srt hs).map V.str)))) (ls (srt hs)) (.ref p) := Rep.ls.mpr ⟨p, rfl, wo_of (dB19.not hp) upd_same⟩
    generalize (upd H19 p (.lst ((srt hs).map V.str))) = H20 at n1 rp ⊢
    have dB20 : Dom B H20 := dB19.ex n1
    refine ⟨_, rfl, x, _, _, rfl, n1.at (wo_at hx19), rfl, B, x, _, _, rfl, hS19.mono (n1.any (A := B)).old, by show (og bs).length ≤ 1000; omega, fun D3 ws H21 hD3 e21 eq3 hD31 hws => ⟨by show 2 ≤ sizeLine; decide, fun pl hpl => ?_⟩⟩
    have rD3 : Rep (wo B H21) (lls (og bs)) (.ref D3) := by
      have := reps_of (G := wo B H21) (qs := ws) fun b hb => wo_of (dB20.not (hws b hb).1) (hws b hb).2.2
      rw [eq3] at this
      exact ⟨D3, _, rfl, wo_of (dB20.not hD3) hD31, this⟩
    have dB21 : Dom B H21 := dB20.ex e21
    have n3 : Ex [] H21 (upd H21 pl (.lst [.ref p, .ref D3])) := Ex.new hpl
    have rpl : Rep (wo B (upd H21 pl (.lst [.ref p, .ref D3]))) (.list [ls (srt hs), lls (og bs)]) (.ref pl) := by
      have s3 := (n3.any (A := B)).old
      exact ⟨pl, _, rfl, wo_of (dB21.not hpl) upd_same, .cons ((rp.mono (e21.any (A := B)).old).mono s3) (.cons (rD3.mono s3) .nil)⟩
    generalize (upd H21 pl (.lst [.ref p, .ref D3])) = H22 at n3 rpl ⊢
    have e22 : Ex [] H19 H22 := n1.trans (e21.trans n3)
    have dB22 : Dom B H22 := dB19.ex e22
    refine ⟨_, rfl, pa, hs, rfl, .inl (e22.at (wo_at ha19)), fun p2 hp2 => ⟨_, rfl, by show 2 ≤ sizeLine; decide, fun pm hpm => ?_⟩⟩
    have n4 : Ex [] H22 (upd H22 p2 (.lst ((srt hs).map V.str))) := Ex.new hp2
    have n5 : Ex [] (upd H22 p2 (.lst ((srt hs).map V.str))) (upd (upd H22 p2 (.lst ((srt hs).map V.str))) pm (.lst [.ref p2, v9])) := Ex.new hpm
    have s45 := ((n4.trans n5).any (A := B)).old
    have rpm : Rep (wo B (upd (upd H22 p2 (.lst ((srt hs).map V.str))) pm (.lst [.ref p2, v9]))) (.list [ls (srt hs), lls (og bs)]) (.ref pm) := by
      refine ⟨pm, _, rfl, wo_of ((dB22.ex n4).not hpm) upd_same, .cons (Rep.ls.mpr ⟨p2, rfl, wo_of (dB22.not hp2) (n5.at upd_same)⟩) (.cons ((r19.mono (e22.any (A := B)).old).mono s45) .nil)⟩
    refine ⟨B, .list [ls (srt hs), lls (og bs)], .ref pl, .ref pm, dB22.ex (n4.trans n5), rfl, rpl.mono s45, rpm, by simp only [pure_, pureL, pureL_strs, pureL_lss, Bool.and_true], ⟨by show 2 ≤ 1000; decide, fun y hy => ?_⟩, fun H23 e23 => ⟨_, rfl, iteF' rfl ?_⟩⟩
    · rcases List.mem_cons.mp (show y ∈ [ls (srt hs), lls (og bs)] from hy) with q | hy
      · rw [q]; exact sized_up (sized_up (sized_ls (by rw [len_srt]; omega)))
      · rw [List.mem_singleton.mp hy]; exact sized_up (sized_lls (by omega) fun c hc => Nat.le_trans (gl6 c hc) (by omega))
    have e1923 : Ex [] H19 H23 := e22.trans ((n4.trans n5).trans e23)
    have st23 := st19.ex e1923
    have dB23 : Dom B H23 := dB19.ex e1923
    have hT23 := e1923.tab hT19
    have hS23 := hS19.mono (e1923.any (A := B)).old
    have rv23 := rv19.mono (e1923.any (A := B)).old
    have ha23 := (e1923.any (A := B)).old _ _ ha19
    have r23 := r19.mono (e1923.any (A := B)).old
    clear e1923 e23 rpm s45 n5 n4 hpm hp2 dB22 e22 rpl n3 dB21 rD3 hpl hws hD31 eq3 e21 hD3 dB20 n1 rp hp hx19 st19 dB19 hT19 hS19 rv19 ha19 r19
    -- some
    generalize hn0 : 10000 * i + 1 + 60 + 1000 + 1 + cst 2 = n0 at st23
    have hn0 : n0 ≤ 10000 * i + 1200 := by rw [← hn0]; show _ + 51 ≤ _; omega
    refine ⟨_, rfl, by decide, by decide, fun Ds hDs => ?_⟩
    have hDsS := st23.ne hDs
    have mS' : S ∈ Ds :: B := List.mem_cons_of_mem _ mS
    have mL' : L ∈ Ds :: B := List.mem_cons_of_mem _ mL
    have hsl : hs.length ≤ 6 := by omega
    refine lc_src (src_rng (lo := 0) (n := 5)) (fun j H' => Ex [S, L] H23 H' ∧ Strm H' S L (n0 + 61 * j) ∧ ∃ acc zss, H' Ds = some (.lst acc) ∧ RepL (wo (Ds :: B) H') (zss.map ls) acc ∧ zss.length = j ∧ ∀ zs ∈ zss, zs.length ≤ 6 ∧ okHs zs)
      ⟨(Ex.new hDs).any, st23.ex (Ex.new hDs), [], [], upd_same, .nil, rfl, fun zs hz => by cases hz⟩ (fun _ _ _ _ => trivial) ?_ ?_
    · rintro j y H24 H25 hj ⟨e24, st24, acc, zss, hacc, racc, hzl, hzs⟩ ⟨rfl, rfl⟩
      have ha24 := (e24.of2 mS mL).old _ _ ha23
      refine ⟨rfl, _, rfl, _, rfl, S, L, pa, _, hs, rfl, st24, by omega, wo_at ha24, by omega, fun p ys H26 hperm e26 st26 hp0 hp => ?_⟩
      have ha26 := (e26.of2 mS mL).old _ _ ha24
      have hml : (hs.map V.str).length = hs.length := List.length_map ..
      refine ⟨_, rfl, _, rfl, pa, _, rfl, .inl (wo_at ha26), _, _, rfl, rfl, S, L, _, (hs.map V.str).length + 1, by rfl, by omega, by omega, st26, by omega, fun d3 H27 hd3 e27 st27 => ⟨_, rfl, p, _, rfl, e27.get2 (st24.ne hp0).1 (st24.ne hp0).2 hp, fun t ht => ?_⟩⟩
      rw [cut_to, ← List.map_take]
      have n1 : Ex [] H27 (upd H27 t (.lst ((ys.take d3).map V.str))) := Ex.new ht
      have e2427 := e26.trans e27
      have e2428 := e2427.trans n1.any
      have hacc27 := e2427.get2 hDsS.1 hDsS.2 hacc
      have hacc28 := e2428.get2 hDsS.1 hDsS.2 hacc
      have dpA : Dom (Ds :: B) H27 := fun c hc => by
        rcases List.mem_cons.1 hc with z | hc
        · rw [z, hacc27]; simp
        · exact (e24.trans e2427).dom c (dB23 c hc)
      refine ⟨acc, hacc28, ?_, (e24.trans e2428).putNew hDs hacc28, ?_, acc ++ [.ref t], zss ++ [ys.take d3], upd_same, ?_, by rw [List.length_append, hzl]; rfl, fun zs hz => ?_⟩
      · have := racc.len
        rw [List.length_map, hzl] at this
        exact Nat.lt_of_le_of_lt (show acc.length ≤ 10 by omega) (by decide)
      · obtain ⟨xs', aa, mm, cc, z1, z2, z3, z4⟩ := (st27.ex n1).le (show n0 + 61 * j + 60 + 1 ≤ n0 + 61 * (j + 1) by omega)
        exact ⟨xs', aa, mm, cc, z1, by rw [upd_ne (Ne.symm hDsS.1)]; exact z2, by rw [upd_ne (Ne.symm hDsS.2)]; exact z3, z4⟩
      · rw [wo_put (List.mem_cons_self ..), List.map_append]
        exact (racc.mono (e2428.of2 mS' mL').old).snoc (Rep.ls.mpr ⟨t, rfl, wo_of (dpA.not ht) upd_same⟩)
      · rcases List.mem_append.1 hz with hz | hz
        · exact hzs zs hz
        · rw [List.mem_singleton.1 hz]
          exact ⟨by rw [List.length_take, hperm.length_eq]; omega, fun z hz2 => hok z (hperm.mem_iff.mp (List.mem_of_mem_take hz2))⟩
    rintro H24 ⟨e24, st24, acc, zss, hacc, racc, hzl, hzs⟩
    have e24B := e24.of2 mS mL
    have dB24 : Dom B H24 := dB23.ex e24
    have rDs : RepL (wo B H24) (zss.map ls) acc := racc.mono wo_cons
    have hT24 := e24.tab hT23
    have hS24 := hS23.mono e24B.old
    have rv24 := rv23.mono e24B.old
    have ha24 := e24B.old _ _ ha23
    have r24 := r23.mono e24B.old
    have hDsB : Ds ∉ B := dB23.not hDs
    have hal : acc.length = 5 := by rw [racc.len, List.length_map, hzl]
    clear racc e24 e24B st23 hT23 hS23 rv23 ha23 r23 hDs dB23
    -- the things
    refine ⟨_, rfl, by show 0 ≤ sizeLine; decide, fun p1 hp1 => ?_⟩
    have n1 : Ex [] H24 (upd H24 p1 (.lst [])) := Ex.new hp1
    have r1 : Rep (wo B (upd H24 p1 (.lst []))) (ls []) (.ref p1) := ⟨p1, _, rfl, wo_of (dB24.not hp1) upd_same, .nil⟩
    generalize (upd H24 p1 (.lst [])) = H25 at n1 r1 ⊢
    have d1 : Dom B H25 := dB24.ex n1
    refine ⟨by show 0 ≤ sizeLine; decide, fun p2 hp2 => ?_⟩
    have n2 : Ex [] H25 (upd H25 p2 (.tup [])) := Ex.new hp2
    have r2 : Rep (wo B (upd H25 p2 (.tup []))) (.tuple []) (.ref p2) := ⟨p2, _, rfl, wo_of (d1.not hp2) upd_same, .nil⟩
    generalize (upd H25 p2 (.tup [])) = H26 at n2 r2 ⊢
    have d2' : Dom B H26 := d1.ex n2
    refine ⟨by show 1 ≤ sizeLine; decide, fun p3 hp3 => ?_⟩
    have n3 : Ex [] H26 (upd H26 p3 (.lst [.str "zz9"])) := Ex.new hp3
    have r3 : Rep (wo B (upd H26 p3 (.lst [.str "zz9"]))) (ls ["zz9"]) (.ref p3) := Rep.ls.mpr ⟨p3, rfl, wo_of (d2'.not hp3) upd_same⟩
    generalize (upd H26 p3 (.lst [.str "zz9"])) = H27 at n3 r3 ⊢
    have d3' : Dom B H27 := d2'.ex n3
    have n13 := n1.trans (n2.trans n3)
    have ha27 := (n13.any (A := B)).old _ _ ha24
    refine ⟨_, rfl, _, rfl, pa, _, rfl, wo_at ha27, fun p4 hp4 => ?_⟩
    have ec : cutV (hs.map V.str) none (some 1) = (hs.take 1).map V.str := by
      rw [show (some (1 : Int)) = some ((1 : Nat) : Int) from rfl, cut_to, ← List.map_take]
    have hone : hs.take 1 = [hs.headD ""] := by
      cases hs with
      | nil => exact absurd (show 2 ≤ ([] : Lot).length by omega) (by decide)
      | cons z zs => rfl
    have hhm : hs.headD "" ∈ hs := by
      cases hs with
      | nil => exact absurd (show 2 ≤ ([] : Lot).length by omega) (by decide)
      | cons z zs => exact List.mem_cons_self ..
    have hat0 : atI (hs.map V.str) 0 = some (.str (hs.headD "")) := by
      refine atI_nat (j := 0) ?_
      cases hs with
      | nil => exact absurd (show 2 ≤ ([] : Lot).length by omega) (by decide)
      | cons z zs => rfl
    generalize hs.headD "" = h0 at hone hhm hat0
    rw [ec, hone]
    have n4 : Ex [] H27 (upd H27 p4 (.lst ([h0].map V.str))) := Ex.new hp4
    have r4 : (upd H27 p4 (.lst ([h0].map V.str))) p4 = some (.lst ([h0].map V.str)) := upd_same
    generalize (upd H27 p4 (.lst ([h0].map V.str))) = H28 at n4 r4 ⊢
    have d4 : Dom B H28 := d3'.ex n4
    refine ⟨p4, 2, _, rfl, rfl, r4, by decide, by decide, by show 1 * 2 ≤ sizeLine; decide, fun p5 hp5 => ?_⟩
    generalize hH5 : (upd H28 p5 (.lst (List.replicate (2 : Int).toNat ([h0].map V.str)).flatten)) = H29
    have n5 : Ex [] H28 H29 := by rw [← hH5]; exact Ex.new hp5
    have r5 : Rep (wo B H29) (ls [h0, h0]) (.ref p5) := by rw [← hH5]; exact Rep.ls.mpr ⟨p5, rfl, wo_of (d4.not hp5) upd_same⟩
    clear hH5
    have d5 : Dom B H29 := d4.ex n5
    intro p6 hp6
    have n6 : Ex [] H29 (upd H29 p6 (.dK [])) := Ex.new hp6
    have r6 : Rep (wo B (upd H29 p6 (.dK []))) (.dict []) (.ref p6) := ⟨p6, rfl, wo_of (d5.not hp6) upd_same⟩
    generalize (upd H29 p6 (.dK [])) = H30 at n6 r6 ⊢
    have d6 : Dom B H30 := d5.ex n6
    have n16 := n13.trans (n4.trans (n5.trans n6))
    have ha30 := (n16.any (A := B)).old _ _ ha24
    refine ⟨_, rfl, pa, _, _, _, rfl, rfl, wo_at ha30, hat0, by show 2 ≤ sizeLine; decide, fun p8 hp8 => ?_⟩
    have n8 : Ex [] H30 (upd H30 p8 (.lst [.str h0, .non])) := Ex.new hp8
    have r8 : Rep (wo B (upd H30 p8 (.lst [.str h0, .non]))) (.list [.str h0, .none]) (.ref p8) := ⟨p8, _, rfl, wo_of (d6.not hp8) upd_same, .cons rfl (.cons rfl .nil)⟩
    generalize (upd H30 p8 (.lst [.str h0, .non])) = H31 at n8 r8 ⊢
    have d8 : Dom B H31 := d6.ex n8
    refine ⟨by show 9 ≤ sizeLine; decide, fun p9 hp9 => ?_⟩
    have n9 : Ex [] H31 (upd H31 p9 (.lst [.ref p1, .ref p2, .non, .int 5, .str "a", .ref p3, .ref p5, .ref p6, .ref p8])) := Ex.new hp9
    have h9 : (upd H31 p9 (.lst [.ref p1, .ref p2, .non, .int 5, .str "a", .ref p3, .ref p5, .ref p6, .ref p8])) p9 = some (.lst [.ref p1, .ref p2, .non, .int 5, .str "a", .ref p3, .ref p5, .ref p6, .ref p8]) := upd_same
    generalize (upd H31 p9 (.lst [.ref p1, .ref p2, .non, .int 5, .str "a", .ref p3, .ref p5, .ref p6, .ref p8])) = H32 at n9 h9 ⊢
    have n19 := n16.trans (n8.trans n9)
    have rr9 : RepL (wo B H32) [ls [], .tuple [], .none, .int 5, .str "a", ls ["zz9"], ls [h0, h0], .dict [], .list [.str h0, .none]] [.ref p1, .ref p2, .non, .int 5, .str "a", .ref p3, .ref p5, .ref p6, .ref p8] := by
      have z9 := (n9.any (A := B)).old
      have z8 := ((n8.trans n9).any (A := B)).old
      have z6 := ((n6.trans (n8.trans n9)).any (A := B)).old
      have z3 := ((n4.trans (n5.trans (n6.trans (n8.trans n9)))).any (A := B)).old
      have z2 := ((n3.trans (n4.trans (n5.trans (n6.trans (n8.trans n9))))).any (A := B)).old
      have z1 := ((n2.trans (n3.trans (n4.trans (n5.trans (n6.trans (n8.trans n9)))))).any (A := B)).old
      exact .cons (r1.mono z1) (.cons (r2.mono z2) (.cons rfl (.cons rfl (.cons rfl (.cons (r3.mono z3) (.cons (r5.mono z6) (.cons (r6.mono z8) (.cons (r8.mono z9) .nil))))))))
    have dB32 : Dom B H32 := d8.ex n9
    have st32 := st24.ex n19
    refine ⟨Ds, p9, acc, _, rfl, rfl, n19.at hacc, h9, by rw [hal]; show 5 + 9 ≤ sizeLine; decide, fun p10 hp10 => ?_⟩
    have n10 : Ex [] H32 (upd H32 p10 (.lst (acc ++ [.ref p1, .ref p2, .non, .int 5, .str "a", .ref p3, .ref p5, .ref p6, .ref p8]))) := Ex.new hp10
    have h10 : (upd H32 p10 (.lst (acc ++ [.ref p1, .ref p2, .non, .int 5, .str "a", .ref p3, .ref p5, .ref p6, .ref p8]))) p10 = some (.lst (acc ++ [.ref p1, .ref p2, .non, .int 5, .str "a", .ref p3, .ref p5, .ref p6, .ref p8])) := upd_same
    generalize (upd H32 p10 (.lst (acc ++ [.ref p1, .ref p2, .non, .int 5, .str "a", .ref p3, .ref p5, .ref p6, .ref p8]))) = H33 at n10 h10 ⊢
    have e2433 := n19.trans n10
    have rAll := (rDs.mono (e2433.any (A := B)).old).app (rr9.mono (n10.any (A := B)).old)
    have thgs : ∀ d ∈ zss.map ls ++ [ls [], .tuple [], .none, .int 5, .str "a", ls ["zz9"], ls [h0, h0], .dict [], .list [.str h0, .none]], Thing d := fun d hd => by
      rcases List.mem_append.1 hd with hd | hd
      · obtain ⟨zs, hz, rfl⟩ := List.mem_map.mp hd
        exact thing_ls (Nat.le_trans (hzs zs hz).1 (by decide)) (hzs zs hz).2
      · have nm := hok h0 hhm
        simp only [List.mem_cons, List.not_mem_nil, or_false] at hd
        rcases hd with q | q | q | q | q | q | q | q | q <;> rw [q]
        · exact thing_ls (by decide) fun z hz => by cases hz
        · exact ⟨Nat.zero_le _, fun y hy => by cases hy⟩
        · exact thing_no rfl
        · exact thing_no rfl
        · exact thing_no rfl
        · exact thing_ls (by decide) fun z hz => by rw [List.mem_singleton.mp hz]; decide +kernel
        · exact thing_ls (by show 2 ≤ 12; decide) fun z hz => by
            rcases List.mem_cons.1 hz with q | hz
            · rw [q]; exact nm
            · rw [List.mem_singleton.mp hz]; exact nm
        · exact thing_no rfl
        · exact ⟨by show 2 ≤ 12; decide, fun y hy => by
            rcases List.mem_cons.mp (show y ∈ [PyData.str h0, .none] from hy) with q | hy
            · rw [q]; exact .inr ⟨h0, rfl, nm⟩
            · rw [List.mem_singleton.mp hy]; exact .inl rfl⟩
    have hl14 : (acc ++ [.ref p1, .ref p2, .non, .int 5, .str "a", .ref p3, .ref p5, .ref p6, .ref p8] : List V).length = 14 := by rw [List.length_append, hal]; rfl
    generalize (acc ++ [.ref p1, .ref p2, .non, .int 5, .str "a", .ref p3, .ref p5, .ref p6, .ref p8] : List V) = accs at h10 rAll hl14
    generalize zss.map ls ++ [ls [], .tuple [], .none, .int 5, .str "a", ls ["zz9"], ls [h0, h0], .dict [], .list [.str h0, .none]] = dss at rAll thgs
    have s2433 := (e2433.any (A := B)).old
    have p10S := st32.ne hp10
    have dB33 : Dom B H33 := dB32.ex n10
    have st33 := st32.ex n10
    have hT33 := e2433.tab hT24
    have hS33 := hS24.mono s2433
    have rv33 := rv24.mono s2433
    have ha33 := s2433 _ _ ha24
    have r33 := r24.mono s2433
    clear s2433 e2433 n10 hp10 rr9 n19 n9 h9 hp9 n8 r8 hp8 ha30 n16 n6 r6 hp6 n5 r5 hp5 n4 r4 hp4 ec hone hat0 hhm ha27 n13 n3 r3 hp3 n2 r2 hp2 n1 r1 hp1 d1 d2' d3' d4 d5 d6 d8 dB32 st32 dB24 rDs hacc hT24 hS24 rv24 ha24 r24 st24 hzl hzs hal
    refine ⟨p10, _, rfl, .inl h10, fun J Ok Sr hOk => for_src Sr (fun j σ H' => ∃ y5 y11 y12 y15, σ = [some (.ref a), some (.ref S), some (.int (0 + (i : Nat))), some (.ref pa), some (.ref av), y5, some (.ref D), some (.ref p7), some (.ref x), some v9, some (.ref Ds), y11, y12, y13, y14, y15] ∧ Ex [S, L] H33 H' ∧ Strm H' S L (n0 + 305 + 51 * j))
      ⟨_, _, _, _, rfl, Ex.refl _ _, st33.le (by omega)⟩ (fun j σ H' _ h => hOk H' (by obtain ⟨_, _, _, _, _, e, _⟩ := h; rw [h10, e.get2 p10S.1 p10S.2 h10])) ?_ ?_⟩
    · rintro j y σ H35 H34 hj ⟨y5, y11, y12, y15, rfl, e34, st34⟩ ⟨rfl, hy⟩
      have hj : j < 14 := by rw [← hl14]; exact hj
      have e34B := e34.of2 mS mL
      obtain ⟨dt, hdt, rt⟩ := (rAll.mono e34B.old).get hy
      have th := thgs dt (List.mem_of_getElem? hdt)
      have dB34 : Dom B H34 := dB33.ex e34
      have hS34 := hS33.mono e34B.old
      have ha34 := e34B.old _ _ ha33
      have r34 := r33.mono e34B.old
      refine ⟨_, rfl, by show 2 ≤ sizeLine; decide, fun q hq => ?_⟩
      have n1 : Ex [] H34 (upd H34 q (.tup [.ty "list", .ty "tuple"])) := Ex.new hq
      refine ⟨y, q, [.ty "list", .ty "tuple"], _, [.type "list", .type "tuple"], _, rfl, upd_same, .cons (.ty _) (.cons (.ty _) .nil), (rt.mono (n1.any (A := B)).old).ty, kit_isL dt, _, rfl, ?_⟩
      generalize (upd H34 q (.tup [.ty "list", .ty "tuple"])) = H36 at n1 ⊢
      rcases Bool.eq_false_or_eq_true (isL dt) with hd | hd
      · refine iteT' hd ?_
        obtain ⟨c, vs, rfl, hO, rL⟩ := seq_of_isL (rt.mono (n1.any (A := B)).old) hd
        have hfew := th.few
        have hvl := rL.len
        refine ⟨_, rfl, c, vs, rfl, seqAt_of hO, fun J Ok Sr hOk => lc_map Sr (A := B) (itemsD dt) (fun _ => true) (fun d => .bool (inB hs d)) hvl.symm (dB34.ex n1) (by omega) (fun H' s => hOk H' (seqAt_same hO s)) ?_ ?_⟩
        · rintro i2 dx2 x2 A1 H1' H2' Kt Kf hdx hA d1 s1 e1 ⟨rfl, hx⟩ kt kf
          obtain ⟨dx', hdx', rx⟩ := rL.get hx
          obtain rfl : dx' = dx2 := Option.some.inj (hdx'.symm.trans hdx)
          obtain ⟨f1, f2⟩ := in_flat (hs := hs) rx (th.flat dx' (List.mem_of_getElem? hdx))
          refine ⟨rfl, _, rfl, _, rfl, pa, hs.map V.str, rfl, .inl (wo_at (s1 _ _ ((n1.any (A := B)).old _ _ ha34))), f1, flat_strs, ?_⟩
          rw [f2]
          exact kt rfl _ _ (Ex.refl _ _) rfl
        · intro D4 H37 hD4 e37 r37
          refine ⟨D4, _, rfl, bl_fin r37, _, rfl, _, rfl, ?_⟩
          rcases Bool.eq_false_or_eq_true (((itemsD dt).map (inB hs)).all id) with hal | hal
          · refine iteT' hal ?_
            obtain ⟨zs, ez, hz⟩ := all_in hal
            have hO37 := seqAt_ex hO (e37.any (A := B)).old
            rw [ez] at rL
            obtain rfl := RepL.strs.mp rL
            have hzl : zs.length ≤ 12 := by rw [ez, List.length_map] at hfew; exact hfew
            refine ⟨_, rfl, c, _, rfl, seqAt_of hO37, fun l hl => ?_⟩
            have n2 : Ex [] H37 (upd H37 l (.lst (zs.map V.str))) := Ex.new hl
            have e3437 := n1.trans e37
            have dB37 : Dom B H37 := dB34.ex e3437
            refine ⟨B, zs.map .str, .ref l, dB37.ex n2, rfl, Rep.ls.mpr ⟨l, rfl, wo_of (dB37.not hl) upd_same⟩, fun d hd => ?_, by rw [List.length_map]; omega, fun v12 H38 e38 r38 => ?_⟩
            · obtain ⟨z, hz2, rfl⟩ := List.mem_map.mp hd
              exact good_str (okHs.lot hok z (hz z hz2))
            have e3438 := e3437.trans (n2.trans e38)
            have hO38 := seqAt_ex hO ((e37.trans (n2.trans e38)).any (A := B)).old
            obtain ⟨l2, ws2, rfl, hl2, rws⟩ := r38
            refine ⟨l2, ws2, rfl, .inl (wo_at hl2), _, rfl, c, _, rfl, seqAt_of hO38, rfl, _, rfl, _, rfl, ?_⟩
            have hdec : decide (V.int (ws2.length : Nat) = V.int ((zs.map V.str).length : Nat)) = decide zs.Nodup := by
              rw [rws.len, List.length_map]
              refine decide_eq_decide.mpr ⟨fun e => (onceD_strs zs).mp (by injection e; omega), fun e => by rw [(onceD_strs zs).mpr e]⟩
            by_cases nd : zs.Nodup
            · refine iteT' (hdec.trans (decide_eq_true nd)) ?_
              have dB38 : Dom B H38 := dB34.ex e3438
              have r38 := r34.mono (e3438.any (A := B)).old
              obtain ⟨a9, gvs, rfl, h9, rg⟩ := r38
              have hgl : gvs.length = (og bs).length := by rw [rg.len, List.length_map]
              refine ⟨_, rfl, a9, gvs, rfl, .inl (wo_at h9), fun J Ok Sr hOk => lc_map Sr (A := B) (og bs) (fun _ => true) (fun g => .bool (liesB zs g)) hgl.symm dB38 (by omega) (fun H' s => hOk H' (seqAt_same (.inl h9) s)) ?_ ?_⟩
              · rintro i2 g x2 A1 H1' H2' Kt Kf hg hA d1 s1 e1 ⟨rfl, hx⟩ kt kf
                obtain ⟨dx', hdx', rx⟩ := rg.get hx
                rw [List.getElem?_map, hg] at hdx'
                cases hdx'
                obtain ⟨c2, rfl, hc2⟩ := Rep.ls.mp (rx.mono s1)
                exact ⟨rfl, _, rfl, _, rfl, A1, c, c2, zs, g, d1, rfl, seqAt_sub hO38 s1, hc2, by omega, fun H3 e3 => kt rfl _ _ e3 rfl⟩
              · intro D5 H39 hD5 e39 r39
                refine ⟨D5, _, rfl, bl_fin r39, ?_⟩
                have hb : bandB (og bs) dt (srt hs) = ((og bs).map fun g => liesB zs g).any id := by rw [band_strs hd ez hz hok, decide_eq_true nd, Bool.true_and]
                have EE : Ex [] H34 H39 := e3438.trans e39
                have hSx := hS34.mono (EE.any (A := B)).old
                obtain ⟨dsx, ahx, abx, hxx, _, _⟩ := id hSx
                refine ⟨_, rfl, x, _, _, rfl, wo_at hxx, rfl, _, rfl, _, rfl, B, S, L, _, dt, _, dB34.ex EE, mS, mL, rfl, st34.ex EE, (by show _ + 51 ≤ 1000000000; omega), rt.mono (EE.any (A := B)).old, thing_sized th, fun d' v' H40 hlo e40 st40 r40 => ?_⟩
                obtain ⟨hbl, tl⟩ := band_loose (gs := og bs) (hs := srt hs) hlo th
                have EL : Ex B H34 H40 := EE.any.trans (e40.of2 mS mL)
                have dB40 : Dom B H40 := dB34.ex EL
                refine ⟨B, d', v', x, _, _, dB40, rfl, hS34.mono EL.old, by show (og bs).length ≤ 1000; omega, r40, tl, fun H41 e41 => ⟨by show 1 ≤ sizeLine; decide, fun q1 hq1 => ⟨_, rfl, by show 1 ≤ sizeLine; decide, fun q2 hq2 => ?_⟩⟩⟩
                have m1 : Ex [] H41 _ := Ex.new (o := .lst [.bl (bandB (og bs) d' (srt hs))]) hq1
                have m2 : Ex [] _ _ := Ex.new (o := .lst [.bl (((og bs).map fun g => liesB zs g).any id)]) hq2
                have dB41 : Dom B H41 := dB40.ex e41
                refine ⟨B, .list [.bool (((og bs).map fun g => liesB zs g).any id)], .ref q1, .ref q2, (dB41.ex m1).ex m2, rfl, ⟨q1, _, rfl, wo_of (dB41.not hq1) (m2.at upd_same), .cons (show V.bl _ = V.bl _ by rw [hbl, hb]) .nil⟩, ⟨q2, _, rfl, wo_of ((dB41.ex m1).not hq2) upd_same, .cons rfl .nil⟩, rfl, ⟨by show 1 ≤ 1000; decide, fun y hy => by rw [List.mem_singleton.mp (show y ∈ [PyData.bool (((og bs).map fun g => liesB zs g).any id)] from hy)]; exact sized_up (sized_up (sized_up rfl))⟩, fun H42 e42 => ⟨_, rfl, iteF' rfl ⟨_, _, _, _, rfl, ?_, ?_⟩⟩⟩
                · exact (e34.trans EE.any).trans (e40.trans (e41.trans (m1.trans (m2.trans e42))).any)
                · exact (st40.ex (e41.trans (m1.trans (m2.trans e42)))).le (by show _ + 51 ≤ _; omega)
            · refine iteF' (hdec.trans (decide_eq_false nd)) ?_
              have hb : bandB (og bs) dt (srt hs) = false := by rw [band_strs hd ez hz hok, decide_eq_false nd, Bool.false_and]
              have EE : Ex [] H34 H38 := e3438
              have hSx := hS34.mono (EE.any (A := B)).old
              obtain ⟨dsx, ahx, abx, hxx, _, _⟩ := id hSx
              refine ⟨_, rfl, x, _, _, rfl, wo_at hxx, rfl, _, rfl, _, rfl, B, S, L, _, dt, _, dB34.ex EE, mS, mL, rfl, st34.ex EE, (by show _ + 51 ≤ 1000000000; omega), rt.mono (EE.any (A := B)).old, thing_sized th, fun d' v' H40 hlo e40 st40 r40 => ?_⟩
              obtain ⟨hbl, tl⟩ := band_loose (gs := og bs) (hs := srt hs) hlo th
              have EL : Ex B H34 H40 := EE.any.trans (e40.of2 mS mL)
              have dB40 : Dom B H40 := dB34.ex EL
              refine ⟨B, d', v', x, _, _, dB40, rfl, hS34.mono EL.old, by show (og bs).length ≤ 1000; omega, r40, tl, fun H41 e41 => ⟨by show 1 ≤ sizeLine; decide, fun q1 hq1 => ⟨_, rfl, by show 1 ≤ sizeLine; decide, fun q2 hq2 => ?_⟩⟩⟩
              have m1 : Ex [] H41 _ := Ex.new (o := .lst [.bl (bandB (og bs) d' (srt hs))]) hq1
              have m2 : Ex [] _ _ := Ex.new (o := .lst [.bl (false)]) hq2
              have dB41 : Dom B H41 := dB40.ex e41
              refine ⟨B, .list [.bool (false)], .ref q1, .ref q2, (dB41.ex m1).ex m2, rfl, ⟨q1, _, rfl, wo_of (dB41.not hq1) (m2.at upd_same), .cons (show V.bl _ = V.bl _ by rw [hbl, hb]) .nil⟩, ⟨q2, _, rfl, wo_of ((dB41.ex m1).not hq2) upd_same, .cons rfl .nil⟩, rfl, ⟨by show 1 ≤ 1000; decide, fun y hy => by rw [List.mem_singleton.mp (show y ∈ [PyData.bool (false)] from hy)]; exact sized_up (sized_up (sized_up rfl))⟩, fun H42 e42 => ⟨_, rfl, iteF' rfl ⟨_, _, _, _, rfl, ?_, ?_⟩⟩⟩
              · exact (e34.trans EE.any).trans (e40.trans (e41.trans (m1.trans (m2.trans e42))).any)
              · exact (st40.ex (e41.trans (m1.trans (m2.trans e42)))).le (by show _ + 51 ≤ _; omega)
          · refine iteF' hal ⟨_, rfl, _, rfl, iteF' rfl ?_⟩
            have hb : bandB (og bs) dt (srt hs) = false := band_notin hal
            have EE : Ex [] H34 H37 := n1.trans e37
            have hSx := hS34.mono (EE.any (A := B)).old
            obtain ⟨dsx, ahx, abx, hxx, _, _⟩ := id hSx
            refine ⟨_, rfl, x, _, _, rfl, wo_at hxx, rfl, _, rfl, _, rfl, B, S, L, _, dt, _, dB34.ex EE, mS, mL, rfl, st34.ex EE, (by show _ + 51 ≤ 1000000000; omega), rt.mono (EE.any (A := B)).old, thing_sized th, fun d' v' H40 hlo e40 st40 r40 => ?_⟩
            obtain ⟨hbl, tl⟩ := band_loose (gs := og bs) (hs := srt hs) hlo th
            have EL : Ex B H34 H40 := EE.any.trans (e40.of2 mS mL)
            have dB40 : Dom B H40 := dB34.ex EL
            refine ⟨B, d', v', x, _, _, dB40, rfl, hS34.mono EL.old, by show (og bs).length ≤ 1000; omega, r40, tl, fun H41 e41 => ⟨by show 1 ≤ sizeLine; decide, fun q1 hq1 => ⟨_, rfl, by show 1 ≤ sizeLine; decide, fun q2 hq2 => ?_⟩⟩⟩
            have m1 : Ex [] H41 _ := Ex.new (o := .lst [.bl (bandB (og bs) d' (srt hs))]) hq1
            have m2 : Ex [] _ _ := Ex.new (o := .lst [.bl (false)]) hq2
            have dB41 : Dom B H41 := dB40.ex e41
            refine ⟨B, .list [.bool (false)], .ref q1, .ref q2, (dB41.ex m1).ex m2, rfl, ⟨q1, _, rfl, wo_of (dB41.not hq1) (m2.at upd_same), .cons (show V.bl _ = V.bl _ by rw [hbl, hb]) .nil⟩, ⟨q2, _, rfl, wo_of ((dB41.ex m1).not hq2) upd_same, .cons rfl .nil⟩, rfl, ⟨by show 1 ≤ 1000; decide, fun y hy => by rw [List.mem_singleton.mp (show y ∈ [PyData.bool (false)] from hy)]; exact sized_up (sized_up (sized_up rfl))⟩, fun H42 e42 => ⟨_, rfl, iteF' rfl ⟨_, _, _, _, rfl, ?_, ?_⟩⟩⟩
            · exact (e34.trans EE.any).trans (e40.trans (e41.trans (m1.trans (m2.trans e42))).any)
            · exact (st40.ex (e41.trans (m1.trans (m2.trans e42)))).le (by show _ + 51 ≤ _; omega)
      · refine iteF' hd ⟨_, rfl, _, rfl, iteF' rfl ⟨_, rfl, _, rfl, iteF' rfl ?_⟩⟩
        have hb : bandB (og bs) dt (srt hs) = false := band_noL hd
        have EE : Ex [] H34 H36 := n1
        have hSx := hS34.mono (EE.any (A := B)).old
        obtain ⟨dsx, ahx, abx, hxx, _, _⟩ := id hSx
        refine ⟨_, rfl, x, _, _, rfl, wo_at hxx, rfl, _, rfl, _, rfl, B, S, L, _, dt, _, dB34.ex EE, mS, mL, rfl, st34.ex EE, (by show _ + 51 ≤ 1000000000; omega), rt.mono (EE.any (A := B)).old, thing_sized th, fun d' v' H40 hlo e40 st40 r40 => ?_⟩
        obtain ⟨hbl, tl⟩ := band_loose (gs := og bs) (hs := srt hs) hlo th
        have EL : Ex B H34 H40 := EE.any.trans (e40.of2 mS mL)
        have dB40 : Dom B H40 := dB34.ex EL
        refine ⟨B, d', v', x, _, _, dB40, rfl, hS34.mono EL.old, by show (og bs).length ≤ 1000; omega, r40, tl, fun H41 e41 => ⟨by show 1 ≤ sizeLine; decide, fun q1 hq1 => ⟨_, rfl, by show 1 ≤ sizeLine; decide, fun q2 hq2 => ?_⟩⟩⟩
        have m1 : Ex [] H41 _ := Ex.new (o := .lst [.bl (bandB (og bs) d' (srt hs))]) hq1
        have m2 : Ex [] _ _ := Ex.new (o := .lst [.bl (false)]) hq2
        have dB41 : Dom B H41 := dB40.ex e41
        refine ⟨B, .list [.bool (false)], .ref q1, .ref q2, (dB41.ex m1).ex m2, rfl, ⟨q1, _, rfl, wo_of (dB41.not hq1) (m2.at upd_same), .cons (show V.bl _ = V.bl _ by rw [hbl, hb]) .nil⟩, ⟨q2, _, rfl, wo_of ((dB41.ex m1).not hq2) upd_same, .cons rfl .nil⟩, rfl, ⟨by show 1 ≤ 1000; decide, fun y hy => by rw [List.mem_singleton.mp (show y ∈ [PyData.bool (false)] from hy)]; exact sized_up (sized_up (sized_up rfl))⟩, fun H42 e42 => ⟨_, rfl, iteF' rfl ⟨_, _, _, _, rfl, ?_, ?_⟩⟩⟩
        · exact (e34.trans EE.any).trans (e40.trans (e41.trans (m1.trans (m2.trans e42))).any)
        · exact (st40.ex (e41.trans (m1.trans (m2.trans e42)))).le (by show _ + 51 ≤ _; omega)
    rintro σ H34 ⟨y5, y11', y12', y15', rfl, e34, st34⟩
    have e34B := e34.of2 mS mL
    have st34 : Strm H34 S L (n0 + 1100) := st34.le (by rw [hl14]; omega)
    have dB34 : Dom B H34 := dB33.ex e34
    have hT34 := e34.tab hT33
    have hS34 := hS33.mono e34B.old
    have rv34 := rv33.mono e34B.old
    have ha34 := e34B.old _ _ ha33
    have r34 := r33.mono e34B.old
    clear e34B e34 hOk Sr r33 ha33 rv33 hS33 hT33 st33 dB33 p10S thgs rAll h10 hl14
    -- other lists
    refine ⟨_, rfl, _, rfl, B, S, L, pa, _, hs, dB34, mS, mL, rfl, st34, by omega, ha34, by omega, by omega, hnd, fun vo os H35 hLo e35 st35 ro35 => ?_⟩
    have e35B := e35.of2 mS mL
    have dB35 := dB34.ex e35
    have hT35 := e35.tab hT34
    have hS35 := hS34.mono e35B.old
    have rv35 := rv34.mono e35B.old
    have ha35 := e35B.old _ _ ha34
    have r35 := r34.mono e35B.old
    clear e35B e35 r34 ha34 rv34 hS34 hT34 dB34 st34
    -- hands in another order, with the bands
    refine ⟨_, rfl, _, rfl, pa, _, rfl, SqL.of (wo_at ha35), fun p11 hp11 => ?_⟩
    have n1 : Ex [] H35 (upd H35 p11 (.lst (hs.map V.str).reverse)) := Ex.new hp11
    have r11 : Rep (wo B (upd H35 p11 (.lst (hs.map V.str).reverse))) (ls hs.reverse) (.ref p11) := Rep.ls.mpr ⟨p11, rfl, wo_of (dB35.not hp11) (by rw [upd_same, List.map_reverse])⟩
    generalize (upd H35 p11 (.lst (hs.map V.str).reverse)) = H36 at n1 r11 ⊢
    have okR : okHs hs.reverse := fun z hz => hok z (List.mem_reverse.mp hz)
    have ndR : hs.reverse.Nodup := (List.reverse_perm hs).nodup_iff.mpr hnd
    have lR : hs.reverse.length = hs.length := List.length_reverse ..
    refine ⟨_, rfl, fun x2 dx2 hx2 hdx2 hne2 => init_ok (A := B) (B := B) (zs := hs.reverse) (cs := og bs) (dB35.ex n1) (dB35.ex n1) hx2 hdx2 hne2 r11 (r35.mono (n1.any (A := B)).old) (n1.tab hT35) (chk_okl okR ndR (by omega)) (tiny_strs rfl (by omega) okR) (lotItems_lls _) okR (fun c hc => (og_of hL c hc).1) (fun c hc z hz => List.mem_reverse.mpr ((og_of hL c hc).2.1 z hz)) (by omega) (by omega) (fun H37 e37 hS37 => ⟨rfl, ?_⟩)⟩
    rw [srt_of_perm (List.reverse_perm hs), og_og hL] at hS37
    have e3537 := n1.trans e37
    have s3537 := (e3537.any (A := B)).old
    refine own_eq (hS35.mono s3537) hS37 okS okG okS okG ⟨_, rfl, iteF' (by simp) ?_⟩
    have st37 := st35.ex e3537
    have dB37 := dB35.ex e3537
    have hT37 := e3537.tab hT35
    have hS37' := hS35.mono s3537
    have rv37 := rv35.mono s3537
    have ha37 := s3537 _ _ ha35
    have r37 := r35.mono s3537
    have ro37 := ro35.mono s3537
    clear s3537 e3537 hS37 e37 hx2 hdx2 hne2 r11 n1 hp11 ro35 r35 ha35 rv35 hS35 hT35 dB35 st35
    -- no stops
    obtain ⟨a9, gvs, rfl, h9, rg⟩ := id r37
    refine ⟨_, rfl, _, rfl, own_eqL hS37' (wo_at h9) okS okG ⟨_, rfl, iteF' rfl ?_⟩⟩
    -- other hands
    refine ⟨_, rfl, by show 1 ≤ sizeLine; decide, fun p12 hp12 => ?_⟩
    have n1 : Ex [] H37 (upd H37 p12 (.lst [.str "q7"])) := Ex.new hp12
    have k12 : (upd H37 p12 (.lst [.str "q7"])) p12 = some (.lst [.str "q7"]) := upd_same
    generalize (upd H37 p12 (.lst [.str "q7"])) = H38 at n1 k12 ⊢
    refine ⟨_, rfl, _, rfl, pa, _, rfl, n1.at (wo_at ha37), fun p13 hp13 => ?_⟩
    have er : cutV (hs.map V.str) (some 1) none = (hs.drop 1).map V.str := by
      rw [show (some (1 : Int)) = some ((1 : Nat) : Int) from rfl, cut_from, List.map_drop]
    rw [er]
    have n2 : Ex [] H38 (upd H38 p13 (.lst ((hs.drop 1).map V.str))) := Ex.new hp13
    have k13 : (upd H38 p13 (.lst ((hs.drop 1).map V.str))) p13 = some (.lst ((hs.drop 1).map V.str)) := upd_same
    generalize (upd H38 p13 (.lst ((hs.drop 1).map V.str))) = H39 at n2 k13 ⊢
    have hdl : (hs.drop 1).length = hs.length - 1 := List.length_drop ..
    refine ⟨p12, p13, _, _, rfl, rfl, n2.at k12, k13, Nat.le_trans (show ([.str "q7"] : List V).length + ((hs.drop 1).map V.str).length ≤ 20 by rw [List.length_map]; show 1 + _ ≤ 20; omega) (by decide), fun p14 hp14 => ?_⟩
    have n3 : Ex [] H39 (upd H39 p14 (.lst ([.str "q7"] ++ (hs.drop 1).map V.str))) := Ex.new hp14
    have k14 : (upd H39 p14 (.lst ([.str "q7"] ++ (hs.drop 1).map V.str))) p14 = some (.lst ((("q7" : Str) :: hs.drop 1).map V.str)) := upd_same
    generalize (upd H39 p14 (.lst ([.str "q7"] ++ (hs.drop 1).map V.str))) = H40 at n3 k14 ⊢
    have n13 := n1.trans (n2.trans n3)
    have dB40 : Dom B H40 := dB37.ex n13
    have np14 : p14 ∉ B := (dB37.ex (n1.trans n2)).not hp14
    refine ⟨by show 0 ≤ sizeLine; decide, fun p15 hp15 => ?_⟩
    have n4 : Ex [] H40 (upd H40 p15 (.lst [])) := Ex.new hp15
    have r15 : Rep (wo B (upd H40 p15 (.lst []))) (lls []) (.ref p15) := ⟨p15, _, rfl, wo_of (dB40.not hp15) upd_same, .nil⟩
    generalize (upd H40 p15 (.lst [])) = H41 at n4 r15 ⊢
    have okQ : okHs ("q7" :: hs.drop 1) := fun z hz => by
      rcases List.mem_cons.1 hz with q | hz
      · rw [q]; exact nm_q7
      · exact hok z (List.mem_of_mem_drop hz)
    have ndQ : (("q7" : Str) :: hs.drop 1).Nodup := List.nodup_cons.mpr ⟨fun z => six_q7 (hsix _ (List.mem_of_mem_drop z)), hnd.sublist (List.drop_sublist _ _)⟩
    have lQ : (("q7" : Str) :: hs.drop 1).length = hs.length := by rw [List.length_cons]; omega
    have r14 : Rep (wo B H41) (ls ("q7" :: hs.drop 1)) (.ref p14) := Rep.ls.mpr ⟨p14, rfl, wo_of np14 (n4.at k14)⟩
    have n14 := n13.trans n4
    have dB41 : Dom B H41 := dB37.ex n14
    refine fun x3 dx3 hx3 hdx3 hne3 => init_ok (A := B) (B := B) (zs := "q7" :: hs.drop 1) (cs := []) dB41 dB41 hx3 hdx3 hne3 r14 r15 (n14.tab hT37) (chk_okl okQ ndQ (by omega)) (tiny_strs rfl (by omega) okQ) (lotItems_lls []) okQ (fun c hc => by cases hc) (fun c hc => by cases hc) (by omega) (Nat.zero_le _) (fun H42 e42 hS42 => ⟨rfl, ?_⟩)
    have okSQ : okLot (srt ("q7" :: hs.drop 1)) := fun z hz => okHs.lot okQ z (mem_srt.mp hz)
    have okE : ∀ g ∈ og [], okLot g := fun g hg => by
      rcases List.mem_cons.mp (mem_great.mp hg).1 with q | q
      · rw [q]; exact fun z hz => by cases hz
      · cases q
    have e42' := n14.trans e42
    have s42 := (e42'.any (A := B)).old
    refine own_eq (hS37'.mono s42) hS42 okS okG okSQ okE ⟨_, rfl, iteF' (by simp [q7_ne hsix]) ?_⟩
    have st42 := st37.ex e42'
    have dB42 := dB37.ex e42'
    have hT42 := e42'.tab hT37
    have hS42' := hS37'.mono s42
    have rv42 := rv37.mono s42
    have ha42 := s42 _ _ ha37
    have r42 := r37.mono s42
    have ro42 := ro37.mono s42
    clear s42 e42' okE okSQ hS42 e42 hx3 hdx3 hne3 dB41 n14 r14 lQ ndQ okQ r15 n4 hp15 np14 dB40 n13 k14 n3 hp14 hdl k13 n2 hp13 er k12 n1 hp12 h9 rg r37 ro37 ha37 rv37 hS37' hT37 dB37 st37
    -- other bands
    have hoL : Lots os := ⟨fun b hb => okHs.lot fun z hz => hok z (hLo.sub b hb z hz), fun b hb => Nat.le_trans (nodup_len (hLo.nd b hb) (hLo.sub b hb)) (by omega)⟩
    have ho10 := hLo.len
    have okO : ∀ g ∈ og os, okLot g := fun g hg z hz => okHs.lot hok z ((og_of hLo g hg).2.1 z hz)
    refine ⟨_, rfl, _, rfl, _, rfl, fun x4 dx4 hx4 hdx4 hne4 => init_ok (A := B) (B := B) (zs := hs) (cs := os) dB42 dB42 hx4 hdx4 hne4 (Rep.ls.mpr ⟨pa, rfl, ha42⟩) ro42 hT42 (chk_okl hok hnd (by omega)) (tiny_strs rfl (by omega) hok) (lotItems_lls _) hok hLo.nd hLo.sub (by omega) (by omega) (fun H43 e43 hS43 => ⟨rfl, ?_⟩)⟩
    have s43 := (e43.any (A := B)).old
    have dB43 := dB42.ex e43
    refine own_eq (hS42'.mono s43) hS43 okS okG okS okO ?_
    refine ⟨_, rfl, B, os, vo, dB43, rfl, ro42.mono s43, hoL, by omega, fun v5 H44 e44 r44 => ⟨_, rfl, _, _, datAt_lls r44 okO, datAt_lls ((r42.mono s43).mono (e44.any (A := B)).old) okG, ?_⟩⟩
    refine ⟨rfl, _, rfl, iteF' ?_ ?_⟩
    · rw [eqv_lls]
      simp [eq_comm]
    have e4244 := e43.trans e44
    have s44 := (e4244.any (A := B)).old
    have st44 := st42.ex e4244
    have dB44 := dB42.ex e4244
    have hT44 := e4244.tab hT42
    have hS44 := hS42'.mono s44
    have rv44 := rv42.mono s44
    have ha44 := s44 _ _ ha42
    have r44' := r42.mono s44
    clear s44 e4244 r44 e44 dB43 s43 hS43 e43 hx4 hdx4 hne4 ro42 r42 ha42 rv42 hS42' hT42 dB42 st42
    -- pairs
    refine ⟨_, rfl, _, rfl, pa, hs, rfl, .inl (wo_at ha44), fun p16 hp16 => ?_⟩
    have n1 : Ex [] H44 (upd H44 p16 (.lst ((srt hs).map V.str))) := Ex.new hp16
    have k16 : wo B (upd H44 p16 (.lst ((srt hs).map V.str))) p16 = some (.lst ((srt hs).map V.str)) := wo_of (dB44.not hp16) upd_same
    generalize (upd H44 p16 (.lst ((srt hs).map V.str))) = H45 at n1 k16 ⊢
    have s1 := (n1.any (A := B)).old
    refine ⟨_, rfl, B, x, p16, srt hs, og bs, _, dB44.ex n1, rfl, hS44.mono s1, k16, r44'.mono s1, fun z hz => hok z (mem_srt.mp hz), (srt_perm hs).nodup_iff.mpr hnd, by rw [len_srt]; omega, by rw [len_srt]; omega, by omega, fun g hg => Nat.le_trans (gl6 g hg) (by decide), fun H46 e46 => ⟨_, rfl, iteF' rfl ?_⟩⟩
    have e4446 := n1.trans e46
    have s46 := (e4446.any (A := B)).old
    -- what is refused
    refine ⟨_, rfl, _, rfl, _, rfl, _, rfl, B, S, L, x, pa, _, hs, bs, og bs, .ref av, dB44.ex e4446, mS, mL, rfl, st44.ex e4446, by omega, hS44.mono s46, s46 _ _ ha44, rv44.mono s46, hL, hok, hnd, by omega, by omega, hsix, by omega, fun g hg => Nat.le_trans (gl6 g hg) (by decide), e4446.tab hT44, fun H47 e47 st47 => ⟨_, rfl, iteF' rfl ⟨_, _, _, _, _, _, _, _, _, _, _, _, _, _, rfl, st47.le (by omega), e47.tab (e4446.tab hT44)⟩⟩⟩
end
end K70
end
section
set_option maxHeartbeats 4000000
namespace K70
open PySem PySem.Spec PyProof.Rows L2
/-- the two tables -/
@[reducible] def tbsOf (K : PySem.W.Frag) : Tbs := ⟨[((He.cT K ("greatest_of", none)).2, (("greatest_of" : Str) ++ ".<locals>.") ++ "<lambda>"), ((He.cT K ("_law_refused_right", none)).2, (("_law_refused_right" : Str) ++ ".<locals>.") ++ "<lambda>")]⟩
theorem law_at {w : World} {mg : Str → Option Value} {fa : Addr} {h : Heap} (Y : hk0.says w h) (G : h.Ns mainGlobals mg) (hm : mg "law" = some (.ref fa)) : ∃ K : PySem.W.Frag, K.In h ∧ LamX.LawAtS PySem.Challenge.rw_breakplans_k70_whole_who_may_stop w K C8.CX0 14 63 "_law_script" mg fa h := by
  obtain ⟨K, X, c⟩ := Y
  letI : Tbs := tbsOf K
  have gl := He.glo_ok X G (show (He.Fa.glo "law").ok K = true from c.t.d.fact 33 rfl)
  have efa : fa = He.ga K "law" := by
    rw [hm] at gl
    exact Value.ref.inj (Option.some.inj gl)
  obtain ⟨fd, q⟩ := c.t.d.def_ 42 (show fns[42]? = some dd_law from rfl)
  have efd := FunD.fd q
  subst efd
  refine ⟨K, X, fdOf K (He.ga K "law"), [He.cT K ("greatest_of", none), He.cT K ("_law_refused_right", none)], @spLaw (tbsOf K) K, ?_, ?_, ?_, ?_, ?_, ?_⟩
  · intro p hp
    rcases List.mem_cons.1 hp with z | hp
    · rw [z]; exact c.empty _ (List.mem_cons_self ..)
    · rw [List.mem_singleton.mp hp]; exact c.empty _ (List.mem_cons_of_mem _ (List.mem_cons_self ..))
  · intro p hp
    rcases List.mem_cons.1 hp with z | hp
    · rw [z]; exact c.out _ (List.mem_cons_self ..)
    · rw [List.mem_singleton.mp hp]; exact c.out _ (List.mem_cons_of_mem _ (List.mem_cons_self ..))
  · intro p hp
    rcases List.mem_cons.1 hp with z | hp
    · rw [z]; exact PySem.W.codeHd_of_K X (c.hd _ (List.mem_cons_self ..))
    · rw [List.mem_singleton.mp hp]; exact PySem.W.codeHd_of_K X (c.hd _ (List.mem_cons_of_mem _ (List.mem_cons_self ..)))
  · intro s u
    exact L2.FunD.bindsA (ps := ["_law_script"]) q (fun _ _ _ _ _ _ us hl => match us, hl with | [_], _ => rfl) s [u] rfl
  · intro H a ns _ _ hH hS
    refine ⟨a, ns, rfl, hS, fun p hp => ?_, fun _ => rfl⟩
    rcases List.mem_cons.1 hp with z | hp
    · rw [z]; exact LamX.TabS.nil (hH (He.cT K ("greatest_of", none)) (List.mem_cons_self ..))
    · rw [List.mem_singleton.mp hp]; exact LamX.TabS.nil (hH (He.cT K ("_law_refused_right", none)) (List.mem_cons_of_mem _ (List.mem_cons_self ..)))
  · intro base XB GB tb
    subst efa
    exact @ok_law (tbsOf K) PySem.Challenge.rw_breakplans_k70_whole_who_may_stop.prog w K mg base (@top_of (tbsOf K) w K h mg base X G c rfl (tb _ (List.mem_cons_self ..)) (tb _ (List.mem_cons_of_mem _ (List.mem_cons_self ..))))
end K70
end
section
set_option maxHeartbeats 4000000
open PySem PySem.W PySem.Calls PyProof.Rows
theorem PySem.Challenge.cw_breakplans_k70_whole_who_may_stop_holds : PySem.Challenge.rw_breakplans_k70_whole_who_may_stop.Holds := by
  w_on
  o_law
  letI : K70.Tbs := ⟨[]⟩
  refine HandSHeadRun.head_any (r := OpenLaw.row PySem.Challenge.rw_breakplans_k70_whole_who_may_stop) (q := view (OpenLaw.row PySem.Challenge.rw_breakplans_k70_whole_who_may_stop).prog [45]) (H := K70.hk0) (ob := K70.ob0) (M := 20000) (loose := K70.loose0) (d := HandSHeadRun.topDef (OpenLaw.row PySem.Challenge.rw_breakplans_k70_whole_who_may_stop).prog 45) (kwd := []) K70.ob0_eq
    (by kernel_rfl) (fun s => by kernel_rfl) K70.run0 (by kernel_rfl) (by kernel_rfl) (by kernel_rfl) (by rfl) (by first | assumption | decide +kernel) (by decide +kernel) ⟨rfl, rfl, rfl, rfl, rfl, by decide +kernel⟩ ?hw ?hc
  case hw => w_witness2
  case hc =>
    refine LamX.walk_ofTsE (l := PySem.Challenge.rw_breakplans_k70_whole_who_may_stop) (n := 63) (k := 14) (x := "_law_script") (CX := fun _ => C8.CX0) rfl (by decide) (by kernel_rfl) ⟨rfl, by decide, by decide⟩ ?F (fun _ _ _ _ _ z => z)
    intro w mg fa h Y G hmg0
    have here : mg ("law" : PySem.Str) = some (.ref fa) := by
      have e : (HandSHeadRun.topDef (OpenLaw.row PySem.Challenge.rw_breakplans_k70_whole_who_may_stop).prog 45).name = ("law" : PySem.Str) := by kernel_rfl
      rw [← e]
      exact hmg0
    exact K70.law_at Y G here
end
